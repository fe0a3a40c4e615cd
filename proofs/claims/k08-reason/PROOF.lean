import PyProof.Rows.All
import Wide.All
import OpenK.AllK
import Wide.FinOn
import KE.KStateDown
import HandS.ForMost
import HandS.ForExc
import HandS.More
import HandS.Wide
import HandS.WideBits
import HandS.Style
import HandS.Flow
import HandS.Zip
import HandS.TupLen
import HandS.Deep
import HandS.IsInst
import HandS.Defaults
import HandS.Head0
import HandS.Head1
import HandS.Head2
import HandS.HeadEnd
import HandS.HeadHook1
import HandS.HeadHook2
import HandS.HeadHook3
import HandS.HeadHook4
import HandS.HeadWalk
import HandS.Evl
import KE.DataMinMax
import KE.GoesMore
import KE.KeyNested
import KE.SortData
import HandS.Conv
import HandS.ExcIs
import HandS.ExcCtx
import HandS.HotCalls
import HandS.SetFor
import HandS.Strs
import PySem.Challenge.RW_brickfloor_k08_one_reason
set_option pp.maxSteps 700
set_option Elab.async false
set_option linter.all false
set_option maxRecDepth 100000
set_option maxHeartbeats 4000000
/-! ### a def of the top, where it stands, and its promise -/
namespace BF
open PySem PySem.Spec PyProof.Rows L2
abbrev FnP (K : PySem.W.Frag) (x q : Str) (st : Stmt) (f : Addr) (fd : FuncData) : Prop := FunD K x q (defArgs st) (defBody st) (defScope st) [] [] f fd
/-- the def x of the top stands where the module's name says -/
def Pl (K : PySem.W.Frag) (mg : Str → Option Value) (x : Str) (st : Stmt) : Prop := ∃ f fd, FnP K x x st f fd ∧ mg x = some (.ref f)
/-- the def x keeps its promise, by calls at most k deep -/
def Has (P : Program) (w : World) (K : PySem.W.Frag) (mg : Str → Option Value) (base : Heap) (C : CXT) (k : Nat) (x : Str) (ps : List Str) (sp : Sp) : Prop :=
  ∃ f fd, FnOk P w K mg base C k f fd ps sp ∧ mg x = some (.ref f) ∧ PySem.W.keepIn K (.ref f) = true ∧ Binds K fd ps [] ∧ ∃ oc od osl, K.lookup f = some ⟨oc, od, .func fd, osl⟩
section
variable {P : Program} {w : World} {K : PySem.W.Frag} {mg : Str → Option Value} {base : Heap} {x : Str} {st : Stmt} {N ps : List Str} {k : Nat} {sp : Sp}
theorem Pl.mkX {C : CXT} (p : Pl K mg x st) (S : FnScope N ps (defScope st))
    (hb : ∀ (kV doc pm : Value) (an : Option Addr) (cdv ct : Value) (us : List Value), us.length = ps.length → bindArgs (PySem.W.fnOf x x (defArgs st) (defBody st) (defScope st) .none kV doc pm an cdv ct) ⟨us, []⟩ = pure (ps.zip us))
    (len : ∀ vs H Q E, sp vs H Q E → vs.length = ps.length)
    (body : ∀ (f : Addr) (cdv : Value) (A : Around) (outer : List Env) (s : Shared) (H : Hp) (vs : List V) (Q : VK) (E : XK), Room k (A.deeper (envOfC x (defScope st) s.heap.objs.size f cdv)) → sp vs H Q E →
      ∃ t, PSs (cxOf C P w K mg base N x (defScope st) f cdv A outer s H E) (defBody st) t ∧ t { nx := fun _ H' => Q .non H', rt := Q } (start N vs) H) : Has P w K mg base C (k + 1) x ps sp := by
  obtain ⟨f, fd, F, g⟩ := p
  obtain ⟨oc, od, _, _, _, _, _, _, _, osl, _, lk, _⟩ := F.ex
  exact ⟨f, fd, F.ok S len (body f), g, F.kp, F.bindsN hb, oc, od, osl, lk⟩
/-- of the def at f (the law) -/
theorem Has.at {C : CXT} {f : Addr} {fd : FuncData} (h : Has P w K mg base C k x ps sp) (F : FnP K x x st f fd) (g : mg x = some (.ref f)) : FnOk P w K mg base C k f fd ps sp := by
  obtain ⟨f', fd', G, g', _, _, oc, od, osl, lk⟩ := h
  obtain ⟨oc2, od2, _, _, _, _, _, _, _, osl2, _, lk2, _⟩ := F.ex
  have e : f' = f := by
    have z := g'.symm.trans g
    cases z
    rfl
  subst e
  have z := lk.symm.trans lk2
  cases z
  exact G
theorem Pl.mk0 (p : Pl K mg x st) (S : FnScope N ps (defScope st))
    (hb : ∀ (kV doc pm : Value) (an : Option Addr) (cdv ct : Value) (us : List Value), us.length = ps.length → bindArgs (PySem.W.fnOf x x (defArgs st) (defBody st) (defScope st) .none kV doc pm an cdv ct) ⟨us, []⟩ = pure (ps.zip us))
    (len : ∀ vs H Q E, sp vs H Q E → vs.length = ps.length)
    (body : ∀ (f : Addr) (cdv : Value) (A : Around) (outer : List Env) (s : Shared) (H : Hp) (vs : List V) (Q : VK) (E : XK), Room k (A.deeper (envOfC x (defScope st) s.heap.objs.size f cdv)) → sp vs H Q E →
      ∃ t, PSs (cxOf CX0 P w K mg base N x (defScope st) f cdv A outer s H E).nox (defBody st) t ∧ t { nx := fun _ H' => Q .non H', rt := Q } (start N vs) H) : Has P w K mg base CX0 (k + 1) x ps sp :=
  p.mkX S hb len fun f cdv A outer s H vs Q E hr h => by
    obtain ⟨t, a, b⟩ := body f cdv A outer s H vs Q E hr h
    exact ⟨t, a.nox, b⟩
end
section
variable {X : Cx} {C : CXT} {k : Nat} {ps : List Str} {sp : Sp} {E : XK} {x : Str} {p pos : Pos} {e : Expr} {es : List Expr} {t : TA}
theorem pe_fn (h : Has X.prog X.w X.K X.mg X.base C k x ps sp) (hr : Room k X.A) (hx : Passes C X E) (ha : PA X (e :: es) t) (hg : Gl X x := by rfl) (hdb : (x == ("__debug__" : Str)) = false := by decide)
    (he : starEach (e :: es) X.env = (false, eval e X.env) :: starEach es X.env := by rfl) (hpl : (backTo pos (starEach es X.env)).any (·.1) = false := by rfl) : PE X (.Call (.Name x p) (e :: es) [] pos) (tCall sp [] E t) := by
  obtain ⟨f, fd, F, hm, hk, hb, _⟩ := h
  exact pe_call F hr hg hm hk hb .nil hx ha hdb he hpl
theorem pe_fn0 (h : Has X.prog X.w X.K X.mg X.base C k x ps sp) (hr : Room k X.A) (hx : Passes C X E) (hg : Gl X x := by rfl) (hdb : (x == ("__debug__" : Str)) = false := by decide) : PE X (.Call (.Name x p) [] [] pos) (tCall sp [] E tNil) := by
  obtain ⟨f, fd, F, hm, hk, hb, _⟩ := h
  exact pe_call0 F hr hg hm hk hb .nil hx hdb
end
theorem pe_const {X : Cx} {x : Str} {i : Int} {pos : Pos} (hg : Gl X x) (h : ∃ t, X.mg x = some (.int i t)) (hd : (x == ("__debug__" : Str)) = false := by decide) : PE X (.Name x pos) (tC (.int i)) := by
  obtain ⟨t, e⟩ := h
  exact pe_glob hg e ⟨_, rfl⟩ hd
/-! ### sizes of ints -/
/-- of less than n bits -/
structure Bn (n : Nat) (x : Int) : Prop where
  lt : x.natAbs < 2 ^ n
theorem Bn.mono {n m : Nat} {x : Int} (h : Bn n x) (l : n ≤ m) : Bn m x := ⟨Nat.lt_of_lt_of_le h.lt (Nat.pow_le_pow_right (by decide) l)⟩
theorem bnl {n : Nat} {x : Int} (h : x.natAbs < 2 ^ n) : Bn n x := ⟨h⟩
theorem bn0 {n : Nat} : Bn n 0 := ⟨Nat.two_pow_pos _⟩
theorem Bn.mul {n m : Nat} {x y : Int} (h : Bn n x) (k : Bn m y) : Bn (n + m) (x * y) := ⟨wide_lt h.lt k.lt⟩
theorem Bn.add {n m : Nat} {x y : Int} (h : Bn n x) (k : Bn m y) : Bn (n + m + 1) (x + y) := by
  have h1 : x.natAbs < 2 ^ n := h.lt
  have h2 : y.natAbs < 2 ^ m := k.lt
  have a : 2 ^ n ≤ 2 ^ (n + m) := Nat.pow_le_pow_right (by decide) (by omega)
  have b : 2 ^ m ≤ 2 ^ (n + m) := Nat.pow_le_pow_right (by decide) (by omega)
  have c : 2 ^ (n + m + 1) = 2 ^ (n + m) * 2 := Nat.pow_succ 2 (n + m)
  have d := Int.natAbs_add_le x y
  refine ⟨?_⟩
  omega
theorem Bn.le {n : Nat} {x y : Int} (h : Bn n y) (l : x.natAbs ≤ y.natAbs) : Bn n x := ⟨Nat.lt_of_le_of_lt l h.lt⟩
theorem Bn.of_le {n : Nat} {x y : Int} (h : Bn n y) (h0 : 0 ≤ x) (l : x ≤ y) : Bn n x := h.le (by omega)
theorem Bn.neg {n : Nat} {x : Int} (h : Bn n x) : Bn n (-x) := h.le (by omega)
theorem Bn.sub {n m : Nat} {x y : Int} (h : Bn n x) (k : Bn m y) : Bn (n + m + 1) (x - y) := by
  rw [Int.sub_eq_add_neg]
  exact h.add k.neg
theorem Bn.mulOk {n m : Nat} {x y : Int} (h : Bn n x) (k : Bn m y) (l : n + m ≤ 134217728) : CMulX x y := mulx_ok h.lt k.lt l
theorem Bn.divOk {n : Nat} {x y : Int} (k : Bn n y) (p : 0 < y) (h0 : 0 < n) (l : n ≤ 9000) : CDivW x y := wide_div p k.lt h0 l
theorem divOk_lit {x : Int} {y : Int} (p : 0 < y) (l : y < 4294967296) : CDivW x y := wide_div (b := 32) p (by omega) (by decide) (by decide)
theorem Bn.div {n : Nat} {x y : Int} (h : Bn n x) (p : 0 < y) : Bn n (x / y) := by
  refine h.le ?_
  have a := Int.emod_add_mul_ediv x y
  have b := Int.emod_nonneg x (Int.ne_of_gt p)
  have c := Int.emod_lt_of_pos x p
  rcases Int.lt_or_le x 0 with hx | hx
  · -- x < 0: x / y ≥ x
    have d : x / y < 0 := Int.ediv_neg_of_neg_of_pos hx p
    have e : y * (x / y) ≤ 1 * (x / y) := Int.mul_le_mul_of_nonpos_right (by omega) (by omega)
    rcases Int.lt_or_le (x / y) x with f | f
    · have q1 : y * (x / y) ≤ y * (x - 1) := Int.mul_le_mul_of_nonneg_left (by omega) (by omega)
      have q2 : y * (x - 1) = y * x - y := by rw [Int.mul_sub, Int.mul_one]
      have q3 : y * x ≤ 1 * x := Int.mul_le_mul_of_nonpos_right (by omega) (by omega)
      omega
    · omega
  · have d : 0 ≤ x / y := Int.ediv_nonneg hx (Int.le_of_lt p)
    have e : 1 * (x / y) ≤ y * (x / y) := Int.mul_le_mul_of_nonneg_right (by omega) d
    omega
theorem Bn.mod {n : Nat} {x y : Int} (h : Bn n y) (p : 0 < y) : Bn n (x % y) := h.of_le (Int.emod_nonneg x (Int.ne_of_gt p)) (Int.le_of_lt (Int.emod_lt_of_pos x p))
theorem bn_bits {n : Nat} {x : Int} (h : Builtin.Int.intBits x ≤ n) : Bn (n + 1) x := by
  unfold Builtin.Int.intBits at h
  refine ⟨?_⟩
  split at h
  · rename_i z
    have e : x = 0 := by simpa using z
    rw [e]
    exact Nat.two_pow_pos _
  · have a : x.natAbs < 2 ^ (x.natAbs.log2 + 1) := Nat.lt_log2_self
    exact Nat.lt_of_lt_of_le a (Nat.pow_le_pow_right (by decide) (by omega))
theorem mulOk_left {x y : Int} (h : x.natAbs < 4294967296) (k : Bn 100000000 y) : CMulX x y := mulx_ok (a := 32) h k.lt (by decide)
/-- a size of the program: from 1 on, of less than 2000 bits -/
structure Sz (x : Int) : Prop where
  pos : 0 < x
  bn : Bn 2000 x
/-! ### heaps that grow -/
theorem same_upd {H : Hp} {p : Addr} {o : HO} (h : H p = none) : Same H (upd H p o) := fun b x e => by
  rw [upd_ne (ne_of_none e h)]
  exact e
theorem newH {H H2 : Hp} {p : Addr} {o : HO} (e : upd H p o = H2) (hp : H p = none) : Same H H2 ∧ H2 p = some o := by
  rw [← e]
  exact ⟨same_upd hp, upd_same⟩
theorem Same.tup {K : PySem.W.Frag} {H H' : Hp} {a : Addr} {xs : List V} (e : Same H H') (h : SqT K H a xs) : SqT K H' a xs := by
  rcases h with (h | ⟨o, h⟩) | h
  · exact .inl (.inl (e _ _ h))
  · exact .inl (.inr ⟨o, e _ _ h⟩)
  · exact .inr h
theorem sqL {K : PySem.W.Frag} {H : Hp} {a : Addr} {xs : List V} (h : H a = some (.lst xs)) : SqL K H a xs := .inl (.inl h)
theorem sqT {K : PySem.W.Frag} {H : Hp} {a : Addr} {xs : List V} (h : H a = some (.tup xs)) : SqT K H a xs := .inl (.inl h)
/-- the int that a slot holds, as a measure -/
def slotN (σ : L2.St) (i : Nat) : Nat := match σ[i]? with
  | some (some (.int n)) => n.toNat
  | _ => 0
section
variable {A B : Prop} {i j : Int}
theorem iteD {p : Prop} [Decidable p] (h1 : p → A) (h2 : ¬ p → B) : if decide p = true then A else B := ite2 (fun c => h1 (of_decide_eq_true c)) fun c => h2 fun z => c (decide_eq_true z)
theorem iteEq (h1 : i = j → A) (h2 : i ≠ j → B) : if decide (V.int i = V.int j) = true then A else B := iteD (fun c => h1 (V.int.inj c)) fun c => h2 fun z => c (by rw [z])
theorem iteNe (h1 : i ≠ j → A) (h2 : i = j → B) : if (!decide (V.int i = V.int j)) = true then A else B := by
  by_cases c : i = j
  · rw [decide_eq_true (show V.int i = V.int j by rw [c])]
    exact iteF (h2 c)
  · rw [decide_eq_false (show ¬ V.int i = V.int j from fun z => c (V.int.inj z))]
    exact iteT (h1 c)
theorem iteP {p : Prop} [Decidable p] (hp : p) (h : A) : if decide p = true then A else B := by
  rw [decide_eq_true hp]
  exact iteT h
theorem iteN {p : Prop} [Decidable p] (hp : ¬ p) (h : B) : if decide p = true then A else B := by
  rw [decide_eq_false hp]
  exact iteF h
theorem iteNP {p : Prop} [Decidable p] (hp : p) (h : B) : if (!decide p) = true then A else B := by
  rw [decide_eq_true hp]
  exact iteF h
theorem iteNN {p : Prop} [Decidable p] (hp : ¬ p) (h : A) : if (!decide p) = true then A else B := by
  rw [decide_eq_false hp]
  exact iteT h
theorem iteB {b : Bool} (h1 : b = true → A) (h2 : b = false → B) : if b = true then A else B := by
  cases b with
  | true => exact iteT (h1 rfl)
  | false => exact iteF (h2 rfl)
end
def rLen2 (K : PySem.W.Frag) : List V → Hp → VK → Prop := fun xs H Q => ∃ p ys, xs = [.ref p] ∧ (SqL K H p ys ∨ SqT K H p ys) ∧ Q (.int ys.length) H
theorem lc_yes {σ : L2.St} {H : Hp} {A B : Hp → Prop} (h : A H) : tYes σ H fun b H3 => if b = true then A H3 else B H3 := by
  show if true = true then A H else B H
  rw [if_pos rfl]
  exact h
/-- if t: .. where t is not so, in whatever way it is told -/
theorem if_no {T : TT} {R U : TS} {D : Ends} {σ : L2.St} {H H' : Hp} (hT : ∀ r : Bool → Hp → Prop, r false H' → T σ H r) (hU : U D σ H') : tSeq (tIfS T R tNext) U D σ H :=
  hT _ (by
    show if false = true then _ else _
    exact iteF hU)
theorem tn {D : Ends} {σ : L2.St} {H : Hp} (h : D.nx σ H) : tNext D σ H := h
theorem mul_in {x y A B : Int} (hx : 0 ≤ x) (ha : x ≤ A) (hy : 0 ≤ y) (hb : y ≤ B) : 0 ≤ x * y ∧ x * y ≤ A * B :=
  ⟨Int.mul_nonneg hx hy, Int.le_trans (Int.mul_le_mul_of_nonneg_left hb hx) (Int.mul_le_mul_of_nonneg_right ha (Int.le_trans hy hb))⟩
/-- go on from a word -/
theorem enter {t : TS} {D : Ends} {σ : L2.St} {H : Hp} (M : L2.St → Hp → Prop) (h : M σ H) (k : ∀ σ H, M σ H → t D σ H) : t D σ H := k σ H h
theorem u65 {k : Nat} {A : Around} (r : Room k A) : A.units + 65 < cLine := by have := r.un; omega
theorem size4 {n : Nat} (h : n ≤ 1000000) : n ≤ sizeLine := Nat.le_trans h (by decide)
end BF

/-! Plain mathematics: a size as a sum of two others, the fewest of the first one. -/
namespace BF
/-- m of the first and n of the second make the size -/
def Rep (s a b m n : Int) : Prop := 0 ≤ m ∧ 0 ≤ n ∧ m * a + n * b = s
def IsParts (s a b : Int) : Option (Int × Int) → Prop
  | none => ∀ m n, ¬ Rep s a b m n
  | some x => Rep s a b x.1 x.2 ∧ ∀ m n, Rep s a b m n → x.1 ≤ m
theorem IsParts.unique {s a b : Int} (hb : 0 < b) : ∀ {x y : Option (Int × Int)}, IsParts s a b x → IsParts s a b y → x = y
  | none, none, _, _ => rfl
  | none, some y, h, k => absurd k.1 (h _ _)
  | some x, none, h, k => absurd h.1 (k _ _)
  | some (m, n), some (m', n'), h, k => by
    have h1 := h.2 _ _ k.1
    have h2 := k.2 _ _ h.1
    have e : m = m' := Int.le_antisymm h1 h2
    subst e
    have e1 := h.1.2.2
    have e2 := k.1.2.2
    simp only at e1 e2
    have e3 : n * b = n' * b := by omega
    have e4 : n = n' := Int.eq_of_mul_eq_mul_right (Int.ne_of_gt hb) e3
    rw [e4]
open Classical in
/-- how s is a sum of a and b -/
noncomputable def parts (s a b : Int) : Option (Int × Int) := if h : ∃ x, IsParts s a b x then h.choose else none
theorem parts_eq {s a b : Int} {x : Option (Int × Int)} (hb : 0 < b) (h : IsParts s a b x) : parts s a b = x := by
  unfold parts
  have e : ∃ x, IsParts s a b x := ⟨x, h⟩
  rw [dif_pos e]
  exact IsParts.unique hb e.choose_spec h
/-- g goes into both, t of the first leave it by the second -/
structure Good (a b g t : Int) : Prop where
  pos : 0 < g
  ga : g ∣ a
  gb : g ∣ b
  mod : b ∣ t * a - g
theorem few_core {s a b g t : Int} (ha : 0 < a) (hb : 0 < b) (G : Good a b g t) (hs : g ∣ s) :
    b ∣ s - (s / g * t % (b / g)) * a ∧ 0 ≤ s / g * t % (b / g) ∧ ∀ m, 0 ≤ m → b ∣ s - m * a → s / g * t % (b / g) ≤ m := by
  obtain ⟨hg, ⟨a', ea⟩, ⟨b', eb⟩, ⟨k, ek⟩⟩ := G
  obtain ⟨s', es⟩ := hs
  have hb' : 0 < b' := by
    have h2 : 0 < g * b' := by rw [← eb]; exact hb
    rcases Int.lt_or_le 0 b' with h | h
    · exact h
    · have h3 : g * b' ≤ g * 0 := Int.mul_le_mul_of_nonneg_left h (Int.le_of_lt hg)
      omega
  have e1 : s / g = s' := by rw [es]; exact Int.mul_ediv_cancel_left s' (Int.ne_of_gt hg)
  have e2 : b / g = b' := by rw [eb]; exact Int.mul_ediv_cancel_left b' (Int.ne_of_gt hg)
  rw [e1, e2]
  have hmod := Int.emod_add_mul_ediv (s' * t) b'
  generalize hf : s' * t % b' = f at hmod ⊢
  generalize s' * t / b' = q at hmod
  have h0 : 0 ≤ f := by rw [← hf]; exact Int.emod_nonneg _ (Int.ne_of_gt hb')
  have h1 : f < b' := by rw [← hf]; exact Int.emod_lt_of_pos _ hb'
  have key : b ∣ s - f * a := by
    -- f = s't - b'q, so s - f a = s - s't a + b' q a = s - s'(g + bk) + b'q g a' = b (q a' - s' k)
    refine ⟨q * a' - s' * k, ?_⟩
    have ef : f = s' * t - b' * q := by omega
    have et : t * a = g + b * k := by omega
    calc s - f * a = s - (s' * t - b' * q) * a := by rw [ef]
      _ = s - s' * (t * a) + b' * q * a := by rw [Int.sub_mul, Int.mul_assoc s' t a]; omega
      _ = s - s' * (g + b * k) + b' * q * (g * a') := by rw [et, ← ea]
      _ = b * (q * a' - s' * k) := by
        rw [Int.mul_add, Int.mul_sub, es, eb]
        have x1 : s' * g = g * s' := Int.mul_comm _ _
        have x2 : s' * (g * b' * k) = g * b' * (s' * k) := by
          rw [Int.mul_left_comm]
        have x3 : b' * q * (g * a') = g * b' * (q * a') := by
          rw [Int.mul_comm g b', Int.mul_assoc b' q, Int.mul_assoc b' g, Int.mul_left_comm q g a']
        rw [x1, x2, x3]
        omega
  refine ⟨key, h0, fun m hm hd => ?_⟩
  -- b | (m - f) a, so b | (m - f) g, so b' | m - f
  have d1 : b ∣ (m - f) * a := by
    have : (m - f) * a = (s - f * a) - (s - m * a) := by rw [Int.sub_mul]; omega
    rw [this]
    exact Int.dvd_sub key hd
  have d2 : b ∣ (m - f) * g := by
    have e3 : (m - f) * g = (m - f) * a * t - b * ((m - f) * k) := by
      have et : t * a = g + b * k := by omega
      have : (m - f) * a * t = (m - f) * (t * a) := by rw [Int.mul_assoc, Int.mul_comm a t]
      rw [this, et, Int.mul_add, Int.mul_left_comm (m - f) b k]
      omega
    rw [e3]
    exact Int.dvd_sub (Int.dvd_trans d1 (Int.dvd_mul_right _ _)) (Int.dvd_mul_right _ _)
  have d3 : b' ∣ m - f := by
    obtain ⟨c, ec⟩ := d2
    refine ⟨c, ?_⟩
    have : g * (m - f) = g * (b' * c) := by rw [Int.mul_comm g (m - f), ec, eb, Int.mul_assoc]
    exact Int.eq_of_mul_eq_mul_left (Int.ne_of_gt hg) this
  obtain ⟨c, ec⟩ := d3
  -- m = f + b' c with m ≥ 0, f < b': c ≥ 0
  have hc : 0 ≤ c := by
    rcases Int.lt_or_le c 0 with hc | hc
    · have h2 : b' * c ≤ b' * (-1) := Int.mul_le_mul_of_nonneg_left (by omega) (Int.le_of_lt hb')
      omega
    · exact hc
  have h3 : 0 ≤ b' * c := Int.mul_nonneg (Int.le_of_lt hb') hc
  omega
theorem parts_good {s a b g t : Int} (ha : 0 < a) (hb : 0 < b) (G : Good a b g t) :
    parts s a b = if s % g ≠ 0 then none else if s / g * t % (b / g) * a > s then none else some (s / g * t % (b / g), (s - s / g * t % (b / g) * a) / b) := by
  refine parts_eq hb ?_
  by_cases hs : s % g ≠ 0
  · rw [if_pos hs]
    rintro m n ⟨_, _, e⟩
    refine hs (Int.emod_eq_zero_of_dvd ?_)
    rw [← e]
    exact Int.dvd_add (Int.dvd_trans G.ga (Int.dvd_mul_left _ _)) (Int.dvd_trans G.gb (Int.dvd_mul_left _ _))
  · rw [if_neg hs]
    have hd : g ∣ s := Int.dvd_of_emod_eq_zero (by omega)
    obtain ⟨k1, k2, k3⟩ := few_core ha hb G hd
    generalize s / g * t % (b / g) = f at k1 k2 k3
    have least : ∀ m n, Rep s a b m n → f ≤ m := fun m n ⟨h1, h2, h3⟩ => k3 m h1 ⟨n, by rw [Int.mul_comm b n]; omega⟩
    by_cases hf : f * a > s
    · rw [if_pos hf]
      rintro m n R
      have l := least m n R
      obtain ⟨h1, h2, h3⟩ := R
      have p1 : f * a ≤ m * a := Int.mul_le_mul_of_nonneg_right l (Int.le_of_lt ha)
      have p2 : 0 ≤ n * b := Int.mul_nonneg h2 (Int.le_of_lt hb)
      omega
    · rw [if_neg hf]
      refine ⟨⟨k2, Int.ediv_nonneg (by omega) (Int.le_of_lt hb), ?_⟩, least⟩
      show f * a + (s - f * a) / b * b = s
      rw [Int.ediv_mul_cancel k1]
      omega
/-- the law's number: the fewest of the first, -1 where there is none -/
def fewI : Option (Int × Int) → Int
  | none => -1
  | some x => x.1
theorem parts_some {s a b m n : Int} (hb : 0 < b) (h : parts s a b = some (m, n)) (ex : ∃ x, IsParts s a b x) : IsParts s a b (some (m, n)) := by
  obtain ⟨x, hx⟩ := ex
  have e := parts_eq hb hx
  rw [h] at e
  rw [e]
  exact hx
end BF

/-! ### plain mathematics of the loop in shared -/
namespace BF
structure ShInv (a b one other mine theirs : Int) : Prop where
  o1 : 0 < one
  o2 : 0 ≤ other
  l1 : one ≤ a ∨ one ≤ b
  l2 : other ≤ b
  dv : ∀ d : Int, (d ∣ one ∧ d ∣ other) ↔ (d ∣ a ∧ d ∣ b)
  m1 : b ∣ mine * a - one
  m2 : b ∣ theirs * a - other
  bd : ∃ M T : Int, 0 ≤ M ∧ 0 ≤ T ∧ M ≤ b ∧ T ≤ b ∧ T * one + M * other = b ∧ ((mine = M ∧ theirs = -T) ∨ (mine = -M ∧ theirs = T))
theorem ShInv.start {a b : Int} (ha : 0 < a) (hb : 0 < b) : ShInv a b a b 1 0 where
  o1 := ha
  o2 := Int.le_of_lt hb
  l1 := .inl (Int.le_refl _)
  l2 := Int.le_refl _
  dv := fun d => Iff.rfl
  m1 := by rw [Int.one_mul, Int.sub_self]; exact Int.dvd_zero b
  m2 := by rw [Int.zero_mul, Int.zero_sub]; exact Int.dvd_neg.mpr (Int.dvd_refl b)
  bd := ⟨1, 0, by omega, by omega, by omega, by omega, by omega, .inl ⟨rfl, by omega⟩⟩
theorem ShInv.turn {a b one other mine theirs : Int} (h : ShInv a b one other mine theirs) (ho : 0 < other) :
    ShInv a b other (one - one / other * other) theirs (mine - one / other * theirs) ∧ one - one / other * other < other ∧ 0 ≤ one - one / other * other := by
  obtain ⟨o1, o2, l1, l2, dv, m1, m2, M, T, hM, hT, lM, lT, e, sg⟩ := h
  have hm : one - one / other * other = one % other := by
    have := Int.emod_add_mul_ediv one other
    rw [Int.mul_comm] at this
    omega
  have h0 : 0 ≤ one % other := Int.emod_nonneg _ (Int.ne_of_gt ho)
  have h1 : one % other < other := Int.emod_lt_of_pos _ ho
  have hq : 0 ≤ one / other := Int.ediv_nonneg (Int.le_of_lt o1) o2
  refine ⟨?_, by omega, by omega⟩
  generalize hqq : one / other = q at *
  have key : (M + q * T) * other + T * (one - q * other) = b := by
    have x1 : (M + q * T) * other = M * other + q * T * other := Int.add_mul _ _ _
    have x2 : T * (one - q * other) = T * one - q * T * other := by rw [Int.mul_sub, ← Int.mul_assoc, Int.mul_comm T q]
    omega
  have hqT : 0 ≤ q * T := Int.mul_nonneg hq hT
  have hn : 0 ≤ T * (one - q * other) := Int.mul_nonneg hT (by omega)
  have l3 : M + q * T ≤ b := by
    have : (M + q * T) * 1 ≤ (M + q * T) * other := Int.mul_le_mul_of_nonneg_left (by omega) (by omega)
    omega
  refine ⟨ho, by omega, .inr l2, by omega, fun d => ?_, m2, ?_, T, M + q * T, hT, by omega, lT, l3, key, ?_⟩
  · rw [← dv d]
    constructor
    · rintro ⟨a1, a2⟩
      refine ⟨?_, a1⟩
      have : one = (one - q * other) + q * other := by omega
      rw [this]
      exact Int.dvd_add a2 (Int.dvd_trans a1 (Int.dvd_mul_left _ _))
    · rintro ⟨a1, a2⟩
      exact ⟨a2, Int.dvd_sub a1 (Int.dvd_trans a2 (Int.dvd_mul_left _ _))⟩
  · have : (mine - q * theirs) * a - (one - q * other) = (mine * a - one) - q * (theirs * a - other) := by
      rw [Int.sub_mul, Int.mul_sub, Int.mul_assoc]
      omega
    rw [this]
    exact Int.dvd_sub m1 (Int.dvd_trans m2 (Int.dvd_mul_left _ _))
  · rcases sg with ⟨r1, r2⟩ | ⟨r1, r2⟩
    · right
      subst r1 r2
      refine ⟨rfl, ?_⟩
      rw [Int.mul_neg]
      omega
    · left
      subst r1 r2
      exact ⟨rfl, by omega⟩
theorem ShInv.done {a b one mine theirs : Int} (ha : 0 < a) (hb : 0 < b) (h : ShInv a b one 0 mine theirs) : Good a b one (mine % b) ∧ one ≤ b := by
  have d := (h.dv one).mp ⟨Int.dvd_refl _, Int.dvd_zero _⟩
  refine ⟨⟨h.o1, d.1, d.2, ?_⟩, Int.le_of_dvd hb d.2⟩
  have e : mine % b * a - one = (mine * a - one) - b * (mine / b * a) := by
    have := Int.emod_add_mul_ediv mine b
    have x : mine % b = mine - b * (mine / b) := by omega
    rw [x, Int.sub_mul, Int.mul_assoc]
    omega
  rw [e]
  exact Int.dvd_sub h.m1 (Int.dvd_mul_right _ _)
theorem ShInv.theirs_le {a b one other mine theirs : Int} (h : ShInv a b one other mine theirs) : theirs.natAbs ≤ b.natAbs ∧ mine.natAbs ≤ b.natAbs := by
  obtain ⟨M, T, hM, hT, lM, lT, _, sg⟩ := h.bd
  rcases sg with ⟨r1, r2⟩ | ⟨r1, r2⟩ <;> (subst r1 r2; omega)
end BF

/-! ### plain mathematics of the law's own reckoning: the divisions' rows, and the way back -/
namespace BF
/-- rows: the quotients of the divisions that begin at one, other -/
inductive Eu : Int → Int → List Int → Prop where
  | nil {one : Int} (h : 0 < one) : Eu one 0 []
  | cons {one other : Int} {r : List Int} (h1 : 0 < one) (h2 : 0 < other) (h : Eu other (one % other) r) : Eu one other (one / other :: r)
def back : List Int → Int × Int
  | [] => (1, 0)
  | q :: r => ((back r).2, (back r).1 - q * (back r).2)
theorem Eu.pos : ∀ {one other : Int} {r : List Int}, Eu one other r → 0 < one ∧ 0 ≤ other
  | _, _, _, .nil h => ⟨h, Int.le_refl _⟩
  | _, _, _, .cons h1 h2 _ => ⟨h1, Int.le_of_lt h2⟩
theorem Eu.back : ∀ {one other : Int} {r : List Int}, Eu one other r → ∃ g, 0 < g ∧ (∀ d : Int, d ∣ g ↔ d ∣ one ∧ d ∣ other) ∧ (back r).1 * one + (back r).2 * other = g ∧ (r ≠ [] → (BF.back r).1.natAbs ≤ other.natAbs ∧ (BF.back r).2.natAbs ≤ one.natAbs)
  | _, _, _, .nil (one := one) h => by
    refine ⟨one, h, fun d => ⟨fun e => ⟨e, Int.dvd_zero d⟩, fun e => e.1⟩, ?_, fun z => absurd rfl z⟩
    show (1 : Int) * one + 0 * 0 = one
    omega
  | _, _, _, .cons (one := one) (other := other) (r := r) h1 h2 h => by
    obtain ⟨g, hg, dv, e, bd⟩ := Eu.back h
    have hm := Int.emod_add_mul_ediv one other
    have hq : 0 ≤ one / other := Int.ediv_nonneg (Int.le_of_lt h1) (Int.le_of_lt h2)
    have hr0 : 0 ≤ one % other := Int.emod_nonneg _ (Int.ne_of_gt h2)
    refine ⟨g, hg, fun d => ?_, ?_, fun _ => ?_⟩
    · rw [dv d]
      constructor
      · rintro ⟨a1, a2⟩
        refine ⟨?_, a1⟩
        rw [← hm]
        exact Int.dvd_add a2 (Int.dvd_trans a1 (Int.dvd_mul_right _ _))
      · rintro ⟨a1, a2⟩
        refine ⟨a2, ?_⟩
        have : one % other = one - other * (one / other) := by omega
        rw [this]
        exact Int.dvd_sub a1 (Int.dvd_trans a2 (Int.dvd_mul_right _ _))
    · show (BF.back r).2 * one + ((BF.back r).1 - one / other * (BF.back r).2) * other = g
      generalize (BF.back r).1 = m at *
      generalize (BF.back r).2 = t at *
      generalize one / other = q at *
      have x1 : (m - q * t) * other = m * other - t * (other * q) := by
        rw [Int.sub_mul, Int.mul_comm q t, Int.mul_assoc, Int.mul_comm q other]
      have x2 : t * one = t * (one % other) + t * (other * q) := by rw [← Int.mul_add, hm]
      omega
    · show (BF.back r).2.natAbs ≤ other.natAbs ∧ ((BF.back r).1 - one / other * (BF.back r).2).natAbs ≤ one.natAbs
      cases r with
      | nil =>
        show (0 : Int).natAbs ≤ other.natAbs ∧ ((1 : Int) - one / other * 0).natAbs ≤ one.natAbs
        omega
      | cons q' r' =>
        obtain ⟨b1, b2⟩ := bd (by simp)
        refine ⟨b2, ?_⟩
        generalize (BF.back (q' :: r')).1 = m at *
        generalize (BF.back (q' :: r')).2 = t at *
        have x3 : (one / other * t).natAbs ≤ (other * (one / other)).natAbs := by
          rw [Int.natAbs_mul, Int.natAbs_mul, Nat.mul_comm other.natAbs]
          exact Nat.mul_le_mul_left _ b2
        have x4 : 0 ≤ other * (one / other) := Int.mul_nonneg (Int.le_of_lt h2) hq
        omega
theorem Eu.drop {B : Int} : ∀ {one other : Int} {r : List Int}, Eu one other r → one ≤ B → other ≤ B → ∀ k, k ≤ r.length → ∃ x y, Eu x y (r.drop k) ∧ x ≤ B ∧ y ≤ B
  | _, _, _, .nil h, l1, l2, k, hk => ⟨_, _, by rw [List.drop_nil]; exact .nil h, l1, l2⟩
  | _, _, _, .cons h1 h2 h, l1, l2, 0, _ => ⟨_, _, .cons h1 h2 h, l1, l2⟩
  | _, _, _, .cons (one := one) (other := other) h1 h2 h, l1, l2, k + 1, hk => by
    have h3 : one % other < other := Int.emod_lt_of_pos _ h2
    exact Eu.drop h l2 (by omega) k (by simpa using hk)
theorem emod_le_self {x y : Int} (h : 0 < x) (hy : 0 < y) : x % y ≤ x := by
  have hm := Int.emod_add_mul_ediv x y
  have hq : 0 ≤ x / y := Int.ediv_nonneg (Int.le_of_lt h) (Int.le_of_lt hy)
  have : 0 ≤ y * (x / y) := Int.mul_nonneg (Int.le_of_lt hy) hq
  omega
/-- the loop that gathers the rows -/
structure FwInv (a b : Int) (rows : List Int) (one other : Int) : Prop where
  o1 : 0 < one
  o2 : 0 ≤ other
  l1 : one ≤ a ∨ one ≤ b
  l2 : other ≤ b
  go : ∀ r, Eu one other r → Eu a b (rows ++ r)
  less : rows ≠ [] → other < one
  fst : rows = [] → one = a ∧ other = b
  len : one * other * 2 ^ rows.length ≤ 2 * (a * b)
theorem FwInv.start {a b : Int} (ha : 0 < a) (hb : 0 < b) : FwInv a b [] a b where
  o1 := ha
  o2 := Int.le_of_lt hb
  l1 := .inl (Int.le_refl _)
  l2 := Int.le_refl _
  go := fun r h => h
  less := fun z => absurd rfl z
  fst := fun _ => ⟨rfl, rfl⟩
  len := by
    have : 0 < a * b := Int.mul_pos ha hb
    show a * b * 1 ≤ 2 * (a * b)
    omega
theorem FwInv.turn {a b one other : Int} {rows : List Int} (h : FwInv a b rows one other) (ho : 0 < other) : FwInv a b (rows ++ [one / other]) other (one % other) := by
  obtain ⟨o1, o2, l1, l2, go, less, fst, len⟩ := h
  have h0 : 0 ≤ one % other := Int.emod_nonneg _ (Int.ne_of_gt ho)
  have h1 : one % other < other := Int.emod_lt_of_pos _ ho
  refine ⟨ho, h0, .inr l2, by omega, fun r hr => ?_, fun _ => h1, fun z => by simp at z, ?_⟩
  · rw [List.append_assoc]
    exact go _ (.cons o1 ho hr)
  · rw [List.length_append, List.length_singleton, Int.pow_succ]
    have hp : (0 : Int) ≤ 2 ^ rows.length := Int.pow_nonneg (by decide)
    cases rows with
    | nil =>
      show other * (one % other) * (1 * 2) ≤ 2 * (a * b)
      obtain ⟨e1, e2⟩ := fst rfl
      subst e1 e2
      have x : other * (one % other) ≤ other * one := Int.mul_le_mul_of_nonneg_left (emod_le_self o1 ho) o2
      rw [Int.mul_comm other one] at x
      omega
    | cons q r =>
      have hl := less (by simp)
      have x : 2 * (one % other) ≤ one := by
        have hm := Int.emod_add_mul_ediv one other
        have hq : 1 ≤ one / other := by
          rcases Int.lt_or_le (one / other) 1 with c | c
          · have : other * (one / other) ≤ other * 0 := Int.mul_le_mul_of_nonneg_left (by omega) o2
            omega
          · exact c
        have : other * 1 ≤ other * (one / other) := Int.mul_le_mul_of_nonneg_left hq o2
        omega
      have y : other * (one % other) * ((2 : Int) ^ (q :: r).length * 2) = (other * (2 * (one % other))) * 2 ^ (q :: r).length := by
        rw [Int.mul_comm ((2 : Int) ^ (q :: r).length) 2, ← Int.mul_assoc, Int.mul_assoc other, Int.mul_comm (one % other) 2]
      rw [y]
      refine Int.le_trans (Int.mul_le_mul_of_nonneg_right ?_ hp) len
      rw [Int.mul_comm one other]
      exact Int.mul_le_mul_of_nonneg_left x o2
theorem two_pow_cast (n : Nat) : ((2 ^ n : Nat) : Int) = (2 : Int) ^ n := by
  rw [Int.natCast_pow]
  rfl
/-- at most 4001 rows -/
theorem FwInv.few {a b one other : Int} {rows : List Int} (h : FwInv a b rows one other) (ho : 0 < other) (ha : a.natAbs < 2 ^ 2000) (hb : b.natAbs < 2 ^ 2000) : rows.length ≤ 4001 := by
  have e := h.len
  have h1 : 1 ≤ one * other := Int.mul_pos h.o1 ho
  have hp : (0 : Int) ≤ 2 ^ rows.length := by
    rw [← two_pow_cast]
    exact Int.natCast_nonneg _
  have h2 : (1 : Int) * 2 ^ rows.length ≤ one * other * 2 ^ rows.length := Int.mul_le_mul_of_nonneg_right h1 hp
  have h3 : (a * b).natAbs < 2 ^ 4000 := by
    rw [Int.natAbs_mul, show (4000 : Nat) = 2000 + 2000 from rfl, Nat.pow_add]
    exact Nat.mul_lt_mul'' ha hb
  have h4 : ((2 ^ rows.length : Nat) : Int) ≤ 2 * (a * b) := by
    rw [two_pow_cast]
    omega
  have h5 : 2 ^ rows.length < 2 ^ 4001 := by
    rw [show (4001 : Nat) = 4000 + 1 from rfl, Nat.pow_succ]
    generalize 2 ^ 4000 = Z at *
    generalize 2 ^ rows.length = Y at *
    omega
  have h6 : rows.length < 4001 := (Nat.pow_lt_pow_iff_right (by decide)).mp h5
  omega
/-- the law's way back gives what the program's way gives -/
theorem few_back {s a b g g2 : Int} {rows : List Int} (hs : 0 < s) (ha : 0 < a) (hb : 0 < b) (hg : 0 < g) (dg : ∀ d : Int, d ∣ g ↔ d ∣ a ∧ d ∣ b) (E : Eu (a / g) (b / g) rows) (hz : s % g = 0) :
    fewI (parts s a b) = if s / g * (back rows).1 % (b / g) * (a / g) ≤ s / g then s / g * (back rows).1 % (b / g) else -1 := by
  obtain ⟨da, db⟩ := (dg g).mp (Int.dvd_refl g)
  obtain ⟨a', ea⟩ := da
  obtain ⟨b', eb⟩ := db
  obtain ⟨s', es⟩ := Int.dvd_of_emod_eq_zero hz
  have e1 : s / g = s' := by rw [es]; exact Int.mul_ediv_cancel_left s' (Int.ne_of_gt hg)
  have e2 : b / g = b' := by rw [eb]; exact Int.mul_ediv_cancel_left b' (Int.ne_of_gt hg)
  have e3 : a / g = a' := by rw [ea]; exact Int.mul_ediv_cancel_left a' (Int.ne_of_gt hg)
  rw [e2, e3] at E
  obtain ⟨h, hh, dh, eh, _⟩ := E.back
  have h1 : h = 1 := by
    obtain ⟨x1, x2⟩ := (dh h).mp (Int.dvd_refl h)
    have d1 : g * h ∣ g := (dg _).mpr ⟨by rw [ea]; exact Int.mul_dvd_mul_left g x1, by rw [eb]; exact Int.mul_dvd_mul_left g x2⟩
    have l1 := Int.le_of_dvd hg d1
    rcases Int.lt_or_le 1 h with c | c
    · have : g * 2 ≤ g * h := Int.mul_le_mul_of_nonneg_left (by omega) (Int.le_of_lt hg)
      omega
    · omega
  have G : Good a b g (back rows).1 := by
    refine ⟨hg, ⟨a', ea⟩, ⟨b', eb⟩, -(back rows).2, ?_⟩
    rw [h1] at eh
    generalize (back rows).1 = m at *
    generalize (back rows).2 = t at *
    have x1 : m * a = g * (m * a') := by rw [ea, Int.mul_left_comm]
    have x2 : b * -t = -(g * (t * b')) := by rw [Int.mul_neg, eb, Int.mul_assoc, Int.mul_comm b' t]
    have x3 : g * (m * a' + t * b') = g * 1 := by rw [eh]
    rw [Int.mul_add] at x3
    omega
  rw [parts_good ha hb G, if_neg (by simp [hz]), e1, e2, e3]
  have key : (s' * (back rows).1 % b' * a > s) ↔ ¬ (s' * (back rows).1 % b' * a' ≤ s') := by
    generalize s' * (back rows).1 % b' = f
    have x : f * a = g * (f * a') := by rw [ea, Int.mul_left_comm]
    rw [x, es]
    constructor
    · intro q z
      have := Int.mul_le_mul_of_nonneg_left z (Int.le_of_lt hg)
      omega
    · intro q
      have := Int.mul_lt_mul_of_pos_left (show s' < f * a' by omega) hg
      omega
  by_cases c : s' * (back rows).1 % b' * a' ≤ s'
  · rw [if_neg (fun z => key.mp z c), if_pos c]
    rfl
  · rw [if_pos (key.mpr c), if_neg c]
    rfl
theorem few_none {s a b g : Int} (hb : 0 < b) (dg : ∀ d : Int, d ∣ g ↔ d ∣ a ∧ d ∣ b) (hz : s % g ≠ 0) : fewI (parts s a b) = -1 := by
  have e : parts s a b = none := parts_eq hb (x := none) (by
    rintro m n ⟨_, _, e⟩
    obtain ⟨x1, x2⟩ := (dg g).mp (Int.dvd_refl g)
    refine hz (Int.emod_eq_zero_of_dvd ?_)
    rw [← e]
    exact Int.dvd_add (Int.dvd_trans x1 (Int.dvd_mul_left _ _)) (Int.dvd_trans x2 (Int.dvd_mul_left _ _)))
  rw [e]
  rfl
end BF

/-! ### there is always an answer; a search among few -/
namespace BF
theorem eu_ex : ∀ (n : Nat) (a b : Int), 0 < a → 0 ≤ b → b.toNat ≤ n → ∃ rows, Eu a b rows
  | 0, a, b, ha, hb, h => by
    have e : b = 0 := by omega
    subst e
    exact ⟨[], .nil ha⟩
  | n + 1, a, b, ha, hb, h => by
    rcases Int.lt_or_le 0 b with c | c
    · have h0 : 0 ≤ a % b := Int.emod_nonneg _ (Int.ne_of_gt c)
      have h1 : a % b < b := Int.emod_lt_of_pos _ c
      obtain ⟨r, hr⟩ := eu_ex n b (a % b) c h0 (by omega)
      exact ⟨_, .cons ha c hr⟩
    · have e : b = 0 := by omega
      subst e
      exact ⟨[], .nil ha⟩
theorem good_ex {a b : Int} (ha : 0 < a) (hb : 0 < b) : ∃ g t, Good a b g t := by
  obtain ⟨rows, E⟩ := eu_ex _ a b ha (Int.le_of_lt hb) (Nat.le_refl _)
  obtain ⟨g, hg, dv, e, _⟩ := E.back
  obtain ⟨d1, d2⟩ := (dv g).mp (Int.dvd_refl g)
  refine ⟨g, (back rows).1, hg, d1, d2, -(back rows).2, ?_⟩
  rw [Int.mul_neg, Int.mul_comm b]
  omega
theorem parts_is {s a b : Int} (ha : 0 < a) (hb : 0 < b) : IsParts s a b (parts s a b) := by
  obtain ⟨g, t, G⟩ := good_ex ha hb
  have ex : ∃ x, IsParts s a b x := by
    by_cases hs : s % g ≠ 0
    · refine ⟨none, ?_⟩
      rintro m n ⟨_, _, e⟩
      refine hs (Int.emod_eq_zero_of_dvd ?_)
      rw [← e]
      exact Int.dvd_add (Int.dvd_trans G.ga (Int.dvd_mul_left _ _)) (Int.dvd_trans G.gb (Int.dvd_mul_left _ _))
    · have hd : g ∣ s := Int.dvd_of_emod_eq_zero (by omega)
      obtain ⟨k1, k2, k3⟩ := few_core ha hb G hd
      generalize s / g * t % (b / g) = f at k1 k2 k3
      have least : ∀ m n, Rep s a b m n → f ≤ m := fun m n ⟨h1, h2, h3⟩ => k3 m h1 ⟨n, by rw [Int.mul_comm b n]; omega⟩
      by_cases hf : f * a > s
      · refine ⟨none, ?_⟩
        rintro m n R
        have l := least m n R
        obtain ⟨h1, h2, h3⟩ := R
        have p1 : f * a ≤ m * a := Int.mul_le_mul_of_nonneg_right l (Int.le_of_lt ha)
        have p2 : 0 ≤ n * b := Int.mul_nonneg h2 (Int.le_of_lt hb)
        omega
      · refine ⟨some (f, (s - f * a) / b), ⟨k2, Int.ediv_nonneg (by omega) (Int.le_of_lt hb), ?_⟩, least⟩
        show f * a + (s - f * a) / b * b = s
        rw [Int.ediv_mul_cancel k1]
        omega
  obtain ⟨x, hx⟩ := ex
  rw [parts_eq hb hx]
  exact hx
theorem few_neg {s a b : Int} (ha : 0 < a) (hb : 0 < b) : fewI (parts s a b) < 0 ↔ parts s a b = none := by
  have h := parts_is (s := s) ha hb
  cases e : parts s a b with
  | none => simp [fewI]
  | some x =>
    rw [e] at h
    have := h.1.1
    simp only [fewI, reduceCtorEq, iff_false]
    omega
/-- the counts of the first below n that leave a multiple of the second -/
def hits (s a b : Int) (n : Nat) : List Int := ((List.range n).filter (fun m : Nat => decide ((s - (m : Int) * a) % b = 0))).map (fun m : Nat => (m : Int))
theorem hits_succ (s a b : Int) (n : Nat) : hits s a b (n + 1) = hits s a b n ++ (if (s - (n : Int) * a) % b = 0 then [(n : Int)] else []) := by
  unfold hits
  rw [List.range_succ, List.filter_append, List.map_append]
  congr 1
  by_cases c : (s - (n : Int) * a) % b = 0
  · rw [if_pos c]
    simp [List.filter_cons, c]
  · rw [if_neg c]
    simp [List.filter_cons, c]
theorem hits_len (s a b : Int) (n : Nat) : (hits s a b n).length ≤ n := by
  unfold hits
  rw [List.length_map]
  exact Nat.le_trans (List.length_filter_le _ _) (by rw [List.length_range]; exact Nat.le_refl _)
theorem hits_few {s a b : Int} (hs : 0 < s) (ha : 0 < a) (hb : 0 < b) : (hits s a b (s / a + 1).toNat ++ [-1])[0]? = some (fewI (parts s a b)) := by
  have hq : 0 ≤ s / a := Int.ediv_nonneg (Int.le_of_lt hs) (Int.le_of_lt ha)
  have hm := Int.emod_add_mul_ediv s a
  have hr := Int.emod_nonneg s (Int.ne_of_gt ha)
  have rep : ∀ m : Nat, m < (s / a + 1).toNat → (s - (m : Int) * a) % b = 0 → Rep s a b m ((s - (m : Int) * a) / b) := fun m hl hz => by
    have l1 : (m : Int) ≤ s / a := by omega
    have l2 : a * (m : Int) ≤ a * (s / a) := Int.mul_le_mul_of_nonneg_left l1 (Int.le_of_lt ha)
    rw [Int.mul_comm a (m : Int)] at l2
    refine ⟨Int.natCast_nonneg m, Int.ediv_nonneg (by omega) (Int.le_of_lt hb), ?_⟩
    rw [Int.ediv_mul_cancel (Int.dvd_of_emod_eq_zero hz)]
    omega
  have h := parts_is (s := s) ha hb
  cases e : parts s a b with
  | none =>
    rw [e] at h
    have e0 : hits s a b (s / a + 1).toNat = [] := by
      unfold hits
      rw [List.filter_eq_nil_iff.mpr fun m hm2 => ?_]
      · rfl
      · intro z
        exact h _ _ (rep m (List.mem_range.mp hm2) (of_decide_eq_true z))
    rw [e0]
    rfl
  | some x =>
    rw [e] at h
    obtain ⟨⟨h1, h2, h3⟩, least⟩ := h
    obtain ⟨m, n⟩ := x
    simp only at h1 h2 h3 least
    obtain ⟨k, rfl⟩ := Int.eq_ofNat_of_zero_le h1
    have n0 : 0 ≤ n * b := Int.mul_nonneg h2 (Int.le_of_lt hb)
    have kl : (k : Int) ≤ s / a := by
      rcases Int.lt_or_le (s / a) k with c | c
      · have hl := Int.emod_lt_of_pos s ha
        have : a * (s / a + 1) ≤ a * (k : Int) := Int.mul_le_mul_of_nonneg_left (by omega) (Int.le_of_lt ha)
        rw [Int.mul_add, Int.mul_one, Int.mul_comm a (k : Int)] at this
        omega
      · exact c
    have hf : (List.range (s / a + 1).toNat).find? (fun m : Nat => decide ((s - (m : Int) * a) % b = 0)) = some k := by
      rw [List.find?_range_eq_some]
      refine ⟨decide_eq_true ?_, List.mem_range.mpr (by omega), fun j hj => ?_⟩
      · have : s - (k : Int) * a = n * b := by omega
        rw [this]
        exact Int.mul_emod_left n b
      · rw [Bool.not_eq_true', decide_eq_false_iff_not]
        intro z
        have := least _ _ (rep j (by omega) z)
        omega
    have hh : (hits s a b (s / a + 1).toNat)[0]? = some (k : Int) := by
      unfold hits
      rw [List.getElem?_map, ← List.head?_eq_getElem?, List.head?_filter, hf]
      rfl
    rw [List.getElem?_append_left (by
      rw [List.getElem?_eq_some_iff] at hh
      exact hh.1), hh]
    rfl
end BF

/-! ### plain mathematics of the stripes -/
namespace BF
/-- pairs below l and h that come to t -/
def pairsI (l h t : Int) : Int := max 0 (min t (l - 1) - max 0 (t - h + 1) + 1)
def alikeI (L W s c : Int) : Int := L / s * W + L % s * (W / s) + pairsI (L % s) (W % s) c + pairsI (L % s) (W % s) (c + s)
theorem pairs_swap {l h t : Int} (hl : 0 ≤ l) (hh : 0 ≤ h) : pairsI l h t = pairsI h l t := by
  unfold pairsI
  omega
theorem pairs_zero {l t : Int} (hl : 0 ≤ l) (ht : 0 ≤ t) : pairsI l 0 t = 0 := by
  unfold pairsI
  omega
theorem pairs_step {l h t : Int} (hl : 0 ≤ l) (hh : 0 ≤ h) (ht : 0 ≤ t) : pairsI l (h + 1) t = pairsI l h t + if h ≤ t ∧ t < h + l then 1 else 0 := by
  unfold pairsI
  split <;> omega
theorem pairs_full {l s c : Int} (hl : 0 ≤ l) (hs : l < s) (h0 : 0 ≤ c) (h1 : c < s) : pairsI l s c + pairsI l s (c + s) = l := by
  unfold pairsI
  omega
theorem alike_swap {L W s c : Int} (hs : 0 < s) : alikeI L W s c = alikeI W L s c := by
  have h1 := Int.emod_nonneg L (Int.ne_of_gt hs)
  have h2 := Int.emod_nonneg W (Int.ne_of_gt hs)
  unfold alikeI
  rw [pairs_swap (t := c) h1 h2, pairs_swap (t := c + s) h1 h2]
  have e1 := Int.emod_add_mul_ediv L s
  have e2 := Int.emod_add_mul_ediv W s
  have k : L / s * W + L % s * (W / s) = W / s * L + W % s * (L / s) := by
    generalize L / s = q at *
    generalize W / s = r at *
    generalize L % s = l at *
    generalize W % s = h at *
    have x1 : q * W = q * h + q * (s * r) := by rw [← Int.mul_add, e2]
    have x2 : r * L = r * l + r * (s * q) := by rw [← Int.mul_add, e1]
    have x3 : q * (s * r) = r * (s * q) := by rw [Int.mul_left_comm, Int.mul_left_comm r s q, Int.mul_comm q r]
    have x4 : l * r = r * l := Int.mul_comm _ _
    have x5 : h * q = q * h := Int.mul_comm _ _
    omega
  rw [k]
/-- how many below n leave less than l behind them -/
def cntI (c s l : Int) (n : Nat) : Int := (((List.range n).filter (fun u : Nat => decide ((c - (u : Int)) % s < l))).length : Int)
theorem cnt_succ (c s l : Int) (n : Nat) : cntI c s l (n + 1) = cntI c s l n + if (c - (n : Int)) % s < l then 1 else 0 := by
  unfold cntI
  rw [List.range_succ, List.filter_append, List.length_append]
  by_cases h : (c - (n : Int)) % s < l
  · rw [if_pos h]
    simp [List.filter_cons, h]
  · rw [if_neg h]
    simp [List.filter_cons, h]
theorem cnt_eq {c s l : Int} (hl : 0 ≤ l) (hls : l < s) (h0 : 0 ≤ c) (h1 : c < s) : ∀ n : Nat, cntI c s l n = l * ((n : Int) / s) + pairsI l ((n : Int) % s) c + pairsI l ((n : Int) % s) (c + s)
  | 0 => by
    have hs : 0 < s := by omega
    have e1 : ((0 : Nat) : Int) / s = 0 := Int.zero_ediv s
    have e2 : ((0 : Nat) : Int) % s = 0 := Int.zero_emod s
    rw [e1, e2, pairs_zero hl h0, pairs_zero hl (by omega)]
    show (0 : Int) = l * 0 + 0 + 0
    omega
  | n + 1 => by
    have hs : 0 < s := by omega
    rw [cnt_succ, cnt_eq hl hls h0 h1 n]
    have e := Int.emod_add_mul_ediv (n : Int) s
    have g0 := Int.emod_nonneg (n : Int) (Int.ne_of_gt hs)
    have g1 := Int.emod_lt_of_pos (n : Int) hs
    have ec : ((n + 1 : Nat) : Int) = (n : Int) + 1 := by omega
    rw [ec]
    generalize hr : (n : Int) / s = r at *
    generalize hh : (n : Int) % s = h at *
    -- (c - n) % s
    have em : (c - (n : Int)) % s = if h ≤ c then c - h else c - h + s := by
      split
      · have : c - (n : Int) = (c - h) + s * (-r) := by rw [Int.mul_neg]; omega
        rw [this, Int.add_mul_emod_self_left, Int.emod_eq_of_lt (by omega) (by omega)]
      · have : c - (n : Int) = (c - h + s) + s * (-r - 1) := by rw [Int.mul_sub, Int.mul_neg]; omega
        rw [this, Int.add_mul_emod_self_left, Int.emod_eq_of_lt (by omega) (by omega)]
    rcases Int.lt_or_le (h + 1) s with hlt | hge
    · have d1 : ((n : Int) + 1) / s = r := by
        have : (n : Int) + 1 = (h + 1) + s * r := by omega
        rw [this, Int.add_mul_ediv_left _ _ (Int.ne_of_gt hs), Int.ediv_eq_zero_of_lt (by omega) hlt]
        omega
      have d2 : ((n : Int) + 1) % s = h + 1 := by
        have : (n : Int) + 1 = (h + 1) + s * r := by omega
        rw [this, Int.add_mul_emod_self_left, Int.emod_eq_of_lt (by omega) hlt]
      rw [d1, d2, pairs_step hl g0 h0, pairs_step hl g0 (by omega : 0 ≤ c + s), em]
      generalize pairsI l h c = p1
      generalize pairsI l h (c + s) = p2
      generalize l * r = lr
      split <;> split <;> split <;> split <;> omega
    · have eh : h = s - 1 := by omega
      have d1 : ((n : Int) + 1) / s = r + 1 := by
        have : (n : Int) + 1 = s * (r + 1) := by rw [Int.mul_add]; omega
        rw [this, Int.mul_ediv_cancel_left _ (Int.ne_of_gt hs)]
      have d2 : ((n : Int) + 1) % s = 0 := by
        have : (n : Int) + 1 = s * (r + 1) := by rw [Int.mul_add]; omega
        rw [this, Int.mul_emod_right]
      have f := pairs_full hl hls h0 h1
      have s1 := pairs_step (l := l) (h := h) (t := c) hl g0 h0
      have s2 := pairs_step (l := l) (h := h) (t := c + s) hl g0 (by omega)
      have e3 : h + 1 = s := by omega
      rw [e3] at s1 s2
      rw [d1, d2, pairs_zero hl h0, pairs_zero hl (by omega), em, Int.mul_add]
      generalize pairsI l h c = p1 at *
      generalize pairsI l h (c + s) = p2 at *
      generalize pairsI l s c = p3 at *
      generalize pairsI l s (c + s) = p4 at *
      generalize l * r = lr
      split at s1 <;> split at s2 <;> split <;> split at em <;> omega
/-- the law's own count, row by row -/
theorem law_alike_few {L s c : Int} {W : Nat} (h0 : 0 ≤ c) (h1 : c < s) : L / s * (W : Int) + cntI c s (L % s) W = alikeI L W s c := by
  have hs : 0 < s := by omega
  rw [cnt_eq (Int.emod_nonneg L (Int.ne_of_gt hs)) (Int.emod_lt_of_pos L hs) h0 h1]
  unfold alikeI
  omega
/-- sums below n -/
def sumI (f : Int → Int) : Nat → Int
  | 0 => 0
  | n + 1 => sumI f n + f n
theorem sumI_add (f g : Int → Int) : ∀ n, sumI (fun i => f i + g i) n = sumI f n + sumI g n
  | 0 => rfl
  | n + 1 => by
    show sumI (fun i => f i + g i) n + (f n + g n) = (sumI f n + f n) + (sumI g n + g n)
    rw [sumI_add f g n]
    omega
theorem sumI_const (k : Int) : ∀ n : Nat, sumI (fun _ => k) n = n * k
  | 0 => by
    show (0 : Int) = ((0 : Nat) : Int) * k
    omega
  | n + 1 => by
    show sumI (fun _ => k) n + k = ((n + 1 : Nat) : Int) * k
    rw [sumI_const k n]
    have e : ((n + 1 : Nat) : Int) = (n : Int) + 1 := by omega
    rw [e, Int.add_mul]
    omega
theorem sumI_congr {f g : Int → Int} : ∀ {n : Nat}, (∀ i : Nat, i < n → f i = g i) → sumI f n = sumI g n
  | 0, _ => rfl
  | n + 1, h => by
    show sumI f n + f n = sumI g n + g n
    rw [sumI_congr (n := n) (fun i hi => h i (by omega)), h n (by omega)]
theorem sumI_ind (a b : Int) (h0 : 0 ≤ a) : ∀ n : Nat, sumI (fun t => if a ≤ t ∧ t < a + b then 1 else 0) n = max 0 (min b ((n : Int) - a))
  | 0 => by
    show (0 : Int) = max 0 (min b (((0 : Nat) : Int) - a))
    omega
  | n + 1 => by
    show sumI (fun t => if a ≤ t ∧ t < a + b then 1 else 0) n + (if a ≤ (n : Int) ∧ (n : Int) < a + b then 1 else 0) = _
    rw [sumI_ind a b h0 n]
    split <;> omega
theorem ifc {p q : Prop} [Decidable p] [Decidable q] (h : p ↔ q) {a b : Int} : (if p then a else b) = if q then a else b := by
  by_cases c : p
  · rw [if_pos c, if_pos (h.mp c)]
  · rw [if_neg c, if_neg (fun z => c (h.mpr z))]
theorem sum_pairs {l s : Int} {n : Nat} (hl : 0 ≤ l) (hls : l ≤ s) (hn : (n : Int) = s) : ∀ h : Nat, (h : Int) ≤ s → sumI (fun c => pairsI l h c + pairsI l h (c + s)) n = l * h
  | 0, _ => by
    rw [sumI_congr (g := fun _ => 0) (fun i _ => by
      show pairsI l ((0 : Nat) : Int) i + pairsI l ((0 : Nat) : Int) (i + s) = 0
      rw [show ((0 : Nat) : Int) = 0 from rfl, pairs_zero hl (by omega), pairs_zero hl (by omega)]
      rfl), sumI_const]
    show (n : Int) * 0 = l * 0
    omega
  | h + 1, hh => by
    have ih := sum_pairs hl hls hn h (by omega)
    have e : ((h + 1 : Nat) : Int) = (h : Int) + 1 := by omega
    have step : sumI (fun c => pairsI l ((h + 1 : Nat) : Int) c + pairsI l ((h + 1 : Nat) : Int) (c + s)) n
        = sumI (fun c => (pairsI l h c + pairsI l h (c + s)) + ((if (h : Int) ≤ c ∧ c < (h : Int) + l then 1 else 0) + (if (h : Int) - s ≤ c ∧ c < (h : Int) - s + l then 1 else 0))) n := by
      refine sumI_congr fun i hi => ?_
      rw [e, pairs_step hl (by omega) (by omega), pairs_step hl (by omega) (by omega : 0 ≤ (i : Int) + s)]
      have q1 : ((h : Int) ≤ (i : Int) + s ∧ (i : Int) + s < (h : Int) + l) ↔ ((h : Int) - s ≤ (i : Int) ∧ (i : Int) < (h : Int) - s + l) := by omega
      rw [ifc q1]
      omega
    have z : sumI (fun c => (if (h : Int) - s ≤ c ∧ c < (h : Int) - s + l then (1 : Int) else 0)) n = sumI (fun c => if (0 : Int) ≤ c ∧ c < 0 + max 0 ((h : Int) - s + l) then 1 else 0) n := by
      refine sumI_congr fun i hi => ?_
      have q1 : ((h : Int) - s ≤ (i : Int) ∧ (i : Int) < (h : Int) - s + l) ↔ ((0 : Int) ≤ (i : Int) ∧ (i : Int) < 0 + max 0 ((h : Int) - s + l)) := by omega
      show (if (h : Int) - s ≤ (i : Int) ∧ (i : Int) < (h : Int) - s + l then (1 : Int) else 0) = if (0 : Int) ≤ (i : Int) ∧ (i : Int) < 0 + max 0 ((h : Int) - s + l) then 1 else 0
      rw [ifc q1]
    rw [step, sumI_add, ih, sumI_add, z, sumI_ind _ _ (by omega), sumI_ind _ _ (by omega), e, Int.mul_add]
    omega
theorem sum_alike {L W s : Int} {n : Nat} (hs : 0 < s) (hn : (n : Int) = s) (hW : 0 ≤ W) : sumI (fun c => alikeI L W s c) n = L * W := by
  have h1 := Int.emod_nonneg L (Int.ne_of_gt hs)
  have h2 := Int.emod_nonneg W (Int.ne_of_gt hs)
  have g1 := Int.emod_lt_of_pos L hs
  have g2 := Int.emod_lt_of_pos W hs
  have e1 := Int.emod_add_mul_ediv L s
  have e2 := Int.emod_add_mul_ediv W s
  have e : sumI (fun c => alikeI L W s c) n = sumI (fun c => (L / s * W + L % s * (W / s)) + (pairsI (L % s) (W % s) c + pairsI (L % s) (W % s) (c + s))) n := sumI_congr fun i _ => by
    unfold alikeI
    omega
  obtain ⟨h, hh⟩ := Int.eq_ofNat_of_zero_le h2
  rw [e, sumI_add, sumI_const, hh, sum_pairs h1 (by omega) hn h (by omega), ← hh, hn]
  generalize L / s = q at *
  generalize W / s = r at *
  generalize L % s = l at *
  generalize W % s = k at *
  have x1 : L * W = (l + s * q) * W := by rw [e1]
  have x2 : (l + s * q) * W = l * W + s * q * W := Int.add_mul _ _ _
  have x3 : l * W = l * k + l * (s * r) := by rw [← Int.mul_add, e2]
  have x4 : s * (q * W + l * r) = s * q * W + l * (s * r) := by rw [Int.mul_add, Int.mul_assoc, Int.mul_left_comm s l r]
  omega
/-- two colours that aren't alike many -/
theorem alike_differ {L W s : Int} (hs : 0 < s) (hl : 0 < L % s) (hh : 0 < W % s) : ∃ c d : Int, 0 ≤ c ∧ c < s ∧ 0 ≤ d ∧ d < s ∧ alikeI L W s c ≠ alikeI L W s d := by
  have g1 := Int.emod_lt_of_pos L hs
  have g2 := Int.emod_lt_of_pos W hs
  refine ⟨min (L % s) (W % s) - 1, s - 1, by omega, by omega, by omega, by omega, ?_⟩
  unfold alikeI pairsI
  generalize L / s * W = x
  generalize L % s * (W / s) = y
  omega
theorem alike_same {L W s c : Int} (hs : 0 < s) (h0 : 0 ≤ c) (h : L % s = 0 ∨ W % s = 0) : alikeI L W s c = L / s * W + L % s * (W / s) := by
  have h1 := Int.emod_nonneg L (Int.ne_of_gt hs)
  have h2 := Int.emod_nonneg W (Int.ne_of_gt hs)
  unfold alikeI
  rcases h with e | e
  · rw [e, pairs_swap (t := c) (by omega) h2, pairs_swap (t := c + s) (by omega) h2, pairs_zero h2 h0, pairs_zero h2 (by omega)]
    omega
  · rw [e, pairs_zero h1 h0, pairs_zero h1 (by omega)]
    omega
end BF

namespace BF
open PySem PySem.Spec PyProof.Rows L2
def topS (i : Nat) : Stmt := PySem.Challenge.pw_brickfloor_k08_one_reason.main.body.getD i (.Pass ⟨0, 0, 0, 0⟩)
abbrev s_is_number : Stmt := topS 9
abbrev s_check_sizes : Stmt := topS 10
abbrev s_shared : Stmt := topS 11
abbrev s_parts_of : Stmt := topS 12
abbrev s_sum_of : Stmt := topS 13
abbrev s_is_striped : Stmt := topS 16
abbrev s_what_bars : Stmt := topS 17
abbrev s_Laid_shows : Stmt := inClass (topS 18) 0
abbrev s_Striped___init__ : Stmt := inClass (topS 19) 0
abbrev s_Striped_shows : Stmt := inClass (topS 19) 1
abbrev s_Short___init__ : Stmt := inClass (topS 20) 0
abbrev s_Short_shows : Stmt := inClass (topS 20) 1
abbrev s_cells_of : Stmt := topS 21
abbrev s_is_beyond : Stmt := topS 22
abbrev s_covers : Stmt := topS 23
abbrev s_is_cell : Stmt := topS 24
abbrev s_often : Stmt := topS 25
abbrev s_Full_shows : Stmt := inClass (topS 26) 0
abbrev s_Beyond___init__ : Stmt := inClass (topS 27) 0
abbrev s_Beyond_shows : Stmt := inClass (topS 27) 1
abbrev s_Twice___init__ : Stmt := inClass (topS 28) 0
abbrev s_Twice_shows : Stmt := inClass (topS 28) 1
abbrev s_Bare___init__ : Stmt := inClass (topS 29) 0
abbrev s_Bare_shows : Stmt := inClass (topS 29) 1
abbrev s_told : Stmt := topS 31
abbrev s_check_laid : Stmt := topS 32
abbrev s_plan : Stmt := topS 33
abbrev s_brick_on : Stmt := topS 34
abbrev s_lying : Stmt := topS 35
abbrev s_standing : Stmt := topS 36
abbrev s_is_brick : Stmt := topS 39
abbrev s_judged : Stmt := topS 40
abbrev s_pairs_to : Stmt := topS 42
abbrev s_alike : Stmt := topS 43
abbrev s__law_refused : Stmt := topS 45
abbrev s__law_spoiled : Stmt := topS 46
abbrev s__law_bad_right : Stmt := topS 47
abbrev s__law_sizes_refused : Stmt := topS 48
abbrev s__law_great_right : Stmt := topS 49
abbrev s__law_changed_right : Stmt := topS 50
abbrev s__law_hand_right : Stmt := topS 51
abbrev s_law : Stmt := topS 52
theorem sc_is_number : FnScope ["thing"] ["thing"] (defScope s_is_number) := ⟨rfl, rfl, rfl, by decide +kernel, rfl, by decide +kernel, by decide +kernel⟩
theorem sc_check_sizes : FnScope ["some", "one"] ["some"] (defScope s_check_sizes) := ⟨rfl, rfl, rfl, by decide +kernel, rfl, by decide +kernel, by decide +kernel⟩
theorem sc_shared : FnScope ["one", "other", "mine", "theirs", "by", "often"] ["one", "other"] (defScope s_shared) := ⟨rfl, rfl, rfl, by decide +kernel, rfl, by decide +kernel, by decide +kernel⟩
theorem sc_parts_of : FnScope ["size", "first", "second", "by", "turned", "few"] ["size", "first", "second"] (defScope s_parts_of) := ⟨rfl, rfl, rfl, by decide +kernel, rfl, by decide +kernel, by decide +kernel⟩
theorem sc_sum_of : FnScope ["size", "first", "second"] ["size", "first", "second"] (defScope s_sum_of) := ⟨rfl, rfl, rfl, by decide +kernel, rfl, by decide +kernel, by decide +kernel⟩
theorem sc_is_striped : FnScope ["length", "width", "side"] ["length", "width", "side"] (defScope s_is_striped) := ⟨rfl, rfl, rfl, by decide +kernel, rfl, by decide +kernel, by decide +kernel⟩
theorem sc_what_bars : FnScope ["length", "width", "first", "second", "striped", "short", "which", "side"] ["length", "width", "first", "second"] (defScope s_what_bars) := ⟨rfl, rfl, rfl, by decide +kernel, rfl, by decide +kernel, by decide +kernel⟩
theorem sc_Laid_shows : FnScope ["self", "length", "width", "first", "second"] ["self", "length", "width", "first", "second"] (defScope s_Laid_shows) := ⟨rfl, rfl, rfl, by decide +kernel, rfl, by decide +kernel, by decide +kernel⟩
theorem sc_Striped___init__ : FnScope ["self", "which"] ["self", "which"] (defScope s_Striped___init__) := ⟨rfl, rfl, rfl, by decide +kernel, rfl, by decide +kernel, by decide +kernel⟩
theorem sc_Striped_shows : FnScope ["self", "length", "width", "first", "second"] ["self", "length", "width", "first", "second"] (defScope s_Striped_shows) := ⟨rfl, rfl, rfl, by decide +kernel, rfl, by decide +kernel, by decide +kernel⟩
theorem sc_Short___init__ : FnScope ["self", "which"] ["self", "which"] (defScope s_Short___init__) := ⟨rfl, rfl, rfl, by decide +kernel, rfl, by decide +kernel, by decide +kernel⟩
theorem sc_Short_shows : FnScope ["self", "length", "width", "first", "second"] ["self", "length", "width", "first", "second"] (defScope s_Short_shows) := ⟨rfl, rfl, rfl, by decide +kernel, rfl, by decide +kernel, by decide +kernel⟩
theorem sc_cells_of : FnScope ["first", "second", "brick", "long", "high", "found", "along", "up"] ["first", "second", "brick"] (defScope s_cells_of) := ⟨rfl, rfl, rfl, by decide +kernel, rfl, by decide +kernel, by decide +kernel⟩
theorem sc_is_beyond : FnScope ["length", "width", "first", "second", "brick", "long", "high"] ["length", "width", "first", "second", "brick"] (defScope s_is_beyond) := ⟨rfl, rfl, rfl, by decide +kernel, rfl, by decide +kernel, by decide +kernel⟩
theorem sc_covers : FnScope ["first", "second", "brick", "cell", "long", "high"] ["first", "second", "brick", "cell"] (defScope s_covers) := ⟨rfl, rfl, rfl, by decide +kernel, rfl, by decide +kernel, by decide +kernel⟩
theorem sc_is_cell : FnScope ["length", "width", "thing"] ["length", "width", "thing"] (defScope s_is_cell) := ⟨rfl, rfl, rfl, by decide +kernel, rfl, by decide +kernel, by decide +kernel⟩
theorem sc_often : FnScope ["first", "second", "bricks", "cell", "brick"] ["first", "second", "bricks", "cell"] (defScope s_often) := ⟨rfl, rfl, rfl, by decide +kernel, rfl, by decide +kernel, by decide +kernel⟩
theorem sc_Full_shows : FnScope ["self", "length", "width", "first", "second", "bricks", "seen", "brick", "cell"] ["self", "length", "width", "first", "second", "bricks"] (defScope s_Full_shows) := ⟨rfl, rfl, rfl, by decide +kernel, rfl, by decide +kernel, by decide +kernel⟩
theorem sc_Beyond___init__ : FnScope ["self", "count"] ["self", "count"] (defScope s_Beyond___init__) := ⟨rfl, rfl, rfl, by decide +kernel, rfl, by decide +kernel, by decide +kernel⟩
theorem sc_Beyond_shows : FnScope ["self", "length", "width", "first", "second", "bricks"] ["self", "length", "width", "first", "second", "bricks"] (defScope s_Beyond_shows) := ⟨rfl, rfl, rfl, by decide +kernel, rfl, by decide +kernel, by decide +kernel⟩
theorem sc_Twice___init__ : FnScope ["self", "cell"] ["self", "cell"] (defScope s_Twice___init__) := ⟨rfl, rfl, rfl, by decide +kernel, rfl, by decide +kernel, by decide +kernel⟩
theorem sc_Twice_shows : FnScope ["self", "length", "width", "first", "second", "bricks"] ["self", "length", "width", "first", "second", "bricks"] (defScope s_Twice_shows) := ⟨rfl, rfl, rfl, by decide +kernel, rfl, by decide +kernel, by decide +kernel⟩
theorem sc_Bare___init__ : FnScope ["self", "cell"] ["self", "cell"] (defScope s_Bare___init__) := ⟨rfl, rfl, rfl, by decide +kernel, rfl, by decide +kernel, by decide +kernel⟩
theorem sc_Bare_shows : FnScope ["self", "length", "width", "first", "second", "bricks"] ["self", "length", "width", "first", "second", "bricks"] (defScope s_Bare_shows) := ⟨rfl, rfl, rfl, by decide +kernel, rfl, by decide +kernel, by decide +kernel⟩
theorem sc_told : FnScope ["length", "width", "first", "second", "striped", "short"] ["length", "width", "first", "second"] (defScope s_told) := ⟨rfl, rfl, rfl, by decide +kernel, rfl, by decide +kernel, by decide +kernel⟩
theorem sc_check_laid : FnScope ["length", "width", "first", "second"] ["length", "width", "first", "second"] (defScope s_check_laid) := ⟨rfl, rfl, rfl, by decide +kernel, rfl, by decide +kernel, by decide +kernel⟩
theorem sc_plan : FnScope ["length", "width", "first", "second"] ["length", "width", "first", "second"] (defScope s_plan) := ⟨rfl, rfl, rfl, by decide +kernel, rfl, by decide +kernel, by decide +kernel⟩
theorem sc_brick_on : FnScope ["length", "width", "first", "second", "cell", "along", "up", "begin", "low", "corner"] ["length", "width", "first", "second", "cell"] (defScope s_brick_on) := ⟨rfl, rfl, rfl, by decide +kernel, rfl, by decide +kernel, by decide +kernel⟩
theorem sc_lying : FnScope ["length", "width", "first", "second", "along", "up"] ["length", "width", "first", "second"] (defScope s_lying) := ⟨rfl, rfl, rfl, by decide +kernel, rfl, by decide +kernel, by decide +kernel⟩
theorem sc_standing : FnScope ["length", "width", "first", "second", "many"] ["length", "width", "first", "second"] (defScope s_standing) := ⟨rfl, rfl, rfl, by decide +kernel, rfl, by decide +kernel, by decide +kernel⟩
theorem sc_is_brick : FnScope ["thing"] ["thing"] (defScope s_is_brick) := ⟨rfl, rfl, rfl, by decide +kernel, rfl, by decide +kernel, by decide +kernel⟩
theorem sc_judged : FnScope ["length", "width", "first", "second", "bricks", "count", "brick", "along", "up", "many"] ["length", "width", "first", "second", "bricks"] (defScope s_judged) := ⟨rfl, rfl, rfl, by decide +kernel, rfl, by decide +kernel, by decide +kernel⟩
theorem sc_pairs_to : FnScope ["long", "high", "sum_wanted"] ["long", "high", "sum_wanted"] (defScope s_pairs_to) := ⟨rfl, rfl, rfl, by decide +kernel, rfl, by decide +kernel, by decide +kernel⟩
theorem sc_alike : FnScope ["length", "width", "size", "colour", "long", "high", "whole"] ["length", "width", "size", "colour"] (defScope s_alike) := ⟨rfl, rfl, rfl, by decide +kernel, rfl, by decide +kernel, by decide +kernel⟩
theorem sc__law_refused : FnScope ["_law_ask", "_law_due", "_law_found", "error", "_law_one"] ["_law_ask", "_law_due"] (defScope s__law_refused) := ⟨rfl, rfl, rfl, by decide +kernel, rfl, by decide +kernel, by decide +kernel⟩
theorem sc__law_spoiled : FnScope ["_law_good", "_law_more", "_law_odd", "_law_found", "_law_at", "_law_bad"] ["_law_good", "_law_more", "_law_odd"] (defScope s__law_spoiled) := ⟨rfl, rfl, rfl, by decide +kernel, rfl, by decide +kernel, by decide +kernel⟩
theorem sc__law_bad_right : FnScope ["_law_more", "_law_bad", "_law_asks", "_law_good", "_law_odd", "_law_at"] ["_law_more"] (defScope s__law_bad_right) := ⟨rfl, rfl, rfl, by decide +kernel, rfl, by decide +kernel, by decide +kernel⟩
theorem sc__law_sizes_refused : FnScope ["_law_length", "_law_width", "_law_first", "_law_second"] ["_law_length", "_law_width", "_law_first", "_law_second"] (defScope s__law_sizes_refused) := ⟨rfl, rfl, rfl, by decide +kernel, rfl, by decide +kernel, by decide +kernel⟩
theorem sc__law_great_right : FnScope ["_law_more", "_law_great", "_law_far", "_law_found", "_law_place", "_law_lies", "_law_along", "_law_up"] ["_law_more"] (defScope s__law_great_right) := ⟨rfl, rfl, rfl, by decide +kernel, rfl, by decide +kernel, by decide +kernel⟩
theorem sc__law_changed_right : FnScope ["_law_mine", "_law_first", "_law_second", "_law_colour"] [] (defScope s__law_changed_right) := ⟨rfl, rfl, rfl, by decide +kernel, rfl, by decide +kernel, by decide +kernel⟩
theorem sc__law_hand_right : FnScope ["_law_rows", "_law_built", "_law_length", "_law_width", "_law_first", "_law_second", "_law_due", "_law_full", "_law_bare", "_law_over", "_law_out", "_law_bricks"] [] (defScope s__law_hand_right) := ⟨rfl, rfl, rfl, by decide +kernel, rfl, by decide +kernel, by decide +kernel⟩
theorem sc_law : FnScope ["_law_script", "_law_more"] ["_law_script"] (defScope s_law) := ⟨rfl, rfl, rfl, by decide +kernel, rfl, by decide +kernel, by decide +kernel⟩
/-- the built-ins that the text names are free -/
structure Bi (mg : Str → Option Value) : Prop where
  ValueError : mg "ValueError" = none
  abs : mg "abs" = none
  all : mg "all" = none
  any : mg "any" = none
  bool : mg "bool" = none
  enumerate : mg "enumerate" = none
  int : mg "int" = none
  isinstance : mg "isinstance" = none
  len : mg "len" = none
  list : mg "list" = none
  max : mg "max" = none
  min : mg "min" = none
  range : mg "range" = none
  set : mg "set" = none
  sorted : mg "sorted" = none
  sum : mg "sum" = none
  tuple : mg "tuple" = none
end BF

/-! ### small helpers for the laws: the script's cells, picks out of four, sizes of drawn numbers -/
namespace BF
open PySem PySem.Spec PyProof.Rows L2
inductive SpLaw (K : PySem.W.Frag) : Sp where
  | mk {a : Addr} {ns : List Int} {H : Hp} {Q : VK} {E : XK} (hl : ns.length ≤ 63) (hb : ∀ z ∈ ns, Builtin.Int.intBits z ≤ 1048576) (hS : SqL K H a (ns.map V.int)) (q : ∀ H', Q (.bl true) H') : SpLaw K [.ref a] H Q E
theorem bn_of_lt {x : Int} (h0 : 0 ≤ x) (h : x < 10 ^ 60) : Bn 200 x := by
  refine ⟨?_⟩
  have e : (10 : Int) ^ 60 = ((10 ^ 60 : Nat) : Int) := by decide
  have l : (10 : Nat) ^ 60 < 2 ^ 200 := by decide
  rw [e] at h
  omega
theorem sz_of_lt {x : Int} (h0 : 0 < x) (h : x < 10 ^ 60) : Sz x := ⟨h0, (bn_of_lt (by omega) h).mono (by decide)⟩
theorem cut_map {α β : Type} (f : α → β) (xs : List α) (lo hi : Nat) : ((xs.map f).drop lo).take hi = ((xs.drop lo).take hi).map f := by
  rw [← List.map_drop, ← List.map_take]
theorem cut_ints (ns : List Int) (lo hi : Option Int) : ∃ ms : List Int, cutV (ns.map V.int) lo hi = ms.map V.int := by
  unfold cutV
  exact ⟨_, cut_map V.int ns _ _⟩
theorem at_cell {ns : List Int} {k : Int} (h0 : -(ns.length : Int) ≤ k) (h1 : k < ns.length) : ∃ c, c ∈ ns ∧ atI (ns.map V.int) k = some (.int c) := by
  rcases Int.lt_or_le k 0 with hk | hk
  · have hj : (k + ns.length).toNat < ns.length := by omega
    refine ⟨ns[(k + ns.length).toNat], List.getElem_mem _, ?_⟩
    have e : ixN (ns.map V.int).length k = some (k + ns.length).toNat := by
      unfold ixN
      rw [List.length_map, if_neg (by omega), if_pos (by omega)]
    unfold atI
    rw [e]
    show (ns.map V.int)[(k + ns.length).toNat]? = _
    rw [List.getElem?_map, List.getElem?_eq_getElem hj]
    rfl
  · have hj : k.toNat < ns.length := by omega
    refine ⟨ns[k.toNat], List.getElem_mem _, ?_⟩
    obtain ⟨j, rfl⟩ := Int.eq_ofNat_of_zero_le hk
    refine atI_nat ?_
    rw [List.getElem?_map]
    have hj2 : j < ns.length := by omega
    rw [List.getElem?_eq_getElem hj2]
    rfl
theorem pick4 {x0 x1 x2 x3 : V} {k : Int} (h0 : 0 ≤ k) (h4 : k < 4) : ∃ v, atI [x0, x1, x2, x3] k = some v ∧ (v = x0 ∨ v = x1 ∨ v = x2 ∨ v = x3) := by
  have e : k = 0 ∨ k = 1 ∨ k = 2 ∨ k = 3 := by omega
  rcases e with rfl | rfl | rfl | rfl
  · exact ⟨x0, rfl, .inl rfl⟩
  · exact ⟨x1, rfl, .inr (.inl rfl)⟩
  · exact ⟨x2, rfl, .inr (.inr (.inl rfl))⟩
  · exact ⟨x3, rfl, .inr (.inr (.inr rfl))⟩
end BF

/-! ### data at any depth, in a heap that grows -/
namespace BF
open PySem PySem.Spec PyProof.Rows L2
theorem at0 {x : V} {xs : List V} : atI (x :: xs) 0 = some x := by
  show atI (x :: xs) ((0 : Nat) : Int) = some x
  exact atI_nat rfl
mutual
theorem dpS {K : PySem.W.Frag} {H H' : Hp} (sm : Same H H') : ∀ {d : PyData} {v : V}, Dp K H v d → Dp K H' v d
  | .none, _, h => by cases h; exact .non
  | .bool b, _, h => by cases h; exact .bl b
  | .int i, _, h => by cases h; exact .int i
  | .str x, _, h => by cases h; exact .str x
  | .list ds, _, h => by
    cases h with
    | lst hs ha => exact .lst (sm.seq hs) (dpsS sm ha)
  | .tuple ds, _, h => by
    cases h with
    | tup hs ha => exact .tup (Same.tup sm hs) (dpsS sm ha)
theorem dpsS {K : PySem.W.Frag} {H H' : Hp} (sm : Same H H') : ∀ {ds : List PyData} {vs : List V}, DpAll K H vs ds → DpAll K H' vs ds
  | [], _, h => by cases h; exact .nil
  | d :: ds, _, h => by
    cases h with
    | cons h1 h2 => exact .cons (dpS sm h1) (dpsS sm h2)
end
/-- shaped, at most n deep -/
structure Shp (n : Nat) (d : PyData) : Prop where
  c : PyData.canLay0 d = true
  h : PyData.depth d ≤ n
theorem Shp.ok {n : Nat} {d : PyData} (s : Shp n d) (h : n ≤ 64) : SeqAt.shaped d = true := Bool.and_eq_true_iff.mpr ⟨s.c, decide_eq_true (Nat.le_trans s.h h)⟩
theorem shp_all {n : Nat} : ∀ {ds : List PyData}, (∀ d ∈ ds, Shp n d) → PyData.canLayAll0 ds = true ∧ PyData.depthAll ds ≤ n
  | [], _ => ⟨rfl, by simp [PyData.depthAll]⟩
  | d :: ds, h => by
    obtain ⟨a, b⟩ := shp_all (ds := ds) fun d hd => h d (List.mem_cons_of_mem _ hd)
    have c := h d (by simp)
    refine ⟨?_, ?_⟩
    · rw [PyData.canLayAll0, c.c, a]
      rfl
    · rw [PyData.depthAll]
      exact Nat.max_le.mpr ⟨c.h, b⟩
theorem shp_list {n : Nat} {ds : List PyData} (h : ∀ d ∈ ds, Shp n d) : Shp (n + 1) (.list ds) := by
  obtain ⟨a, b⟩ := shp_all h
  refine ⟨by rw [PyData.canLay0]; exact a, ?_⟩
  rw [PyData.depth]
  omega
theorem shp_tuple {n : Nat} {ds : List PyData} (h : ∀ d ∈ ds, Shp n d) : Shp (n + 1) (.tuple ds) := by
  obtain ⟨a, b⟩ := shp_all h
  refine ⟨by rw [PyData.canLay0]; exact a, ?_⟩
  rw [PyData.depth]
  omega
theorem shp_int (i : Int) : Shp 1 (.int i) := ⟨rfl, by simp [PyData.depth]⟩
theorem shp_bool (b : Bool) : Shp 1 (.bool b) := ⟨rfl, by simp [PyData.depth]⟩
theorem shp_ints (xs : List Int) : SeqAt.shaped (.list (xs.map .int)) = true := (shp_list (n := 1) fun d hd => by
  obtain ⟨i, _, rfl⟩ := List.mem_map.mp hd
  exact shp_int i).ok (by decide)
theorem ne_nil (xs : List Int) : (!PyData.eqv (.list (xs.map .int)) (.list [])) = !xs.isEmpty := by
  cases xs with
  | nil => rfl
  | cons x xs => rfl
theorem dp_ints {K : PySem.W.Frag} {H : Hp} : ∀ xs : List Int, DpAll K H (xs.map V.int) (xs.map PyData.int)
  | [] => .nil
  | x :: xs => .cons (.int x) (dp_ints xs)
end BF

/-! ### xs.count(y), flat items -/
namespace BF
open PySem PySem.Spec PyProof.Rows L2
theorem count_eqU {x : V} : ∀ {xs : List V} {us : List Value}, Vals xs us → xs.all flatV = true → us.countP (eqU x) = xs.countP fun y => eqV y x
  | _, _, .nil, _ => rfl
  | y :: xs, u :: us, .cons r t, f => by
    rw [List.all_cons, Bool.and_eq_true] at f
    rw [List.countP_cons, List.countP_cons, count_eqU t f.2, eqU_of r f.1]
def rCntV (K : PySem.W.Frag) : V → List V → Hp → VK → Prop := fun x xs H Q => ∃ (p : Addr) (ys : List V) (y : V), x = .ref p ∧ xs = [y] ∧ SqL K H p ys ∧ flatV y = true ∧ ys.all flatV = true ∧ Q (.int (ys.countP (fun z => eqV z y) : Nat)) H
theorem mt_count {X : Cx} : MtR X "list.count" (rCntV X.K) := by
  intro pins s σ H x xs v us Q I rx rxs h
  obtain ⟨p, ys, y, rfl, rfl, hs, fy, fa, q⟩ := h
  cases rx
  obtain ⟨u, rfl, ru⟩ := rxs.one
  obtain ⟨its, rv, ⟨⟨cls, dd, data, sl⟩, n, ho, hc, hdn, hd⟩, hlen⟩ := I.list hs
  simp only at hc hd
  subst hc hd
  refine call_meets PySem.F.slot_list_count ⟨_, ho, rfl⟩ PySem.F.entry_list_count (PySem.F.args_list_count_2 _ _) (SeqAt.list_countAt p its.toArray n dd sl u (eqU y)) ⟨ho, fun z hz => mem_eqAt ru fy rv fa z (by simpa using hz), ?_⟩
  have ec : its.toArray.toList.countP (eqU y) = ys.countP (fun z => eqV z y) := count_eqU rv fa
  refine ⟨.int (ys.countP (fun z => eqV z y) : Nat), H, I.tok _, ⟨s.toks, ?_⟩, q⟩
  rw [ec]
end BF

/-! ### enumerate(tuple) -/
namespace BF
open PySem PySem.Spec PyProof.Rows L2
open PySem.AutoSeq1 (wpAny_loadPart')
theorem enum_newT (l : Addr) (its : Array Value) (n : Nat) (dd : Option Addr) (sl : Array (Option Value)) :
    Meets (Builtin.«enumerate.__new__» ⟨[.type "enumerate", .ref l], []⟩) (fun _ R s => s.heap.get? l = some { cls := .type "tuple", dict := dd, data := .seq its n, slots := sl } ∧
      R (.ok (.ret (.ref (s.heap.push { cls := .type "tuple_iterator", data := .fields #[.ref l, .int 0 0] }).objs.size)))
        { s with heap := (s.heap.push { cls := .type "tuple_iterator", data := .fields #[.ref l, .int 0 0] }).push { cls := .type "enumerate", data := .fields #[.none, .bool false, .ref s.heap.objs.size, rawInt 0, .none, .none] } }) :=
  .of_wp fun prog w A R s h => by
    obtain ⟨hp, g, d, tk, os⟩ := s
    obtain ⟨hl, h⟩ := h
    have sub := sub_enumerate
    have tl : Heap.IsTuple (Shared.heap ⟨hp, g, d, tk, os⟩) l its := ⟨_, hl, rfl, n, rfl⟩
    wp_walk using wpAny_loadPart' hl
    refine wpAny_stack_any fun st => wpAny_pure ?_
    split
    · rename_i c _ _ _ _ _
      cases (c == Value.type "enumerate") <;> (wp_walk using wpAny_loadPart' hl, wpAny_pyIter_tuple tl; exact ⟨_, rfl, h⟩)
    · wp_walk using wpAny_loadPart' hl, wpAny_pyIter_tuple tl
      exact ⟨_, rfl, h⟩
theorem call_enumT {prog : Program} {w : World} {A : Around} {E : Value → Shared → Prop} {s : Shared} {l : Addr} {items : Array Value} {Q : Value → Shared → Prop} (hL : IsTup s.heap l items)
    (h : ∀ h', IsEnum h' (s.heap.objs.size + 1) s.heap.objs.size 0 .none → h'.IsTupleIter s.heap.objs.size l 0 → (∀ b o, s.heap.get? b = some o → h'.get? b = some o) → Q (.ref (s.heap.objs.size + 1)) { s with heap := h' }) :
    wpAny (model prog w) A (call (.type "enumerate") [.ref l]) Q E s := by
  obtain ⟨⟨c, dd, dt, sl⟩, hl, e1, n, e2⟩ := hL
  simp only at e1 e2
  subst e1 e2
  refine callType_new F.called_enumerate (by decide) (F.typeCall_enumerate_1 _) (F.newCall_enumerate_1 _) (fun obj => F.args_object_init_2 obj _) F.entry_enumerate_new (enum_newT l items n dd sl) ⟨hl, ?_⟩
  have hz : (s.heap.push { cls := .type "tuple_iterator", data := .fields #[.ref l, .int 0 0] }).objs.size = s.heap.objs.size + 1 := Heap.size_push ..
  show _ ∧ _
  rw [hz]
  have he : IsEnum ((s.heap.push { cls := .type "tuple_iterator", data := .fields #[.ref l, .int 0 0] }).push { cls := .type "enumerate", data := .fields #[.none, .bool false, .ref s.heap.objs.size, rawInt 0, .none, .none] }) (s.heap.objs.size + 1) s.heap.objs.size 0 .none := by
    have z := Heap.get?_push_size (s.heap.push { cls := .type "tuple_iterator", data := .fields #[.ref l, .int 0 0] }) (o := { cls := .type "enumerate", data := .fields #[.none, .bool false, .ref s.heap.objs.size, rawInt 0, .none, .none] }) rfl
    rw [hz] at z
    exact z
  exact ⟨⟨_, he, rfl⟩, h _ he ⟨_, Heap.get?_push_of_some _ (Heap.get?_push_size _ rfl), rfl, rfl⟩ fun b o x => Heap.get?_push_of_some _ (Heap.get?_push_of_some _ x)⟩
theorem enum_endT {prog : Program} {w : World} {A : Around} {E : Value → Shared → Prop} {s : Shared} {e it t : Addr} {j : Nat} {i : Int} {old : Value} {items : Array Value} {Q : Option Value → Shared → Prop} (hh : A.in1.handled = none) (he : IsEnum s.heap e it i old)
    (hit : s.heap.IsTupleIter it t j) (ht : s.heap.IsTuple t items) (hx : items[j]? = none) (hQ : ∀ h', Heap.ExtBut it s.heap h' → Q none { s with heap := h' }) : wpAny (model prog w) A (pyNext (.ref e)) Q E s := by
  have ty : s.TypeIs (.ref e) "enumerate" := ⟨_, he, rfl⟩
  unfold pyNext
  refine wpAny_bind (wpAny_attempt (wpAny_callSpecial?_slot (name := Str.ofString "__next__") ty F.slot_enumerate_next (wpAny_call_entry F.slot_enumerate_next ty F.entry_enumerate_next ?_ (F.args_enumerate_next_1 _))))
  show wpAny _ _ (field (.ref e) 2 >>= _) _ _ _
  refine wpAny_bind (wpAny_field he rfl (x := .ref it) rfl (wpAny_bind (wpAny_nextOf_tuple_end hh hit ht hx fun h' x he' ⟨o, ho, hc⟩ => ?_)))
  exact wpAny_bind (wpAny_isInstance (T := "StopIteration") (b := true) ⟨o, ho, hc⟩ isSubtype_stop (wpAny_pure (hQ _ he')))
/-- the tuple at a, each item in a new pair -/
def IteT (K : PySem.W.Frag) (a : Addr) : It :=
  ⟨fun i H => ∃ (xs : List V) (x : V), SqT K H a xs ∧ xs[i]? = some x, fun i H v H' => ∃ T x, v = .ref T ∧ H T = none ∧ H' = upd H T (.tup [.int (i : Nat), x]) ∧ ∀ xs, SqT K H a xs → xs[i]? = some x, fun i H => ∃ xs : List V, SqT K H a xs ∧ xs.length ≤ i⟩
theorem turn_enumT {P : Program} {w : World} {K : PySem.W.Frag} {elts : List Expr} {kk : Nat} {tpos : Pos} (a e it : Addr) :
    Turn P w K (.Tuple elts kk tpos) (IteT K a) [e, it] e (fun i h => (∃ old, IsEnum h e it ((i : Nat) : Int) old) ∧ h.IsTupleIter it a i ∧ e ≠ it ∧ a ≠ it ∧ e ≠ a) where
  mem := by simp
  obj := fun i h st b hb => by
    obtain ⟨⟨old, he⟩, ⟨o, ho, hc, hd⟩, _⟩ := st
    have z : b = e ∨ b = it := by simpa using hb
    rcases z with rfl | rfl
    · exact ⟨_, he, fun v q => nomatch q⟩
    · exact ⟨o, ho, fun v q => by rw [hd] at q; cases q⟩
  keep := fun i h h' st k => let ⟨⟨old, he⟩, hi, r⟩ := st; ⟨⟨old, k e (by simp) _ he⟩, hi.at fun o q => k it (by simp) o q, r⟩
  item := by
    intro X hP hw hK hc i pins s σ H E I hf st hg
    subst hP hw hK
    obtain ⟨⟨old, he⟩, hit, hne, hai, hea⟩ := st
    obtain ⟨xs, x, hq, hx⟩ := hg
    obtain ⟨its, rv, p, hz⟩ := I.tuple hq
    obtain ⟨u, hu, ru⟩ := rv.get hx
    have hel : e < s.heap.objs.size := Heap.lt_size he
    have hil : it < s.heap.objs.size := by obtain ⟨_, q, _⟩ := hit; exact Heap.lt_size q
    have hd : X.A.in1.handled = none := I.ok.hd hc
    have hlt : i < its.toArray.size := by
      have := (List.getElem?_eq_some_iff.mp hu).1
      simpa using this
    refine wpAny_pyNext_enum_itemD (Draws.tuple hd it a hai its.toArray) he ⟨hit, p⟩ hlt hne (by simp [hne, hea]) fun u' h' tk hu' ho hst hT hsz hk => ?_
    have eu : u' = u := by
      have hu2 : its[i]? = some u' := by simpa using hu'
      rw [hu] at hu2
      exact (Option.some.inj hu2).symm
    subst eu
    refine ⟨_, rfl, wpAny_letOwnedTupleGo_enum (s := { s with heap := h', toks := tk + 1 }) ho fun h'' he' sb => ?_⟩
    have hT2 : h''.get? s.heap.objs.size = some { cls := .type "tuple", data := .seq #[.int i tk, u'] } := (sb.2 _ (Nat.ne_of_gt hel)).trans hT
    have new : ObjOk X.prog X.w (upd H s.heap.objs.size (.tup [.int (i : Nat), x])) h'' s.heap.objs.size (.tup [.int (i : Nat), x]) := ⟨by show 2 ≤ sizeLine; decide, [.int i tk, u'], .cons ⟨_, rfl⟩ (.cons ru .nil), ⟨_, hT2, rfl, _, rfl⟩⟩
    have J : Inv X pins σ (upd H s.heap.objs.size (.tup [.int (i : Nat), x])) { s with heap := h'', toks := tk + 1 } := I.turnedNew (ch := [e, it]) (fun b ob hb q => (sb.2 b (fun z => hb (by simp [z]))).trans (hk b ob (fun z => hb (by simp [z])) (fun z => hb (by simp [z])) q)) hf (Nat.le_refl _) new
    refine ⟨.ref s.heap.objs.size, _, J, rfl, ⟨_, x, rfl, I.hok.fresh (Nat.le_refl _), rfl, fun ys hy => by rw [I.tuple_inj hy hq]; exact hx⟩, ⟨⟨u', ?_⟩, hst.1.at fun o q => (sb.2 it (Ne.symm hne)).trans q, hne, hai, hea⟩, fun b hb => ?_⟩
    · rw [show ((i + 1 : Nat) : Int) = (i : Int) + 1 by omega]
      exact he'
    · have hb' : b < s.heap.objs.size := by
        have z : b = e ∨ b = it := by simpa using hb
        rcases z with rfl | rfl
        · exact hel
        · exact hil
      rw [upd_ne (Nat.ne_of_lt hb')]
      exact (hf b hb).1
  done := by
    intro X hP hw hK hc i pins s σ H E I hf st hg
    subst hP hw hK
    obtain ⟨⟨old, he⟩, hit, hne, hai, hea⟩ := st
    obtain ⟨xs, hq, hx⟩ := hg
    obtain ⟨its, rv, p, hz⟩ := I.tuple hq
    obtain ⟨f0, f1, f2, f3, f4, f5⟩ := hf it (by simp)
    have hd : X.A.in1.handled = none := I.ok.hd hc
    have hl := rv.length
    exact enum_endT hd he hit p (by simp; omega) fun h' eb => ⟨rfl, I.turned (t' := s.toks) (fun b o hb q => eb b o hb q) f0 f1 f3 f4 f5⟩
  self := fun A i s Q E st h => let ⟨⟨_, he⟩, _⟩ := st; wpAny_pyIter_enum he h
def iEnumT (K : PySem.W.Frag) (ta : TA) : TI := fun σ H R => ta σ H fun vs H1 => ∃ a xs, vs = [.ref a] ∧ SqT K H1 a xs ∧ R (IteT K a) H1
theorem pi_enumT {X : Cx} {e : Expr} {ta : TA} {p pos tpos : Pos} {elts : List Expr} {kk : Nat} (hg : Gl X "enumerate") (hm : X.mg "enumerate" = none) (ha : PA X [e] ta) (hs : starEach [e] X.env = [(false, eval e X.env)] := by rfl) :
    PI X (.Tuple elts kk tpos) (.Call (.Name "enumerate" p) [e] [] pos) (iEnumT X.K ta) := by
  refine ⟨fun pins s σ H R I h => Call_ (ld_blt I hg hm boot_enumerate (PyProof.Rows.callWith_type1 (thn (ha.run pos pins s σ H _ I h) fun us s1 ⟨vs, H1, J, r1, q1⟩ => ?_) hs rfl))⟩
  obtain ⟨a, xs, ex, hq, q⟩ := q1
  subst ex
  cases r1 with
  | cons r rr =>
    cases rr
    cases r
    obtain ⟨its, rv, tp, hz⟩ := J.tuple hq
    have hal : a < s1.heap.objs.size := by
      obtain ⟨o, ho, _⟩ := tp
      exact Heap.lt_size ho
    refine call_enumT tp fun h' he hit hk => wpAny_pyIter_enum he ?_
    have J2 : Inv X pins σ H1 { s1 with heap := h' } := J.kept (t' := s1.toks) hk
    refine ⟨s1.heap.objs.size + 1, [s1.heap.objs.size + 1, s1.heap.objs.size], _, _, H1, rfl, J2, turn_enumT a (s1.heap.objs.size + 1) s1.heap.objs.size, ⟨⟨.none, he⟩, hit, Nat.succ_ne_self _, Nat.ne_of_lt hal, Nat.ne_of_gt (Nat.lt_succ_of_lt hal)⟩, fun b hb => ?_, q⟩
    have z : b = s1.heap.objs.size + 1 ∨ b = s1.heap.objs.size := by simpa using hb
    have hle : s1.heap.objs.size ≤ b := by
      rcases z with rfl | rfl
      · exact Nat.le_succ _
      · exact Nat.le_refl _
    exact J.fpOk hle (J.hok.fresh hle)
/-- a comprehension over enumerate(tuple) -/
theorem lc_enumT {K : PySem.W.Frag} {a : Addr} {xs : List V} {g : TG} {tt : TT} {te : TE} {vs : List Nat} {σ : L2.St} {H1 : Hp} {D : Addr} {Qd : Hp → Prop} (Pv : Nat → Hp → Prop) (h0 : Pv 0 (upd H1 D (.lst []))) (hl : ∀ i H, i ≤ xs.length → Pv i H → SqT K H a xs)
    (hs : ∀ i x T H, xs[i]? = some x → Pv i H → H T = none → g (.ref T) (wipe σ vs) (upd H T (.tup [.int (i : Nat), x])) fun σ2 H2 => wipe σ2 vs = wipe σ vs ∧ tt σ2 H2 fun b H3 =>
      if b = true then te σ2 H3 fun y H4 => ∃ acc, H4 D = some (.lst acc) ∧ acc.length < sizeLine ∧ Pv (i + 1) (upd H4 D (.lst (acc ++ [y]))) else Pv (i + 1) H3) (hd : ∀ H, Pv xs.length H → Qd H) :
    ∃ W : Nat → Nat → Hp → Prop, (∃ m, W 0 m (upd H1 D (.lst []))) ∧ ∀ i m H, W i m H →
      ((IteT K a).stop i H ∧ Qd H) ∨ ((IteT K a).go i H ∧ ∃ Nx : Hp → Prop, (∀ H', Nx H' → ∃ m', m' < m ∧ W (i + 1) m' H') ∧ ∀ x H', (IteT K a).yld i H x H' → g x (wipe σ vs) H' fun σ2 H2 => wipe σ2 vs = wipe σ vs ∧ tt σ2 H2 fun b H3 =>
        if b = true then te σ2 H3 fun y H4 => ∃ acc, H4 D = some (.lst acc) ∧ acc.length < sizeLine ∧ Nx (upd H4 D (.lst (acc ++ [y]))) else Nx H3) := by
  refine ⟨fun i m H => m = xs.length - i ∧ i ≤ xs.length ∧ Pv i H, ⟨_, rfl, Nat.zero_le _, h0⟩, ?_⟩
  rintro i m H ⟨rfl, hi, p⟩
  have sq := hl i H hi p
  by_cases c : i < xs.length
  · refine .inr ⟨⟨xs, xs[i], sq, by simp [c]⟩, Pv (i + 1), fun H' p' => ⟨xs.length - (i + 1), by omega, rfl, c, p'⟩, fun x H' y => ?_⟩
    obtain ⟨T, z, rfl, hT, rfl, hx⟩ := y
    exact hs i z T H (hx xs sq) p hT
  · have e : i = xs.length := by omega
    subst e
    exact .inl ⟨⟨xs, sq, Nat.le_refl _⟩, hd H p⟩
end BF

/-! ### the answers' classes -/
namespace BF
open PySem PySem.Spec PyProof.Rows L2
inductive Cl where
  | answer | laid | striped | short | full | beyond | twice | bare
deriving DecidableEq
def Cl.nm : Cl → Str
  | .answer => "Answer"
  | .laid => "Laid"
  | .striped => "Striped"
  | .short => "Short"
  | .full => "Full"
  | .beyond => "Beyond"
  | .twice => "Twice"
  | .bare => "Bare"
/-- its field -/
def Cl.fld : Cl → Str
  | .beyond => "count"
  | .twice => "cell"
  | .bare => "cell"
  | _ => "which"
def Cl.has : List Cl := [.answer, .laid, .striped, .short, .full, .beyond, .twice, .bare]
abbrev cl (K : PySem.W.Frag) (x : Cl) : Addr := He.ga K x.nm
structure ClF (K : PySem.W.Frag) (x : Cl) : Prop where
  c : Cls K (cl K x)
  ha : PySem.W.findIn K (.ref (cl K x)) "__class__" = some (some (.builtin "object.__class__"))
  hn : PySem.W.specialIn K (.builtin "object.__class__") "__get__" = some (some (.builtin "getset_descriptor.__get__"))
  tk : PySem.W.takesIn K (.builtin "object.__class__") = some true
  mr : PySem.W.mroIn K (cl K x) (.type "object") = some true
  kp : PySem.W.keepIn K (.ref (cl K x)) = true
  made : PySem.W.makesIn K (cl K x) = true
  no : NoAttr K (cl K x) x.fld
  kit : ∀ y ∈ Cl.has, PySem.W.kitOne K (.ref (cl K x)) (.ref (cl K y)) = some (decide (y = x) || decide (y = .answer))
  tyk : ∀ T ∈ ["int", "bool", "tuple", "list"], PySem.W.kitOne K (.ref (cl K x)) (.type T) = some false
structure ClG (K : PySem.W.Frag) (mg : Str → Option Value) : Prop where
  g : ∀ x ∈ Cl.has, mg x.nm = some (.ref (cl K x))
  f : ∀ x ∈ Cl.has, ClF K x
def clB (K : PySem.W.Frag) (x : Cl) : Bool := (He.Fa.glo x.nm).ok K && ((He.Fa.cls x.nm).ok K && (decide (PySem.W.findIn K (.ref (cl K x)) "__class__" = some (some (.builtin "object.__class__"))) &&
  (decide (PySem.W.specialIn K (.builtin "object.__class__") "__get__" = some (some (.builtin "getset_descriptor.__get__"))) && (decide (PySem.W.takesIn K (.builtin "object.__class__") = some true) &&
  (decide (PySem.W.mroIn K (cl K x) (.type "object") = some true) && (PySem.W.keepIn K (.ref (cl K x)) && (PySem.W.makesIn K (cl K x) && ((He.Fa.noat x.nm x.fld).ok K &&
  ((Cl.has.all fun y => decide (PySem.W.kitOne K (.ref (cl K x)) (.ref (cl K y)) = some (decide (y = x) || decide (y = .answer)))) && (["int", "bool", "tuple", "list"].all fun T => decide (PySem.W.kitOne K (.ref (cl K x)) (.type T) = some false)))))))))))
theorem clB_ok {K : PySem.W.Frag} {h : Heap} {mg : Str → Option Value} (X : K.In h) (G : h.Ns mainGlobals mg) (c : (Cl.has.all (clB K)) = true) : ClG K mg := by
  have a := List.all_eq_true.mp c
  refine ⟨fun x hx => ?_, fun x hx => ?_⟩
  · have b := a x hx
    unfold clB at b
    exact He.glo_ok X G (He.ba b).1
  · have b := a x hx
    unfold clB at b
    obtain ⟨_, b⟩ := He.ba b
    obtain ⟨b1, b⟩ := He.ba b
    obtain ⟨b2, b⟩ := He.ba b
    obtain ⟨b3, b⟩ := He.ba b
    obtain ⟨b4, b⟩ := He.ba b
    obtain ⟨b5, b⟩ := He.ba b
    obtain ⟨b6, b⟩ := He.ba b
    obtain ⟨b7, b⟩ := He.ba b
    obtain ⟨b8, b⟩ := He.ba b
    obtain ⟨b9, b10⟩ := He.ba b
    exact ⟨He.cls_ok b1, of_decide_eq_true b2, of_decide_eq_true b3, of_decide_eq_true b4, of_decide_eq_true b5, b6, b7, He.noat_ok b8, fun y hy => of_decide_eq_true (List.all_eq_true.mp b9 y hy), fun T hT => of_decide_eq_true (List.all_eq_true.mp b10 T hT)⟩
/-- an answer: its class, its field -/
inductive Ans where
  | laid | full
  | striped (v : V) | short (v : V) | beyond (v : V) | twice (v : V) | bare (v : V)
def Ans.cl : Ans → Cl
  | .laid => .laid
  | .full => .full
  | .striped _ => .striped
  | .short _ => .short
  | .beyond _ => .beyond
  | .twice _ => .twice
  | .bare _ => .bare
def Ans.fs : Ans → List (Str × V)
  | .laid => []
  | .full => []
  | .striped v => [("which", v)]
  | .short v => [("which", v)]
  | .beyond v => [("count", v)]
  | .twice v => [("cell", v)]
  | .bare v => [("cell", v)]
def AnsAt (K : PySem.W.Frag) (H : Hp) (p : Addr) (a : Ans) : Prop := ∃ dx, H p = some (.ins (cl K a.cl) dx a.fs)
theorem AnsAt.mono {K : PySem.W.Frag} {H H' : Hp} {p : Addr} {a : Ans} (h : AnsAt K H p a) (sm : Same H H') : AnsAt K H' p a := let ⟨dx, e⟩ := h; ⟨dx, sm _ _ e⟩
theorem AnsAt.ty {K : PySem.W.Frag} {H : Hp} {p : Addr} {a : Ans} (h : AnsAt K H p a) (F : ClF K a.cl) : TyX K H (.ref p) (.ref (BF.cl K a.cl)) := let ⟨_, e⟩ := h; .base (.ins e F.c F.ha F.hn F.tk F.mr)
theorem mem_has (a : Ans) : a.cl ∈ Cl.has := by
  generalize a.cl = x
  cases x <;> decide
/-- isinstance(answer, Class) -/
theorem tyA {K : PySem.W.Frag} {mg : Str → Option Value} {H : Hp} {p : Addr} {a : Ans} (G : ClG K mg) (h : AnsAt K H p a) (ha : a.cl ∈ Cl.has := by exact mem_has _) : TyX K H (.ref p) (.ref (BF.cl K a.cl)) := h.ty (G.f _ ha)
theorem kitA {K : PySem.W.Frag} {mg : Str → Option Value} (G : ClG K mg) (a : Ans) (y : Cl) (ha : a.cl ∈ Cl.has := by exact mem_has _) (hy : y ∈ Cl.has := by decide) : PySem.W.kitOne K (.ref (BF.cl K a.cl)) (.ref (BF.cl K y)) = some (decide (y = a.cl) || decide (y = .answer)) := (G.f _ ha).kit y hy
/-- a method of a class -/
def PlM (K : PySem.W.Frag) (x : Cl) (m q : Str) (st : Stmt) : Prop := ∃ f fd, FnP K m q st f fd ∧ Meth K (cl K x) m f
def HasM (P : Program) (w : World) (K : PySem.W.Frag) (mg : Str → Option Value) (base : Heap) (C : CXT) (k : Nat) (x : Cl) (m : Str) (ps : List Str) (sp : Sp) : Prop :=
  ∃ f fd, FnOk P w K mg base C k f fd ps sp ∧ Meth K (cl K x) m f ∧ Binds K fd ps []
section
variable {P : Program} {w : World} {K : PySem.W.Frag} {mg : Str → Option Value} {base : Heap} {x : Cl} {m q : Str} {st : Stmt} {N ps : List Str} {k : Nat} {sp : Sp}
theorem PlM.mk0 (p : PlM K x m q st) (S : FnScope N ps (defScope st))
    (hb : ∀ (kV doc pm : Value) (an : Option Addr) (cdv ct : Value) (us : List Value), us.length = ps.length → bindArgs (PySem.W.fnOf m q (defArgs st) (defBody st) (defScope st) .none kV doc pm an cdv ct) ⟨us, []⟩ = pure (ps.zip us))
    (len : ∀ vs H Q E, sp vs H Q E → vs.length = ps.length)
    (body : ∀ (f : Addr) (cdv : Value) (A : Around) (outer : List Env) (s : Shared) (H : Hp) (vs : List V) (Q : VK) (E : XK), Room k (A.deeper (envOfC q (defScope st) s.heap.objs.size f cdv)) → sp vs H Q E →
      ∃ t, PSs (cxOf CX0 P w K mg base N q (defScope st) f cdv A outer s H E).nox (defBody st) t ∧ t { nx := fun _ H' => Q .non H', rt := Q } (start N vs) H) : HasM P w K mg base CX0 (k + 1) x m ps sp := by
  obtain ⟨f, fd, F, g⟩ := p
  exact ⟨f, fd, F.ok S len (fun cdv A outer s H vs Q E hr h => by
    obtain ⟨t, a, b⟩ := body f cdv A outer s H vs Q E hr h
    exact ⟨t, a.nox, b⟩), g, F.bindsN hb⟩
end
section
variable {X : Cx} {CX : CXT} {k : Nat} {C : Addr} {ps : List Str} {E : XK} {m : Str} {pos apos : Pos} {e o : Expr} {es : List Expr} {ta : TE} {t : TA} {x : Cl}
theorem pe_any {ι : Type} {e : Expr} {Ok : ι → Prop} {t : ι → TE} (h : ∀ i, Ok i → PE X e (t i)) : PE X e (fun σ H Q => ∃ i, Ok i ∧ t i σ H Q) := ⟨fun pins s σ H Q I ⟨i, hi, q⟩ => (h i hi).run pins s σ H Q I q⟩
/-- o.m(..), o an answer of one of several classes -/
def tMethA (K : PySem.W.Frag) (Ok : Cl → Prop) (m : Str) (sp : Cl → Sp) (E : XK) (ta : TE) (t : TA) : TE := fun σ H Q => ∃ x, Ok x ∧ tMeth (cl K x) m (sp x) [] E ta t σ H Q
theorem pe_methA {pl : Sem Bool} {Ok : Cl → Prop} {sp : Cl → Sp} (h : ∀ x, Ok x → HasM X.prog X.w X.K X.mg X.base CX k x m ps (sp x)) (c : ∀ x, Ok x → Cls X.K (cl X.K x)) (hr : Room k X.A) (hx : Passes CX X E) (he : PE X o ta) (ha : PA X (e :: es) t)
    (hst : starEach (e :: es) X.env = (false, eval e X.env) :: starEach es X.env := by rfl) (hpl : (backTo pos (starEach es X.env)).any (·.1) = false := by rfl)
    (ht : eval (.Call (.Attribute o m apos) (e :: es) [] pos) X.env = (do
      let ov ← eval o X.env
      standAt apos.atName
      let (f, first) ← holding [ov] (getMethod ov m pl)
      callWith pos f first (backTo pos (starEach (e :: es) X.env)) (backToKw pos (keywordEach [] X.env))) := by rfl) :
    PE X (.Call (.Attribute o m apos) (e :: es) [] pos) (tMethA X.K Ok m sp E ta t) :=
  pe_any (Ok := Ok) (t := fun x => tMeth (cl X.K x) m (sp x) [] E ta t) fun x hx' => by
    obtain ⟨f, fd, F, M, b⟩ := h x hx'
    exact pe_meth (pl := pl) he (c x hx') M F hr b .nil hx ha hst hpl ht
/-- __init__(self, v): self.f = v -/
inductive SpInit (K : PySem.W.Frag) (x : Cl) : Sp where
  | mk {p dx : Addr} {v : V} {H : Hp} {Q : VK} {E : XK} (h : H p = some (.ins (cl K x) dx [])) (q : Q .non (upd H p (.ins (cl K x) dx [(x.fld, v)]))) : SpInit K x [.ref p, v] H Q E
def Cl.of : Cl → V → Ans
  | .striped, v => .striped v
  | .short, v => .short v
  | .beyond, v => .beyond v
  | .twice, v => .twice v
  | .bare, v => .bare v
  | .full, _ => .full
  | _, _ => .laid
def Cl.has1 : Cl → Prop
  | .striped => True
  | .short => True
  | .beyond => True
  | .twice => True
  | .bare => True
  | _ => False
theorem Cl.of_cl {x : Cl} (h : x.has1) (v : V) : (x.of v).cl = x ∧ (x.of v).fs = [(x.fld, v)] := by
  cases x <;> first | exact ⟨rfl, rfl⟩ | exact h.elim
/-- Class(e) -/
def tMk1 (K : PySem.W.Frag) (x : Cl) (t : TA) : TE := fun σ H Q => t σ H fun vs H1 => ∃ v, vs = [v] ∧ ∀ p H2, H1 p = none → Same H1 H2 → AnsAt K H2 p (x.of v) → Q (.ref p) H2
theorem pe_mk1 (M : Mk X.K (cl X.K x) (He.ma X.K (cl X.K x) "__init__")) (h : HasM X.prog X.w X.K X.mg X.base CX0 k x "__init__" ps (SpInit X.K x)) (h1 : x.has1) (hr : Room (k + 1) X.A) {y : Str} {p : Pos} (hm : X.mg y = some (.ref (cl X.K x))) (ha : PA X (e :: es) t)
    (hg : Gl X y := by rfl) (hdb : (y == ("__debug__" : Str)) = false := by decide) (he : starEach (e :: es) X.env = (false, eval e X.env) :: starEach es X.env := by rfl) (hpl : (backTo pos (starEach es X.env)).any (·.1) = false := by rfl) :
    PE X (.Call (.Name y p) (e :: es) [] pos) (tMk1 X.K x t) := by
  obtain ⟨f, fd, F, m, b⟩ := h
  refine ⟨fun pins s σ H Q I hh => wpAny_Call_Name_kw (ld_glob I hg hm ?_ hdb)⟩
  refine PySem.W.callWith_K (h₀ := X.base) I.ok.mod.kin M.kp (thn (ha.run pos pins s σ H _ I hh) fun us s1 ⟨vs, H1, J, r, v, ev, z⟩ => ⟨J.kIn, ?_⟩) he hpl
  subst ev
  have M2 : Mk X.K (cl X.K x) f := ⟨M.makes, m.at_, m.fn, M.kp⟩
  refine run_make (dvs := []) (E := E0) M2 F hr b .nil pass0 J r fun q dx nq nd ne => .mk (dx := dx) upd_same ⟨rfl, z q _ nq (fun b o eb => ?_) ?_⟩
  · have b1 := ne_of_none eb nq
    have b2 := ne_of_none eb nd
    rw [upd_ne b1, upd_ne b1, upd_ne b2]
    exact eb
  · refine ⟨dx, ?_⟩
    rw [(Cl.of_cl h1 v).1, (Cl.of_cl h1 v).2]
    exact upd_same
/-- Class(), without an __init__ -/
def tMk0 (K : PySem.W.Frag) (x : Cl) : TE := fun σ H Q => ∀ p H2, H p = none → Same H H2 → (∃ dx, H2 p = some (.ins (cl K x) dx [])) → Q (.ref p) H2
theorem run_plain {pins : List (Addr × Obj)} {σ : L2.St} {H : Hp} {s : Shared} {Q : VK} (hm : PySem.W.makesIn X.K C = true) (hi : PySem.W.findIn X.K (.ref C) "__init__" = some (some (.builtin "object.__init__"))) (I : Inv X pins σ H s)
    (h : ∀ x dx, H x = none → H dx = none → dx ≠ x → Q (.ref x) (upd (upd H dx (.own x)) x (.ins C dx []))) : wpAny (model X.prog X.w) X.A (call (.ref C) []) (EP X pins σ Q) X.xe s := by
  have J := Inv.made (C := C) I
  have z := h (s.heap.objs.size + 1) s.heap.objs.size (I.hok.fresh (Nat.le_succ _)) (I.hok.fresh (Nat.le_refl _)) (Nat.ne_of_lt (Nat.lt_succ_self _))
  have Y := PySem.W.makes_of (M := model X.prog X.w) I.kIn hm
  refine wpAny_call (make_map0 (K := X.K) I.kIn hm hi (fun self => PySem.W.Looks.of_pure (PySem.W.oi_bind self)) ?_)
  have e2 : ((s.heap.push PySem.W.emptyDict).push (PySem.W.instObj C s.heap.objs.size)).get? (s.heap.objs.size + 1) = some (PySem.W.instObj C s.heap.objs.size) := by
    have := Heap.get?_push_size (s.heap.push PySem.W.emptyDict) (o := PySem.W.instObj C s.heap.objs.size) rfl
    rwa [Heap.size_push] at this
  have u1 : PySem.W.Looks (model X.prog X.w) ((s.heap.push PySem.W.emptyDict).push (PySem.W.instObj C s.heap.objs.size)) (typeOf (.ref (s.heap.objs.size + 1))) (.ref C) := (PySem.W.Looks.ld e2).andThen .now
  have u2 : PySem.W.Looks (model X.prog X.w) ((s.heap.push PySem.W.emptyDict).push (PySem.W.instObj C s.heap.objs.size)) (isInstance (.ref (s.heap.objs.size + 1)) (.type "object")) true :=
    u1.andThen (Y.top.keeps fun b o e => Heap.get?_push_of_some _ (Heap.get?_push_of_some _ e))
  refine codeAny_call_builtin PySem.W.oi_plain PySem.W.entry_oi (@PySem.W.check_slot (model X.prog X.w) _ _ _ "object.__init__" "object" "__init__" (.ref (s.heap.objs.size + 1)) [] [] _ PySem.W.oi_kind PySem.W.oi_split u2 (PySem.W.oi_args (.ref (s.heap.objs.size + 1))) ?_)
  rw [PySem.W.oi_run]
  exact wpAny_pure (And.intro rfl ⟨.ref (s.heap.objs.size + 1), _, J, rfl, z⟩)
theorem pe_mk0 (F : ClF X.K x) (hi : PySem.W.findIn X.K (.ref (cl X.K x)) "__init__" = some (some (.builtin "object.__init__"))) {y : Str} {p : Pos} (hm : X.mg y = some (.ref (cl X.K x))) (hg : Gl X y := by rfl) (hdb : (y == ("__debug__" : Str)) = false := by decide) :
    PE X (.Call (.Name y p) [] [] pos) (tMk0 X.K x) := by
  refine ⟨fun pins s σ H Q I h => wpAny_Call_Name_kw (ld_glob I hg hm ?_ hdb)⟩
  refine PySem.W.callWith_K0 I.kIn F.kp (run_plain F.made hi I fun q dx nq nd ne => h q _ nq (fun b o eb => ?_) ⟨dx, upd_same⟩)
  have b1 := ne_of_none eb nq
  have b2 := ne_of_none eb nd
  rw [upd_ne b1, upd_ne b2]
  exact eb
end
structure ClI (P : Program) (w : World) (K : PySem.W.Frag) (mg : Str → Option Value) (base : Heap) : Prop where
  mk1 : ∀ x ∈ Cl.has, x.has1 → Mk K (cl K x) (He.ma K (cl K x) "__init__")
  in1 : ∀ x ∈ Cl.has, x.has1 → HasM P w K mg base CX0 1 x "__init__" ["self", x.fld] (SpInit K x)
  in0 : ∀ x ∈ Cl.has, (x = .laid ∨ x = .full) → PySem.W.findIn K (.ref (cl K x)) "__init__" = some (some (.builtin "object.__init__"))
section
variable {X : Cx} {pos : Pos} {e : Expr} {es : List Expr} {t : TA} {x : Cl}
theorem pe_mkI (CI : ClI X.prog X.w X.K X.mg X.base) (G : ClG X.K X.mg) (hx : x ∈ Cl.has) (h1 : x.has1) (hr : Room 2 X.A) {y : Str} {p : Pos} (ha : PA X (e :: es) t) (hy : y = x.nm := by rfl) (hg : Gl X y := by rfl) (hdb : (y == ("__debug__" : Str)) = false := by decide)
    (he : starEach (e :: es) X.env = (false, eval e X.env) :: starEach es X.env := by rfl) (hpl : (backTo pos (starEach es X.env)).any (·.1) = false := by rfl) : PE X (.Call (.Name y p) (e :: es) [] pos) (tMk1 X.K x t) :=
  pe_mk1 (CI.mk1 x hx h1) (CI.in1 x hx h1) h1 hr (by rw [hy]; exact G.g x hx) ha hg hdb he hpl
theorem pe_mkN (CI : ClI X.prog X.w X.K X.mg X.base) (G : ClG X.K X.mg) (hx : x ∈ Cl.has) (h0 : x = .laid ∨ x = .full) {y : Str} {p : Pos} (hy : y = x.nm := by rfl) (hg : Gl X y := by rfl) (hdb : (y == ("__debug__" : Str)) = false := by decide) :
    PE X (.Call (.Name y p) [] [] pos) (tMk0 X.K x) := pe_mk0 (G.f x hx) (CI.in0 x hx h0) (by rw [hy]; exact G.g x hx) hg hdb
end
theorem HasM.mono {P : Program} {w : World} {K : PySem.W.Frag} {mg : Str → Option Value} {base : Heap} {C : CXT} {j k : Nat} {x : Cl} {m : Str} {ps : List Str} {sp : Sp} (h : HasM P w K mg base C j x m ps sp) (l : j ≤ k) : HasM P w K mg base C k x m ps sp :=
  let ⟨f, fd, F, r⟩ := h; ⟨f, fd, F.mono l, r⟩
def Ok4 (x : Cl) : Prop := x ∈ [Cl.laid, .striped, .short]
def Ok5 (x : Cl) : Prop := x ∈ [Cl.full, .beyond, .twice, .bare]
theorem ok4 {x : Cl} (h : Ok4 x) : x ∈ Cl.has := by
  unfold Ok4 at h
  cases x <;> first | decide | exact absurd h (by decide)
theorem ok5 {x : Cl} (h : Ok5 x) : x ∈ Cl.has := by
  unfold Ok5 at h
  cases x <;> first | decide | exact absurd h (by decide)
end BF

/-! ### bricks and cells, in plain words -/
namespace BF
open PySem L2
structure Brick where
  x : Int
  y : Int
  l : Bool
def Brick.vs (b : Brick) : List V := [.int b.x, .int b.y, .bl b.l]
/-- along, up -/
def Brick.lo (f s : Int) (b : Brick) : Int := if b.l then f else s
def Brick.hi (f s : Int) (b : Brick) : Int := if b.l then s else f
def beyB (L W f s : Int) (b : Brick) : Bool := decide (b.x < 0) || (decide (b.y < 0) || (decide (L < b.x + b.lo f s) || decide (W < b.y + b.hi f s)))
def covB (f s : Int) (c : Int × Int) (b : Brick) : Bool := (decide (b.x ≤ c.1) && decide (c.1 < b.x + b.lo f s)) && (decide (b.y ≤ c.2) && decide (c.2 < b.y + b.hi f s))
def oftN (f s : Int) (bs : List Brick) (c : Int × Int) : Nat := (bs.filter (covB f s c)).length
def cellB (L W : Int) (c : Int × Int) : Bool := (decide (0 ≤ c.1) && decide (c.1 < L)) && (decide (0 ≤ c.2) && decide (c.2 < W))
/-- a column of cells, columns of cells -/
def colL (x y : Int) (n : Nat) : List (Int × Int) := (List.range n).map fun j : Nat => (x, y + (j : Int))
def colsL (x y : Int) (m n : Nat) : List (Int × Int) := (List.range m).flatMap fun i : Nat => colL (x + (i : Int)) y n
def cellsL (f s : Int) (b : Brick) : List (Int × Int) := colsL b.x b.y (b.lo f s).toNat (b.hi f s).toNat
theorem col_succ (x y : Int) (n : Nat) : colL x y (n + 1) = colL x y n ++ [(x, y + (n : Int))] := by
  unfold colL
  rw [List.range_succ, List.map_append]
  rfl
theorem col_len (x y : Int) (n : Nat) : (colL x y n).length = n := by
  unfold colL
  rw [List.length_map, List.length_range]
theorem cols_succ (x y : Int) (m n : Nat) : colsL x y (m + 1) n = colsL x y m n ++ colL (x + (m : Int)) y n := by
  unfold colsL
  rw [List.range_succ, List.flatMap_append]
  simp
theorem cols_len (x y : Int) (n : Nat) : ∀ m, (colsL x y m n).length = m * n
  | 0 => by simp [colsL]
  | m + 1 => by
    rw [cols_succ, List.length_append, cols_len x y n m, col_len, Nat.succ_mul]
theorem col_count (x y : Int) (c : Int × Int) : ∀ n : Nat, (colL x y n).count c = if c.1 = x ∧ y ≤ c.2 ∧ c.2 < y + (n : Int) then 1 else 0
  | 0 => by
    rw [if_neg (by omega)]
    rfl
  | n + 1 => by
    rw [col_succ, List.count_append, col_count x y c n]
    obtain ⟨a, b⟩ := c
    by_cases h : (a, b) = (x, y + (n : Int))
    · have h1 : a = x := congrArg Prod.fst h
      have h2 : b = y + (n : Int) := congrArg Prod.snd h
      rw [h, List.count_singleton_self]
      show (if x = x ∧ y ≤ y + (n : Int) ∧ y + (n : Int) < y + (n : Int) then 1 else 0) + 1 = if x = x ∧ y ≤ y + (n : Int) ∧ y + (n : Int) < y + ((n + 1 : Nat) : Int) then 1 else 0
      rw [if_neg (show ¬ (x = x ∧ y ≤ y + (n : Int) ∧ y + (n : Int) < y + (n : Int)) by omega), if_pos (show x = x ∧ y ≤ y + (n : Int) ∧ y + (n : Int) < y + ((n + 1 : Nat) : Int) by omega)]
    · have e : [(x, y + (n : Int))].count (a, b) = 0 := List.count_eq_zero_of_not_mem (by
        intro z
        exact h (List.mem_singleton.mp z))
      rw [e]
      have ne : ¬ (a = x ∧ b = y + (n : Int)) := fun z => h (by rw [z.1, z.2])
      simp only
      by_cases g : a = x ∧ y ≤ b ∧ b < y + (n : Int)
      · rw [if_pos g, if_pos (by omega)]
      · rw [if_neg g, if_neg (by omega)]
theorem cols_count (x y : Int) (n : Nat) (c : Int × Int) : ∀ m : Nat, (colsL x y m n).count c = if (x ≤ c.1 ∧ c.1 < x + (m : Int)) ∧ y ≤ c.2 ∧ c.2 < y + (n : Int) then 1 else 0
  | 0 => by
    rw [if_neg (by omega)]
    rfl
  | m + 1 => by
    rw [cols_succ, List.count_append, cols_count x y n c m, col_count]
    by_cases h : c.1 = x + (m : Int)
    · rw [if_neg (by omega)]
      by_cases g : y ≤ c.2 ∧ c.2 < y + (n : Int)
      · rw [if_pos (by omega), if_pos (by omega)]
      · rw [if_neg (by omega), if_neg (by omega)]
    · rw [if_neg (c := c.1 = x + (m : Int) ∧ y ≤ c.2 ∧ c.2 < y + (n : Int)) (by omega)]
      by_cases g : (x ≤ c.1 ∧ c.1 < x + (m : Int)) ∧ y ≤ c.2 ∧ c.2 < y + (n : Int)
      · rw [if_pos g, if_pos (by omega)]
      · rw [if_neg g, if_neg (by omega)]
theorem cells_count {f s : Int} (hf : 0 < f) (hs : 0 < s) (b : Brick) (c : Int × Int) : (cellsL f s b).count c = if covB f s c b then 1 else 0 := by
  unfold cellsL
  rw [cols_count]
  have h1 : 0 < b.lo f s := by unfold Brick.lo; split <;> omega
  have h2 : 0 < b.hi f s := by unfold Brick.hi; split <;> omega
  have e1 : ((b.lo f s).toNat : Int) = b.lo f s := Int.toNat_of_nonneg (by omega)
  have e2 : ((b.hi f s).toNat : Int) = b.hi f s := Int.toNat_of_nonneg (by omega)
  rw [e1, e2]
  unfold covB
  by_cases g : (b.x ≤ c.1 ∧ c.1 < b.x + b.lo f s) ∧ b.y ≤ c.2 ∧ c.2 < b.y + b.hi f s
  · rw [if_pos g, decide_eq_true g.1.1, decide_eq_true g.1.2, decide_eq_true g.2.1, decide_eq_true g.2.2]
    rfl
  · rw [if_neg g]
    have e : ((decide (b.x ≤ c.1) && decide (c.1 < b.x + b.lo f s)) && (decide (b.y ≤ c.2) && decide (c.2 < b.y + b.hi f s))) = false := by
      apply Bool.eq_false_iff.mpr
      intro z
      simp only [Bool.and_eq_true, decide_eq_true_eq] at z
      exact g ⟨⟨z.1.1, z.1.2⟩, z.2.1, z.2.2⟩
    rw [e]
    rfl
/-- all cells of all bricks -/
def allL (f s : Int) (bs : List Brick) : List (Int × Int) := bs.flatMap (cellsL f s)
theorem all_count {f s : Int} (hf : 0 < f) (hs : 0 < s) (c : Int × Int) : ∀ bs : List Brick, (allL f s bs).count c = oftN f s bs c
  | [] => rfl
  | b :: bs => by
    have ih := all_count hf hs c bs
    unfold allL at ih ⊢
    rw [List.flatMap_cons, List.count_append, ih, cells_count hf hs]
    unfold oftN
    rw [List.filter_cons]
    split <;> simp <;> omega
/-- the floor's cells -/
def gridL (L W : Int) : List (Int × Int) := colsL 0 0 L.toNat W.toNat
theorem grid_count {L W : Int} (hL : 0 ≤ L) (hW : 0 ≤ W) (c : Int × Int) : (gridL L W).count c = if cellB L W c then 1 else 0 := by
  unfold gridL
  rw [cols_count, Int.toNat_of_nonneg hL, Int.toNat_of_nonneg hW]
  unfold cellB
  by_cases g : (0 ≤ c.1 ∧ c.1 < 0 + L) ∧ 0 ≤ c.2 ∧ c.2 < 0 + W
  · rw [if_pos g, decide_eq_true g.1.1, decide_eq_true (show c.1 < L by omega), decide_eq_true g.2.1, decide_eq_true (show c.2 < W by omega)]
    rfl
  · rw [if_neg g]
    have e : ((decide (0 ≤ c.1) && decide (c.1 < L)) && (decide (0 ≤ c.2) && decide (c.2 < W))) = false := by
      apply Bool.eq_false_iff.mpr
      intro z
      simp only [Bool.and_eq_true, decide_eq_true_eq] at z
      omega
    rw [e]
    rfl
/-- a sum of counts over a list without doubles -/
theorem sum_counts {all : List (Int × Int)} : ∀ {g : List (Int × Int)}, (∀ c, g.count c ≤ 1) → (∀ c ∈ all, c ∈ g) → (g.map fun c => all.count c).sum = all.length := by
  induction all with
  | nil =>
    intro g k1 k2
    clear k1 k2
    show (g.map fun c => ([] : List (Int × Int)).count c).sum = 0
    induction g with
    | nil => rfl
    | cons a g ih =>
      rw [List.map_cons, List.sum_cons, ih]
      rfl
  | cons x all ih =>
    intro g h1 h2
    have hx : g.count x = 1 := by
      have := h1 x
      have := List.count_pos_iff.mpr (h2 x (by simp))
      omega
    have e : ∀ g : List (Int × Int), (g.map fun c => (x :: all).count c).sum = (g.map fun c => all.count c).sum + g.count x := by
      intro g
      induction g with
      | nil => rfl
      | cons a g ihg =>
        rw [List.map_cons, List.sum_cons, ihg, List.map_cons, List.sum_cons, List.count_cons, List.count_cons]
        by_cases z : a = x
        · subst z; simp; omega
        · have z1 : (x == a) = false := by simpa using fun h => z h.symm
          have z2 : (a == x) = false := by simpa using z
          rw [z1, z2]; simp; omega
    rw [e, ih h1 (fun c hc => h2 c (List.mem_cons_of_mem _ hc)), hx, List.length_cons]
theorem sum_ones {h : Int × Int → Nat} : ∀ {g : List (Int × Int)}, (∀ c ∈ g, h c ≤ 1) → (g.map h).sum = g.length → ∀ c ∈ g, h c = 1
  | [], _, _, c, hc => by cases hc
  | a :: g, h1, e, c, hc => by
    have le : ∀ g : List (Int × Int), (∀ c ∈ g, h c ≤ 1) → (g.map h).sum ≤ g.length := by
      intro g hg
      induction g with
      | nil => exact Nat.le_refl _
      | cons b g ih =>
        rw [List.map_cons, List.sum_cons, List.length_cons]
        have := hg b (by simp)
        have := ih fun c hc => hg c (List.mem_cons_of_mem _ hc)
        omega
    rw [List.map_cons, List.sum_cons, List.length_cons] at e
    have a1 := h1 a (by simp)
    have g1 := le g fun c hc => h1 c (List.mem_cons_of_mem _ hc)
    rcases List.mem_cons.mp hc with rfl | hc
    · omega
    · exact sum_ones (fun c hc => h1 c (List.mem_cons_of_mem _ hc)) (by omega) c hc
theorem all_ones {h : Int × Int → Nat} : ∀ {g : List (Int × Int)}, (∀ c ∈ g, h c = 1) → (g.map h).sum = g.length
  | [], _ => rfl
  | a :: g, e => by
    rw [List.map_cons, List.sum_cons, List.length_cons, e a (by simp), all_ones fun c hc => e c (List.mem_cons_of_mem _ hc)]
    omega
theorem cov_cell {L W f s : Int} {b : Brick} {c : Int × Int} (h : beyB L W f s b = false) (g : covB f s c b = true) : cellB L W c = true := by
  unfold beyB at h
  unfold covB at g
  unfold cellB
  simp only [Bool.or_eq_false_iff, decide_eq_false_iff_not] at h
  simp only [Bool.and_eq_true, decide_eq_true_eq] at g ⊢
  omega
theorem mem_cells {f s : Int} (hf : 0 < f) (hs : 0 < s) {b : Brick} {c : Int × Int} (h : c ∈ cellsL f s b) : covB f s c b = true := by
  have := List.count_pos_iff.mpr h
  rw [cells_count hf hs] at this
  by_cases g : covB f s c b = true
  · exact g
  · rw [if_neg g] at this; omega
theorem mem_grid {L W : Int} (hL : 0 ≤ L) (hW : 0 ≤ W) {c : Int × Int} : c ∈ gridL L W ↔ cellB L W c = true := by
  constructor
  · intro h
    have := List.count_pos_iff.mpr h
    rw [grid_count hL hW] at this
    by_cases g : cellB L W c = true
    · exact g
    · rw [if_neg g] at this; omega
  · intro h
    refine List.count_pos_iff.mp ?_
    rw [grid_count hL hW, if_pos h]
    omega
/-- laid: as the program reckons it, and cell by cell -/
theorem full_iff {L W f s : Int} (hL : 0 < L) (hW : 0 < W) (hf : 0 < f) (hs : 0 < s) {bs : List Brick} (hb : ∀ b ∈ bs, beyB L W f s b = false) :
    ((allL f s bs).Nodup ∧ ((allL f s bs).length : Int) = L * W) ↔ ∀ c, cellB L W c = true → oftN f s bs c = 1 := by
  have sub : ∀ c ∈ allL f s bs, c ∈ gridL L W := by
    intro c hc
    obtain ⟨b, hbm, hcb⟩ := List.mem_flatMap.mp hc
    exact (mem_grid (by omega) (by omega)).mpr (cov_cell (hb b hbm) (mem_cells hf hs hcb))
  have g1 : ∀ c, (gridL L W).count c ≤ 1 := fun c => by
    rw [grid_count (by omega) (by omega)]
    split <;> omega
  have gl : ((gridL L W).length : Int) = L * W := by
    unfold gridL
    rw [cols_len, Int.natCast_mul, Int.toNat_of_nonneg (by omega), Int.toNat_of_nonneg (by omega)]
  have sm := sum_counts g1 sub
  constructor
  · rintro ⟨nd, len⟩ c hc
    have e : ((gridL L W).map fun c => (allL f s bs).count c).sum = (gridL L W).length := by omega
    have := sum_ones (h := fun c => (allL f s bs).count c) (fun c _ => List.nodup_iff_count.mp nd c) e c ((mem_grid (by omega) (by omega)).mpr hc)
    rw [← all_count hf hs]
    exact this
  · intro h
    have e := all_ones (h := fun c => (allL f s bs).count c) (g := gridL L W) fun c hc => by
      show (allL f s bs).count c = 1
      rw [all_count hf hs]
      exact h c ((mem_grid (by omega) (by omega)).mp hc)
    refine ⟨List.nodup_iff_count.mpr fun c => ?_, by omega⟩
    by_cases hc : c ∈ allL f s bs
    · rw [all_count hf hs, h c ((mem_grid (by omega) (by omega)).mp (sub c hc))]
      exact Nat.le_refl _
    · rw [List.count_eq_zero_of_not_mem hc]
      omega
end BF

/-! ### the error classes, raising, what an except suite asks -/
namespace BF
open PySem PySem.Spec PyProof.Rows L2
inductive Er where
  | floor | size | cell | colour | bricks | barred | great
deriving DecidableEq
def Er.nm : Er → Str
  | .floor => "FloorError"
  | .size => "BadSize"
  | .cell => "BadCell"
  | .colour => "BadColour"
  | .bricks => "BadBricks"
  | .barred => "Barred"
  | .great => "TooGreat"
def Er.has : List Er := [.floor, .size, .cell, .colour, .bricks, .barred, .great]
theorem mem_er (e : Er) : e ∈ Er.has := by cases e <;> decide
abbrev er (K : PySem.W.Frag) (x : Er) : Addr := He.ga K x.nm
abbrev veB : List Value := [.type "ValueError", .type "Exception", .type "BaseException", .type "object"]
structure ErF (K : PySem.W.Frag) (e : Er) : Prop where
  x : PySem.W.excIn K (er K e) veB "ValueError.__new__" = true
  kp : PySem.W.keepIn K (.ref (er K e)) = true
  b : PySem.W.subIn K (.ref (er K e)) (.type "BaseException") = some true
  t : PySem.W.typeIn K (.ref (er K e)) = some (.type "type")
  ex : PySem.W.exmOne K (.ref (er K e)) (.ref (er K .floor)) = some true
  C : ExcC K (er K e)
  kit : ∀ y ∈ Er.has, PySem.W.kitOne K (.ref (er K e)) (.ref (er K y)) = some (decide (y = e) || decide (y = .floor))
  kitV : PySem.W.kitOne K (.ref (er K e)) (.type "ValueError") = some true
structure ErG (K : PySem.W.Frag) (mg : Str → Option Value) : Prop where
  g : ∀ x : Er, mg x.nm = some (.ref (er K x))
  f : ∀ x : Er, ErF K x
def erB (K : PySem.W.Frag) (e : Er) : Bool := (He.Fa.glo e.nm).ok K && (PySem.W.excIn K (er K e) veB "ValueError.__new__" && (PySem.W.keepIn K (.ref (er K e)) && (decide (PySem.W.subIn K (.ref (er K e)) (.type "BaseException") = some true) &&
  (decide (PySem.W.typeIn K (.ref (er K e)) = some (.type "type")) && (decide (PySem.W.exmOne K (.ref (er K e)) (.ref (er K .floor)) = some true) &&
  (decide (PySem.W.findIn K (.ref (er K e)) "__getattribute__" = some (some (.builtin "BaseException.__getattribute__"))) && (decide (PySem.W.findIn K (.ref (er K e)) "__getattr__" = some none) && (PySem.W.hasDictIn K (er K e) &&
  (decide (PySem.W.findIn K (.ref (er K e)) "__class__" = some (some (.builtin "object.__class__"))) && (decide (PySem.W.specialIn K (.builtin "object.__class__") "__get__" = some (some (.builtin "getset_descriptor.__get__"))) &&
  (decide (PySem.W.takesIn K (.builtin "object.__class__") = some true) && (decide (PySem.W.mroIn K (er K e) (.type "object") = some true) &&
  ((Er.has.all fun y => decide (PySem.W.kitOne K (.ref (er K e)) (.ref (er K y)) = some (decide (y = e) || decide (y = .floor)))) && decide (PySem.W.kitOne K (.ref (er K e)) (.type "ValueError") = some true))))))))))))))
def ersB (K : PySem.W.Frag) : Bool := Er.has.all (erB K)
theorem ersB_ok {K : PySem.W.Frag} {h : Heap} {mg : Str → Option Value} (X : K.In h) (G : h.Ns mainGlobals mg) (c : ersB K = true) : ErG K mg := by
  have a := List.all_eq_true.mp c
  refine ⟨fun x => ?_, fun x => ?_⟩
  · have b := a x (mem_er x)
    unfold erB at b
    exact He.glo_ok X G (He.ba b).1
  · have b := a x (mem_er x)
    unfold erB at b
    obtain ⟨_, b⟩ := He.ba b
    obtain ⟨b1, b⟩ := He.ba b
    obtain ⟨b2, b⟩ := He.ba b
    obtain ⟨b3, b⟩ := He.ba b
    obtain ⟨b4, b⟩ := He.ba b
    obtain ⟨b5, b⟩ := He.ba b
    obtain ⟨b6, b⟩ := He.ba b
    obtain ⟨b7, b⟩ := He.ba b
    obtain ⟨b8, b⟩ := He.ba b
    obtain ⟨b9, b⟩ := He.ba b
    obtain ⟨b10, b⟩ := He.ba b
    obtain ⟨b11, b⟩ := He.ba b
    obtain ⟨b12, b⟩ := He.ba b
    obtain ⟨b13, b14⟩ := He.ba b
    have s := of_decide_eq_true b3
    exact ⟨b1, b2, s, of_decide_eq_true b4, of_decide_eq_true b5, ⟨of_decide_eq_true b6, of_decide_eq_true b7, s, b8, of_decide_eq_true b9, of_decide_eq_true b10, of_decide_eq_true b11, of_decide_eq_true b12⟩, fun y hy => of_decide_eq_true (List.all_eq_true.mp b13 y hy), of_decide_eq_true b14⟩
abbrev CXN (P : Program) (w : World) : CXT := L2N.CX P w
section
variable {X : Cx} {e : Er} {x m : Str} {j : Nat} {p p2 pos : Pos}
/-- Error("..") -/
theorem pmk_err (G : ErG X.K X.mg) (hx : x = e.nm) (hg : Gl X x := by rfl) (hdb : (x == ("__debug__" : Str)) = false := by decide) : L2N.PMk X (.Call (.Name x p) [.Constant (.str m) j p2] [] pos) (fun _ H Q => Q (.ref (er X.K e)) none H) :=
  L2N.pmk_own PySem.F.excBase_ValueError (G.f e).x (by rw [hx]; exact G.g e) (G.f e).kp (raises_own (G.f e).b (G.f e).t) hg hdb
end
section
variable {X : Cx} {k : Nat} {ps : List Str} {sp : Sp} {E : L2.St → XK} {x : Str} {p pos : Pos} {e : Expr} {es : List Expr} {t : TA} {C : CXT}
/-- a call whose errors are caught here -/
theorem pe_fnS (h : Has X.prog X.w X.K X.mg X.base C k x ps sp) (hr : Room k X.A) (hx : ∀ σ, PassesAt C X σ (E σ)) (ha : PA X (e :: es) t) (hg : Gl X x := by rfl) (hdb : (x == ("__debug__" : Str)) = false := by decide)
    (he : starEach (e :: es) X.env = (false, eval e X.env) :: starEach es X.env := by rfl) (hpl : (backTo pos (starEach es X.env)).any (·.1) = false := by rfl) : PE X (.Call (.Name x p) (e :: es) [] pos) (tCallS sp E t) := by
  obtain ⟨f, fd, F, hm, hk, hb, _⟩ := h
  exact pe_callS F hr hg hm hk hb hx ha hdb he hpl
theorem pss_any {ι : Type} {ss : List Stmt} {Ok : ι → Prop} {t : ι → TS} (h : ∀ i, Ok i → PSs X ss (t i)) : PSs X ss (fun D σ H => ∃ i, Ok i ∧ t i D σ H) := ⟨fun pins s σ H D I ⟨i, hi, q⟩ => (h i hi).run pins s σ H D I q⟩
end
theorem takes0N {X : Cx} : L2N.Takes X (fun _ _ _ _ => False) := fun _ _ x => by
  obtain ⟨_, _, _, _, _, _, _, _, _, _, _, _, _, _, _, _, z⟩ := x
  exact z.elim
/-- try: body, except C as n: suite -/
def tTryN (K : PySem.W.Frag) (c : Value) (i : Nat) (ts : Addr → Value → Option Addr → TS) (Wout : WX) (tb : WX → TS) : TS := fun D σ H => tb (wAs K c i ts Wout D) D σ H
theorem ps_tryN {X : Cx} {x n : Str} {c : Value} {i : Nat} {body suite : List Stmt} {b₀ : Stmt} {np pos pos' : Pos} {tb : WX → TS} {ts : Addr → Value → Option Addr → TS} {Wout : WX} (hs : X.stack = X.env :: X.outer) (hf : X.env.frame = some X.env.locals) (hN : X.N.Nodup) (hi : X.N[i]? = some n) (hln : X.env.kindOf n = some .local) (hc : Names X x c) (tk : L2N.Takes X Wout)
    (hb : ∀ (W : WX) (pn : List (Addr × Obj)) (xe : Value → Shared → Prop), L2N.Takes (X.tr pn xe) W → PassesOwn (model X.prog X.w) X.A X.env xe → PSs (X.tr pn xe) body (tb W))
    (hsu : ∀ (a : Addr) (oe : Obj) (cls : Value) (d : Option Addr) (pn : List (Addr × Obj)), L2N.Zn cls d oe → (∃ vs, oe.data = .fields vs) → PSs (X.suite a ((a, oe) :: pn)) (b₀ :: suite) (ts a cls d)) :
    PS X (.Try body [.ExceptHandler (some (.Name x np)) (some n) (b₀ :: suite) pos'] [] [] pos) (tTryN X.K c i ts Wout tb) := L2N.ps_try_as hs hf hN hi hln hc tk hb hsu
/-- the error of a suite is of the class e -/
def IsEr (K : PySem.W.Frag) (cls : Value) (d : Option Addr) (e : Er) : Prop := cls = .ref (er K e) ∧ d = none
section
variable {X : Cx} {a : Addr} {oe : Obj} {cls : Value} {d : Option Addr} {pn : List (Addr × Obj)} {e : Er}
/-- isinstance(error, Class) -/
def rIsX (K : PySem.W.Frag) (e : Er) (a : Addr) : List V → Hp → VK → Prop := fun xs H Q => ∃ y : Er, xs = [.ref a, .ref (er K y)] ∧ Q (.bl (decide (y = e) || decide (y = .floor))) H
theorem call_isX {mg : Str → Option Value} (G : ErG X.K mg) (hi : IsEr X.K cls d e) (hz : L2N.Zn cls d oe) (hf : ∃ vs, oe.data = .fields vs) : CallR (X.suite a ((a, oe) :: pn)) (.builtin "isinstance") (rIsX X.K e a) := by
  obtain ⟨rfl, rfl⟩ := hi
  intro pins s σ H xs us Q I r h
  obtain ⟨y, rfl, q⟩ := h
  exact call_isE (G.f e).C hz.zc hf pins s σ H _ us Q I r ⟨.ref (er X.K y), .ref (er X.K y), _, rfl, fun u hu => hu, (G.f e).kit y (mem_er y), q⟩
/-- isinstance(error, ValueError) -/
def rIsV (a : Addr) : List V → Hp → VK → Prop := fun xs H Q => xs = [.ref a, .ty "ValueError"] ∧ Q (.bl true) H
theorem call_isV {mg : Str → Option Value} (G : ErG X.K mg) (hi : IsEr X.K cls d e) (hz : L2N.Zn cls d oe) (hf : ∃ vs, oe.data = .fields vs) : CallR (X.suite a ((a, oe) :: pn)) (.builtin "isinstance") (rIsV a) := by
  obtain ⟨rfl, rfl⟩ := hi
  intro pins s σ H xs us Q I r h
  obtain ⟨rfl, q⟩ := h
  exact call_isE (G.f e).C hz.zc hf pins s σ H _ us Q I r ⟨.ty "ValueError", .type "ValueError", _, rfl, fun u hu => hu, (G.f e).kitV, q⟩
/-- isinstance(error, (Class, Class)) -/
def rIsX2 (K : PySem.W.Frag) (e : Er) (a : Addr) : List V → Hp → VK → Prop := fun xs H Q => ∃ (y z : Er) (t : Addr), xs = [.ref a, .ref t] ∧ H t = some (.tup [.ref (er K y), .ref (er K z)]) ∧ Q (.bl ((decide (y = e) || decide (y = .floor)) || (decide (z = e) || decide (z = .floor)))) H
theorem call_isX2 {mg : Str → Option Value} (G : ErG X.K mg) (hi : IsEr X.K cls d e) (hz : L2N.Zn cls d oe) (hf : ∃ vs, oe.data = .fields vs) : CallR (X.suite a ((a, oe) :: pn)) (.builtin "isinstance") (rIsX2 X.K e a) := by
  obtain ⟨rfl, rfl⟩ := hi
  intro pins s σ H xs us Q I r h
  obtain ⟨y, z, t, rfl, ht, q⟩ := h
  have C := (G.f e).C
  cases r with
  | cons rx rr =>
    cases rr with
    | cons rt rr =>
      cases rr
      cases rx
      cases rt
      obtain ⟨hget, _⟩ := I.pin (a, oe) (List.mem_append.mpr (.inl List.mem_cons_self))
      obtain ⟨vs, hv⟩ := hf
      have J : PySem.W.InstAt s.heap a oe (er X.K e) none := by
        obtain ⟨oc, od, oda, osl⟩ := oe
        obtain ⟨h1, h2, _⟩ := hz
        dsimp only at h1 h2 hv
        subst h1 h2 hv
        exact ⟨hget, rfl, rfl, trivial⟩
      obtain ⟨_, its, rv, o, ho, hc, n, hd⟩ := I.hok _ _ ht
      have ei : its = [Value.ref (er X.K y), Value.ref (er X.K z)] := by
        cases rv with
        | cons r1 r2 =>
          cases r2 with
          | cons r3 r4 =>
            cases r4
            cases r1
            cases r3
            rfl
      subst ei
      have k1 := (G.f e).kit y (mem_er y)
      have k2 := (G.f e).kit z (mem_er z)
      have ho' : s.heap.get? t = some ⟨.type "tuple", o.dict, .seq [Value.ref (er X.K y), Value.ref (er X.K z)].toArray n, o.slots⟩ := by
        rw [ho]
        obtain ⟨oc, od, oda, osl⟩ := o
        dsimp only at hc hd
        subst hc hd
        rfl
      refine PySem.W.kia_tup (b := ((decide (y = e) || decide (y = .floor)) || (decide (z = e) || decide (z = .floor)))) (PySem.W.handS_kitx_exc C.hg C.hk C.hs C.hd C.ha C.hn C.ht C.hm) I.kIn J ho' ?_ (fun z => nomatch z) fun tk => ⟨.bl _, H, I.kept (t' := tk) fun _ _ z => z, rfl, q⟩
      unfold PySem.W.kitAny
      rw [k1]
      cases (decide (y = e) || decide (y = Er.floor)) with
      | true => rfl
      | false =>
        unfold PySem.W.kitAny
        rw [k2]
        cases (decide (z = e) || decide (z = Er.floor)) with
        | true => rfl
        | false => rfl
end
section
variable {prog : Program} {w : World} {A : Around} {E : Value → Shared → Prop} {s : Shared}
theorem list_end_hot {it l x1 : Addr} {i : Nat} {items : Array Value} {Q : Option Value → Shared → Prop} (hot : HotX.HotAt A x1 s.heap) (hne : x1 ≠ it) (hit : s.heap.IsListIter it l i) (hl : s.heap.IsList l items) (hx : items[i]? = none)
    (hQ : ∀ h', Heap.ExtBut it s.heap h' → Q none { s with heap := h' }) : wpAny (model prog w) A (pyNext (.ref it)) Q E s := by
  obtain ⟨o, ho, hc, hd⟩ := id hit
  obtain ⟨ol, hol, _, nl, hdl⟩ := hl
  obtain ⟨hh, o1, vs1, h1, d1, c1⟩ := hot
  unfold pyNext
  refine wpAny_bind (wpAny_attempt (wpAny_callSpecial?_slot (name := Str.ofString "__next__") hit.typeIs slot_listiter_next
    (wpAny_call_entry slot_listiter_next hit.typeIs entry_listiter_next ?_ (args_listiter_next _))))
  show wpAny _ _ (field (.ref it) 0 >>= _) _ _ s
  refine wpAny_bind (wpAny_field ho hd (x := .ref l) rfl ?_)
  show wpAny _ _ (if (Value.ref l == Value.none) = true then _ else _) _ _ s
  rw [if_neg (show ¬ ((Value.ref l == Value.none) = true) from Bool.false_ne_true)]
  show wpAny _ _ (field (.ref it) 1 >>= _) _ _ s
  refine wpAny_bind (wpAny_field ho hd (x := .int i 0) rfl ?_)
  show wpAny _ _ (seqItems? (.ref l) >>= _) _ _ s
  refine wpAny_bind (wpAny_seqItems hol hdl ?_)
  simp only [Int.toNat_natCast, hx]
  refine wpAny_bind (wpAny_rule (wpAny_bind (wpAny_setField ho hd (by simp) ?_)))
  show wpAny _ _ (newExc (.type "StopIteration") [] >>= _) _ _ _
  refine wpAny_bind ?_
  simp only [newExc, newTuple]
  refine wpAny_bind (wpAny_newObj_type ?_ (by size_fits))
  refine wpAny_bind (m := firstArgMember _ _) (wpAny_of_eq (a := Value.none) (by first | rfl | (simp only [firstArgMember]; rfl)) ?_)
  refine wpAny_newObj_type ?_ (by size_fits)
  have e1 : (s.heap.update it (Obj.mapFields fun x => x.setIfInBounds 0 Value.none)).get? x1 = some o1 := by
    rw [Heap.get?_update_other _ _ hne.symm]
    exact h1
  refine HotX.raiseNew_hot ⟨hh, o1, vs1, Heap.get?_push_of_some _ (Heap.get?_push_of_some _ e1), d1, c1⟩ (Nat.ne_of_lt (Heap.lt_size (Heap.get?_push_of_some _ e1))) (Heap.get?_push_size _ rfl) rfl (by first | (simp; done) | (simp; omega) | (simp only [Array.size_append]; simp; omega)) ?_
  refine wpAny_bind (wpAny_isInstance (T := "StopIteration") (b := true) ⟨_, Heap.get?_update_self _ (Heap.get?_push_size _ rfl) rfl, rfl⟩ isSubtype_stop ?_)
  refine wpAny_pure (hQ _ fun b o hb e => ?_)
  have e2 : (s.heap.update it (Obj.mapFields fun x => x.setIfInBounds 0 Value.none)).get? b = some o := by
    rw [Heap.get?_update_other _ _ (Ne.symm hb)]
    exact e
  rw [Heap.get?_update_other _ _ (Nat.ne_of_gt (Heap.lt_size (Heap.get?_push_of_some _ e2)))]
  exact Heap.get?_push_of_some _ (Heap.get?_push_of_some _ e2)
theorem walks_hot {x1 : Addr} {o1 : Obj} {vs1 : Array Value} (hh : A.handled = some (.ref x1)) (d1 : o1.data = .fields vs1) (c1 : vs1[2]? = some .none) (I ax : Addr) (hne : ax ≠ I) (hx : x1 ≠ I) (items : Array Value) :
    Walks prog w A I [I, ax, x1] [I] items.size (fun i v => items[i]? = some v) (fun i h => (h.IsListIter I ax i ∧ h.IsList ax items) ∧ h.get? x1 = some o1) where
  sub := fun b hb => by simp at hb; simp [hb]
  frame := fun _ _ _ st hk => ⟨⟨st.1.1.at fun o e => hk I (by simp) o e, st.1.2.at fun o e => hk ax (by simp) o e⟩, hk x1 (by simp) _ st.2⟩
  item := fun i s Q E hi st hQ => by
    refine wpAny_pyNext_list_item st.1.1 st.1.2 (x := items[i]) (by simp [hi]) fun h' hit' hs' => ?_
    exact hQ _ h' s.toks (by simp [hi]) ⟨⟨hit', st.1.2.extBut hs'.extBut hne⟩, hs'.extBut _ _ hx st.2⟩ fun b o hb e => hs'.extBut b o (fun h => hb (by simp [h])) e
  done := fun s Q E st hQ => list_end_hot ⟨hh, o1, vs1, st.2, d1, c1⟩ hx st.1.1 st.1.2 (by simp) fun h' he' => hQ h' s.toks fun b o hb e => he' b o (fun h => hb (by simp [h])) e
  self := fun _ _ _ _ st hQ => wpAny_pyIter_listiter st.1.1 hQ
end
section
variable {X : Cx} {a : Addr} {oe : Obj} {cls : Value} {d : Option Addr} {pn : List (Addr × Obj)}
/-- any(list) in an except suite -/
theorem cr_anyH (hz : L2N.Zn cls d oe) (hf : ∃ vs, oe.data = .fields vs) : CallR (X.suite a ((a, oe) :: pn)) (.builtin "any") (rAny X.K) := by
  intro pins s σ H vs us Q I r h
  obtain ⟨l, bs, rfl, hs, q⟩ := h
  obtain ⟨its, rv, hl, _⟩ := I.list hs
  rw [Vals.ref1 r]
  have hb := rv.bls
  obtain ⟨hget, _⟩ := I.pin (a, oe) (List.mem_append.mpr (.inl List.mem_cons_self))
  obtain ⟨vs1, hv⟩ := hf
  refine call_any_walk (iter_any hl.isList fun s₂ e2 st hne => ?_)
  subst e2
  have hlt : a < s.heap.objs.size := Heap.lt_size hget
  refine ⟨_, _, _, _, _, _, _, rfl, walks_hot (A := (X.suite a ((a, oe) :: pn)).A.in1) (x1 := a) (o1 := oe) (vs1 := vs1) rfl hv (hz.2.2 vs1 hv) _ l hne (Nat.ne_of_lt hlt) its.toArray, ⟨st, Heap.get?_push_of_some _ hget⟩, truth_bools hb, fun h' tk hk => ?_⟩
  refine ⟨.bl _, H, I.kept fun b o eo => hk b o (fun hmem => ?_) (Heap.get?_push_of_some _ eo), ?_, q⟩
  · rcases List.mem_cons.mp hmem with e1 | hmem
    · exact absurd (e1 ▸ Heap.lt_size eo) (Nat.lt_irrefl _)
    · cases hmem
  · show Value.bool _ = Value.bool _
    rw [← L2.any_range, hb, List.size_toArray, List.length_map]
end
end BF

/-! ### set(xs), xs a list of ints, as a thing that can be sorted -/
namespace BF
open PySem PySem.Spec PyProof.Rows L2
/-- what set() first makes -/
abbrev set0 (w : World) : Obj := { cls := .type "set", dict := none, data := .set #[] 0 (.fresh 0 0 (!w.params.followText "set-order")) }
section
variable {P : Program} {w : World} {A : Around} {E : Value → Shared → Prop} {s : Shared}
set_option maxHeartbeats 6400000 in
/-- set.__init__ of the new set, from the list at l -/
theorem set_init_list {l : Addr} {items : Array Value} {ns : List Int} {Q : PySem.Fin → Shared → Prop} (hh : A.handled = none) (hl : s.heap.IsList l items) (hit : IntsAre items.toList ns) (hb : ns.length + 1 < scanBound)
    (h : ∀ (h' : Heap) (tk c : Nat), SetR w h' s.heap.objs.size (fun j => decide (j ∈ ns)) c → c ≤ ns.length → (∀ b o, s.heap.get? b = some o → h'.get? b = some o) → wpAny (model P w) A (ret Value.none) Q E { s with heap := h', toks := tk }) :
    wpAny (model P w) A (Builtin.«set.__init__» ⟨[.ref s.heap.objs.size, .ref l], []⟩) Q E { s with heap := s.heap.push (set0 w) } := by
  have hisz : items.size = ns.length := by
    have q := IntsAre.length hit
    rwa [Array.length_toList] at q
  have hS : (s.heap.push (set0 w)).get? s.heap.objs.size = some (set0 w) := Heap.get?_push_size _ rfl
  obtain ⟨⟨ocls, odict, odata, oslots⟩, hol, hcl, nl, hdl⟩ := hl
  simp only at hcl hdl
  subst hcl; subst hdl
  have hol' : (s.heap.push (set0 w)).get? l = some { cls := .type "list", dict := odict, data := .seq items nl, slots := oslots } := Heap.get?_push_of_some _ hol
  have hsls := F.sub_list_set
  have hslf := F.sub_list_frozenset
  have hne : (Value.type "list" == Value.type "dict") = false := by decide
  have hl1 : (s.heap.push (set0 w)).IsList l items := ⟨_, hol', rfl, nl, rfl⟩
  have hlS : l < s.heap.objs.size := Heap.lt_size hol
  unfold Builtin.«set.__init__» noKeywords Builtin.Frozenset.updateFrom
  generalize hPI : pyIter = PI
  wp_walk
  subst hPI
  refine wpAny_pyIter_list hl1 ?_
  refine wpAny_bind (wpAny_runValue ?_)
  have hneI : l ≠ (s.heap.push (set0 w)).objs.size := by
    rw [Heap.size_push]
    exact Nat.ne_of_lt (Nat.lt_succ_of_lt hlS)
  refine set_update_ints ((Walks.list (by simp [hh]) _ l hneI items).toS) s.heap.objs.size ?_ ns hisz hb (fun i v hv => ?_) (items.size - 0) 0 _ (by omega) (Nat.zero_le _)
    ⟨⟨_, Heap.get?_push_size _ rfl, rfl, rfl⟩, hl1.push _⟩ ⟨0, Nat.le_refl 0, setR_new_at (Heap.get?_push_of_some _ hS)⟩ fun s' c' hm hc' hS' => ?_
  · rw [Heap.size_push]
    simp only [List.mem_cons, List.not_mem_nil, or_false, not_or]
    exact ⟨Nat.ne_of_lt (Nat.lt_succ_self _), Nat.ne_of_gt hlS⟩
  · have hi : i < ns.length := by rw [← hisz]; exact (Array.getElem?_eq_some_iff.mp hv).1
    obtain ⟨t, e⟩ := IntsAre.int_at hit i v (by rw [Array.getElem?_toList]; exact hv)
    refine ⟨ns[i], t, List.getElem?_eq_getElem hi, ?_⟩
    rw [e, List.getD_eq_getElem?_getD, List.getElem?_eq_getElem hi] <;> rfl
  · obtain ⟨h', g2, d', tk', os'⟩ := s'
    have eg : g2 = s.gens := hm.gens
    have ed : d' = s.drawn := hm.drawn
    have eo : os' = s.os := hm.os
    subst eg; subst ed; subst eo
    show wpAny _ _ _ _ _ _
    refine wpAny_pure ?_
    show wpAny _ _ (ret Value.none) _ _ _
    rw [hisz] at hc'
    refine h h' tk' c' hS' hc' fun b o e => ?_
    have hb0 : b < s.heap.objs.size := Heap.lt_size e
    refine hm.heap b o ?_ (Heap.get?_push_of_some _ (Heap.get?_push_of_some _ e))
    rw [Heap.size_push]
    simp only [List.mem_cons, List.not_mem_nil, or_false, not_or]
    exact ⟨Nat.ne_of_lt hb0, Nat.ne_of_lt (Nat.lt_succ_of_lt hb0)⟩
set_option maxHeartbeats 6400000 in
theorem call_set_listI {l : Addr} {items : Array Value} (ns : List Int) {Q : Value → Shared → Prop} (hh : A.handled = none) (hl : s.heap.IsList l items) (hit : IntsAre items.toList ns) (hb : ns.length + 1 < scanBound)
    (h : ∀ (h' : Heap) (tk c : Nat), SetR w h' s.heap.objs.size (fun j => decide (j ∈ ns)) c → c ≤ ns.length → (∀ b o, s.heap.get? b = some o → h'.get? b = some o) → Q (.ref s.heap.objs.size) { s with heap := h', toks := tk }) :
    wpAny (model P w) A (call (.type "set") [.ref l]) Q E s := by
  obtain ⟨c, tl, hmro⟩ := F.called_set.mro
  have hmade := F.called_set.made
  have hsub := F.called_set.sub
  refine wpAny_call (codeAny_of_tree ?_)
  show wpAny _ _ (callAny (.type "set") _) _ _ _
  refine wpAny_pure ⟨Code.quiet_builtin _ (by decide +kernel), codeAny_builtin F.entry_type_call ?_⟩
  rw [Around.under_plain (weight_type_call_type "set" [.ref l] []) rfl]
  have h1 := F.called_set.notType
  have h2 := F.called_set.canCreate
  have hct := F.typeCall_set_1 (.ref l)
  repeat (any_goals (first | assumption | wp_step))
  refine codeAny_mono (code_set_led1 (.ref l) (E := E) (Q₁ := fun obj s₁ => obj = .ref s.heap.objs.size ∧ s₁ = { s with heap := s.heap.push (set0 w) }) ⟨rfl, rfl⟩) fun r s₁ hr => ?_
  cases r with
  | error e => exact hr
  | ok fl =>
    cases fl with
    | ret obj =>
      obtain ⟨rfl, rfl⟩ := hr
      have hT : Shared.TypeIs { s with heap := s.heap.push (set0 w) } (.ref s.heap.objs.size) "set" := ⟨_, Heap.get?_push_size _ rfl, rfl⟩
      have hli := F.called_set.init.lookup
      have hbi := F.called_set.init.bind (.ref s.heap.objs.size)
      repeat (any_goals (first | assumption | wp_step))
      refine codeAny_mono (codeAny_call_builtin (R := wants (fun r s₂ => r = .none ∧ ∃ h' tk c, s₂ = { s with heap := h', toks := tk } ∧ SetR w h' s.heap.objs.size (fun j => decide (j ∈ ns)) c ∧ c ≤ ns.length ∧
          (∀ b o, s.heap.get? b = some o → h'.get? b = some o)) E) F.called_set.init.plain F.entry_set_init (check_set_init_1 hT ?_)) fun r₂ s₂ hr₂ => ?_
      · exact set_init_list (by simp [hh]) hl hit hb fun h' tk c' a1 a2 a3 => wpAny_pure ⟨rfl, h', tk, c', rfl, a1, a2, a3⟩
      · cases r₂ with
        | error e => exact hr₂
        | ok fl₂ =>
          cases fl₂ with
          | ret r =>
            obtain ⟨rfl, h', tk, c', rfl, hS', hc', hk'⟩ := hr₂
            repeat (any_goals (first | assumption | wp_step))
            exact h _ _ _ hS' hc' hk'
          | _ => exact hr₂.elim
    | _ => exact hr.elim
end
/-- set(xs), xs a list of ints -/
def rSetOfI (K : PySem.W.Frag) (w : World) : List V → Hp → VK → Prop := fun xs H Q => ∃ (l : Addr) (ns : List Int), xs = [V.ref l] ∧ SqL K H l (ns.map V.int) ∧ ns.length ≤ 1000 ∧
  ∀ a c, H a = none → c ≤ ns.length → Q (.ref a) (upd H a (SetO w a (fun j => decide (j ∈ ns)) c))
theorem cr_setOfI {X : Cx} (hc : X.calm = true) : CallR X (.type "set") (rSetOfI X.K X.w) := by
  intro pins s σ H xs us Q I r h
  obtain ⟨l, ns, rfl, hl, hf, q⟩ := h
  rw [Vals.ref1 r]
  obtain ⟨its, rv, pl, hz⟩ := I.list hl
  refine call_set_listI (P := X.prog) (w := X.w) ns (I.ok.hd hc) pl.isList (by simpa using RZ.intsAre_vals rv) (by unfold scanBound; omega) fun h' tk c R hcn k => ?_
  exact ⟨.ref s.heap.objs.size, upd H s.heap.objs.size (SetO X.w s.heap.objs.size _ c), I.laid (t' := tk) k (Nat.le_refl _) (setO_new R), rfl, q _ c (I.hok.fresh (Nat.le_refl _)) hcn⟩
end BF

/-! short words for readings: walk_at "rd" takes all steps that are plain -/
local macro_rules | `(tactic| walk_at "bn") => `(tactic| first | with_reducible assumption | ((with_reducible show BF.Bn _ ((_ : Int) % _)); exact BF.Bn.mod (by walk_at "bn") (by walk_at "ps")) | ((with_reducible show BF.Bn _ ((_ : Int) / _)); exact BF.Bn.div (by walk_at "bn") (by walk_at "ps")) | ((with_reducible show BF.Bn _ ((_ : Int) * _)); exact BF.Bn.mul (by walk_at "bn") (by walk_at "bn")) | ((with_reducible show BF.Bn _ ((_ : Int) + _)); exact BF.Bn.add (by walk_at "bn") (by walk_at "bn")) | ((with_reducible show BF.Bn _ ((_ : Int) - _)); exact BF.Bn.sub (by walk_at "bn") (by walk_at "bn")) | exact BF.Sz.bn (by with_reducible assumption) | exact BF.bnl (n := 80) (by decide))
local macro_rules | `(tactic| walk_at "ps") => `(tactic| first | with_reducible assumption | decide | exact BF.Sz.pos (by with_reducible assumption) | omega)
local macro_rules | `(tactic| walk_at "sd") => `(tactic| first | with_reducible assumption | ((with_reducible show L2.CPow _ _); exact ⟨by decide, by decide, by decide⟩) | ((with_reducible show L2.CDivW _ _); first | exact BF.divOk_lit (by decide) (by decide) | exact BF.Bn.divOk (by walk_at "bn") (by walk_at "ps") (by decide) (by decide)) | ((with_reducible show L2.CMulX _ _); exact BF.Bn.mulOk (by walk_at "bn") (by walk_at "bn") (by decide)) | ((with_reducible show _ ≤ PySem.sizeLine); exact BF.size4 (by simp)) | ((with_reducible show (0 : Int) < _); walk_at "ps") | ((with_reducible show (_ : Int) ≤ _); omega) | ((with_reducible show (_ : Int) < _); omega))
local macro_rules | `(tactic| walk_at "rd1") => `(tactic| first | refine And.intro (by walk_at "sd") ?_ | refine ⟨_, rfl, ?_⟩ | refine And.intro rfl ?_ | refine ⟨_, _, rfl, rfl, ?_⟩ | refine ⟨_, _, rfl, ?_⟩ | refine ⟨_, _, _, rfl, ?_⟩)
local macro_rules | `(tactic| walk_at "rd") => `(tactic| repeat walk_at "rd1")

/-! ### sums.py -/
namespace BF
open PySem PySem.Spec PyProof.Rows L2
/-- is_number(x): x of the built-in type T -/
inductive SpIsNumber (K : PySem.W.Frag) : Sp where
  | mk {x : V} {T : String} {i b : Bool} {H : Hp} {Q : VK} {E : XK} (ty : TyX K H x (.type T)) (hi : kitB T "int" = some i) (hb : kitB T "bool" = some b) (q : Q (.bl (i && !b)) H) : SpIsNumber K [x] H Q E
theorem num_int {K : PySem.W.Frag} {H : Hp} {Q : VK} {E : XK} {n : Int} (q : Q (.bl true) H) : SpIsNumber K [.int n] H Q E := .mk (T := "int") (i := true) (b := false) (.base (.int n)) (by decide +kernel) (by decide +kernel) q
section
variable {P : Program} {w : World} {K : PySem.W.Frag} {mg : Str → Option Value} {base : Heap}
theorem H_is_number (p : Pl K mg "is_number" s_is_number) (B : Bi mg) : Has P w K mg base CX0 1 "is_number" ["thing"] (SpIsNumber K) := by
  refine p.mk0 sc_is_number (fun _ _ _ _ _ _ us hl => match us, hl with | [_], _ => rfl) (fun vs H Q E h => ?_) (fun f cdv A outer s H vs Q E hr h => ?_)
  · cases h; rfl
  · obtain @⟨x, T, i, b, _, _, _, hT, hi, hb, q⟩ := h
    refine ⟨_, (pss_one (ps_ret (pe_and (pe_callB (r := rIsi K) call_isi (by rfl) B.isinstance (by decide +kernel) (pa_cons (pv 0) (pa_cons (pe_bltn (v := .ty "int") (by rfl) B.int (by decide +kernel) rfl) pa_nil))) (pe_one (pe_not (pe_callB (r := rIsi K) call_isi (by rfl) B.isinstance (by decide +kernel) (pa_cons (pv 0) (pa_cons (pe_bltn (v := .ty "bool") (by rfl) B.bool (by decide +kernel) rfl) pa_nil)))))))), ?_⟩
    refine ⟨_, rfl, x, _, _, _, i, rfl, .ty "int", hT, kit_ty hi, i, rfl, ?_⟩
    cases i with
    | false => exact iteF q
    | true => exact iteT ⟨_, rfl, x, _, _, _, b, rfl, .ty "bool", hT, kit_ty hb, b, rfl, q⟩
theorem ints_at {ns : List Int} {i : Nat} {y : V} (h : (ns.map V.int)[i]? = some y) : ∃ n, ns[i]? = some n ∧ y = .int n := by
  rw [List.getElem?_map] at h
  cases e : ns[i]? with
  | none => rw [e] at h; cases h
  | some n =>
    rw [e] at h
    exact ⟨n, rfl, (Option.some.inj h).symm⟩
end
end BF

namespace BF
open PySem PySem.Spec PyProof.Rows L2
/-- check_sizes(some), all of them sizes -/
inductive SpCheckSizes (K : PySem.W.Frag) : Sp where
  | mk {a : Addr} {ns : List Int} {H : Hp} {Q : VK} {E : XK} (hS : SqL K H a (ns.map V.int)) (hp : ∀ n ∈ ns, 0 < n) (q : Q .non H) : SpCheckSizes K [.ref a] H Q E
section
variable {P : Program} {w : World} {K : PySem.W.Frag} {mg : Str → Option Value} {base : Heap}
theorem H_check_sizes (p : Pl K mg "check_sizes" s_check_sizes) (h_is_number : Has P w K mg base CX0 1 "is_number" ["thing"] (SpIsNumber K)) : Has P w K mg base CX0 2 "check_sizes" ["some"] (SpCheckSizes K) := by
  refine p.mk0 sc_check_sizes (fun _ _ _ _ _ _ us hl => match us, hl with | [_], _ => rfl) (fun vs H Q E h => ?_) (fun f cdv A outer s H vs Q E hr h => ?_)
  · cases h; rfl
  · obtain @⟨a, ns, _, _, _, hS, hp, q⟩ := h
    refine ⟨_, (pss_one (ps_for PassesOwn.never (by rfl) (pi_list (pv 0)) (pg_name (i := 1) sc_check_sizes.nd rfl (Or.inl rfl)) (pss_one (ps_if (PW.pt (pw_or (pt_not (pt_val (pe_fn h_is_number (hr.mono (by decide)) pass0 (pa_cons (pv 1) pa_nil)))) (pw_or1 (pt_cmpR op_lt (pv 1) pe_int (nomark _))))) (pss_one ps_never) pss_nil)))), ?_⟩
    refine ⟨_, rfl, a, rfl, ⟨_, hS⟩, for_list (K := K) (a := a) (xs := ns.map V.int) (fun i σ H' => H' = H ∧ ∃ y, σ = [some (.ref a), y]) ⟨rfl, none, rfl⟩ (fun i σ H' _ ⟨e, _⟩ => by rw [e]; exact hS) ?_ ?_⟩
    · rintro i y σ H' hi ⟨rfl, z, rfl⟩
      obtain ⟨n, hn, rfl⟩ := ints_at hi
      have h0 := hp n (List.mem_of_getElem? hn)
      refine ⟨_, rfl, num_int ⟨true, rfl, iteF ⟨_, rfl, _, _, rfl, rfl, _, rfl, ?_⟩⟩⟩
      rw [decide_eq_false (by omega)]
      exact iteF ⟨rfl, _, rfl⟩
    · rintro σ H' ⟨rfl, z, rfl⟩
      exact q
end
end BF

namespace BF
open PySem PySem.Spec PyProof.Rows L2
inductive SpShared : Sp where
  | mk {a b : Int} {H : Hp} {Q : VK} {E : XK} (ha : Sz a) (hb : Sz b) (q : ∀ g t p H', Good a b g t → g ≤ b → 0 ≤ t → t < b → Same H H' → H' p = some (.tup [.int g, .int t]) → Q (.ref p) H') : SpShared [.int a, .int b] H Q E
/-- what parts_of hands back: None, or a new pair -/
def tellParts (x : Option (Int × Int)) (H : Hp) (Q : VK) : Prop := match x with
  | none => ∀ H', Same H H' → Q .non H'
  | some y => ∀ p H', Same H H' → H p = none → H' p = some (.tup [.int y.1, .int y.2]) → Q (.ref p) H'
theorem tellParts.mono {x : Option (Int × Int)} {H H' : Hp} {Q : VK} (q : tellParts x H Q) (sm : Same H H') : tellParts x H' Q := by
  cases x with
  | none => exact fun H2 s2 => q H2 (sm.trans s2)
  | some y => exact fun p H2 s2 hn hp => q p H2 (sm.trans s2) (sm.free hn) hp
/-- the value that tells x -/
def Told (x : Option (Int × Int)) (H : Hp) (v : V) : Prop := match x with
  | none => v = .non
  | some y => ∃ p, v = .ref p ∧ H p = some (.tup [.int y.1, .int y.2])
theorem Told.mono {x : Option (Int × Int)} {H H' : Hp} {v : V} (h : Told x H v) (sm : Same H H') : Told x H' v := by
  cases x with
  | none => exact h
  | some y =>
    obtain ⟨p, e, hp⟩ := h
    exact ⟨p, e, sm _ _ hp⟩
theorem tell_of {x : Option (Int × Int)} {H : Hp} {Q : VK} (q : ∀ v H', Same H H' → Told x H' v → Q v H') : tellParts x H Q := by
  cases x with
  | none => exact fun H' sm => q _ H' sm rfl
  | some y => exact fun p H' sm _ hp => q _ H' sm ⟨p, rfl, hp⟩
inductive SpParts : Sp where
  | mk {s a b : Int} {H : Hp} {Q : VK} {E : XK} (hs : Sz s) (ha : Sz a) (hb : Sz b) (q : tellParts (parts s a b) H Q) : SpParts [.int s, .int a, .int b] H Q E
section
variable {P : Program} {w : World} {K : PySem.W.Frag} {mg : Str → Option Value} {base : Heap}
theorem H_shared (p : Pl K mg "shared" s_shared) : Has P w K mg base CX0 1 "shared" ["one", "other"] SpShared := by
  refine p.mk0 sc_shared (fun _ _ _ _ _ _ us hl => match us, hl with | [_, _], _ => rfl) (fun vs H Q E h => ?_) (fun f cdv A outer s H vs Q E hr h => ?_)
  · cases h; rfl
  · obtain @⟨a, b, _, _, _, ha, hb, q⟩ := h
    refine ⟨_, (pss_cons (ps_asg (pe_tup (pa_cons pe_int (pa_cons pe_int pa_nil))) (pg_tup (by rfl) (pgs_cons (pg_name (i := 2) sc_shared.nd rfl (Or.inl rfl)) (pgs_cons (pg_name (i := 3) sc_shared.nd rfl (Or.inl rfl)) pgs_nil))))
      (pss_cons (ps_set (i := 4) sc_shared.nd rfl (Or.inl rfl) (pv 1))
      (pss_cons (ps_while PassesOwn.never (pt_cmpR op_gt (pv 1) pe_int (nomark _)) (pss_cons (ps_set (i := 5) sc_shared.nd rfl (Or.inl rfl) (pe_op op_fdivW (pv 0) (pv 1)))
      (pss_cons (ps_par (i := 0) (j := 1) (by rfl) sc_shared.nd rfl rfl (by decide) rfl rfl (pa_cons (pv 1) (pa_cons (pe_op op_sub (pv 0) (pe_op op_mulX (pv 5) (pv 1))) pa_nil)) (by rfl))
      (pss_one (ps_par (i := 2) (j := 3) (by rfl) sc_shared.nd rfl rfl (by decide) rfl rfl (pa_cons (pv 3) (pa_cons (pe_op op_sub (pv 2) (pe_op op_mulX (pv 5) (pv 3))) pa_nil)) (by rfl))))))
      (pss_one (ps_ret (pe_tup (pa_cons (pv 0) (pa_cons (pe_op op_mod (pv 2) (pv 4)) pa_nil)))))))), ?_⟩
    refine ⟨by show 2 ≤ sizeLine; decide, fun p0 hp0 => ⟨p0, _, rfl, sqT upd_same, rfl, _, _, rfl, _, _, rfl, rfl, ?_⟩⟩
    have sm0 : Same H (upd H p0 (.tup [.int 1, .int 0])) := same_upd hp0
    refine ⟨_, rfl, while_by (fun σ H' => Same H H' ∧ ∃ one other mine theirs y, σ = [some (.int one), some (.int other), some (.int mine), some (.int theirs), some (.int b), y] ∧ ShInv a b one other mine theirs)
      (fun σ _ => slotN σ 1) ⟨sm0, a, b, 1, 0, none, rfl, ShInv.start ha.pos hb.pos⟩ ?_ (fun σ H Q Q' hq h => ?_)⟩
    · rintro σ H' ⟨sm, one, other, mine, theirs, y, rfl, I⟩
      have b1 : Bn 2000 one := by
        rcases I.l1 with l | l
        · exact ha.bn.of_le (Int.le_of_lt I.o1) l
        · exact hb.bn.of_le (Int.le_of_lt I.o1) l
      have b2 : Bn 2000 other := hb.bn.of_le I.o2 I.l2
      have b3 : Bn 2000 theirs := hb.bn.le I.theirs_le.1
      refine ⟨_, rfl, _, _, rfl, rfl, _, rfl, iteD (fun ho => ?_) (fun ho' => ?_)⟩
      · have ho : 0 < other := ho
        have bq : Bn 2000 (one / other) := b1.div ho
        obtain ⟨t1, t2, t3⟩ := I.turn ho
        refine ⟨_, rfl, _, rfl, _, _, rfl, rfl, b2.divOk ho (by decide) (by decide), ?_⟩
        refine ⟨_, rfl, _, rfl, _, rfl, _, rfl, _, _, rfl, rfl, bq.mulOk b2 (by decide), _, _, rfl, rfl, _, _, rfl, ?_⟩
        refine ⟨_, rfl, _, rfl, _, rfl, _, rfl, _, _, rfl, rfl, bq.mulOk b3 (by decide), _, _, rfl, rfl, _, _, rfl, ?_⟩
        exact ⟨⟨sm, _, _, _, _, _, rfl, t1⟩, (show (one - one / other * other).toNat < other.toNat by omega)⟩
      · have ho : other = 0 := by
          have h1 : ¬ 0 < other := ho'
          have h2 := I.o2
          omega
        subst ho
        obtain ⟨G, l⟩ := I.done ha.pos hb.pos
        refine ⟨_, rfl, _, rfl, _, rfl, _, _, rfl, rfl, hb.pos, by show 2 ≤ sizeLine; decide, fun p hp => ?_⟩
        exact q _ _ p _ G l (Int.emod_nonneg _ (Int.ne_of_gt hb.pos)) (Int.emod_lt_of_pos _ hb.pos) (sm.trans (same_upd hp)) upd_same
    · obtain ⟨v, e, i, j, e1, e2, k, e3, q⟩ := h
      exact ⟨v, e, i, j, e1, e2, k, e3, hq _ _ q⟩
theorem H_parts_of (p : Pl K mg "parts_of" s_parts_of) (h_shared : Has P w K mg base CX0 1 "shared" ["one", "other"] SpShared) : Has P w K mg base CX0 2 "parts_of" ["size", "first", "second"] SpParts := by
  refine p.mk0 sc_parts_of (fun _ _ _ _ _ _ us hl => match us, hl with | [_, _, _], _ => rfl) (fun vs H Q E h => ?_) (fun f cdv A outer s H vs Q E hr h => ?_)
  · cases h; rfl
  · obtain @⟨sz, a, b, _, _, _, hs, ha, hb, q⟩ := h
    refine ⟨_, (pss_cons (ps_asg (pe_fn h_shared (hr.mono (by decide)) pass0 (pa_cons (pv 1) (pa_cons (pv 2) pa_nil))) (pg_tup (by rfl) (pgs_cons (pg_name (i := 3) sc_parts_of.nd rfl (Or.inl rfl)) (pgs_cons (pg_name (i := 4) sc_parts_of.nd rfl (Or.inl rfl)) pgs_nil))))
      (pss_cons (ps_if (pt_cmpR op_ne (pe_op op_mod (pv 0) (pv 3)) pe_int (nomark _)) (pss_one (ps_ret pe_non)) pss_nil)
      (pss_cons (ps_set (i := 5) sc_parts_of.nd rfl (Or.inl rfl) (pe_op op_mod (pe_op op_mulX (pe_op op_fdivW (pv 0) (pv 3)) (pv 4)) (pe_op op_fdivW (pv 2) (pv 3))))
      (pss_cons (ps_if (pt_cmpR op_gt (pe_op op_mulX (pv 5) (pv 1)) (pv 0) (nomark _)) (pss_one (ps_ret pe_non)) pss_nil)
      (pss_one (ps_ret (pe_tup (pa_cons (pv 5) (pa_cons (pe_op op_fdivW (pe_op op_sub (pv 0) (pe_op op_mulX (pv 5) (pv 1))) (pv 2)) pa_nil))))))))), ?_⟩
    refine ⟨_, rfl, _, rfl, .mk ha hb fun g t p H1 G lg t0 t1 sm hp => ?_⟩
    refine ⟨p, _, rfl, sqT hp, rfl, _, _, rfl, _, _, rfl, rfl, ?_⟩
    have e := parts_good (s := sz) ha.pos hb.pos G
    have bg : Bn 2000 g := hb.bn.of_le (Int.le_of_lt G.pos) lg
    have bt : Bn 2000 t := hb.bn.of_le t0 (Int.le_of_lt t1)
    have hbg : 0 < b / g := by
      obtain ⟨c, ec⟩ := G.gb
      have := hb.pos
      have e2 : b / g = c := by rw [ec]; exact Int.mul_ediv_cancel_left c (Int.ne_of_gt G.pos)
      rw [e2]
      rcases Int.lt_or_le 0 c with h | h
      · exact h
      · have h3 : g * c ≤ g * 0 := Int.mul_le_mul_of_nonneg_left h (Int.le_of_lt G.pos)
        omega
    refine ⟨_, rfl, _, rfl, _, _, rfl, rfl, G.pos, rfl, _, rfl, iteNe (fun c1 => ?_) (fun c2 => ?_)⟩
    · have c1 : sz % g ≠ 0 := c1
      rw [if_pos c1] at e
      rw [e] at q
      exact q _ sm
    · have c1 : ¬ sz % g ≠ 0 := fun z => z c2
      rw [if_neg c1] at e
      have bf : Bn 2000 (sz / g * t % (b / g)) := (hb.bn.div G.pos).mod hbg
      refine ⟨_, rfl, _, rfl, _, _, rfl, rfl, bg.divOk G.pos (by decide) (by decide), _, rfl, _, _, rfl, rfl, (hs.bn.div G.pos).mulOk bt (by decide), _, rfl, _, rfl, _, _, rfl, rfl, bg.divOk G.pos (by decide) (by decide), _, _, rfl, rfl, hbg, ?_⟩
      refine ⟨_, rfl, _, rfl, _, _, rfl, rfl, bf.mulOk ha.bn (by decide), _, rfl, _, _, rfl, rfl, _, rfl, iteD (fun d => ?_) (fun d => ?_)⟩
      · rw [if_pos d] at e
        rw [e] at q
        exact q _ sm
      · rw [if_neg d] at e
        rw [e] at q
        refine ⟨_, rfl, _, rfl, _, rfl, _, rfl, _, _, rfl, rfl, bf.mulOk ha.bn (by decide), _, _, rfl, rfl, _, rfl, _, _, rfl, rfl, hb.bn.divOk hb.pos (by decide) (by decide), by show 2 ≤ sizeLine; decide, fun p' hp' => ?_⟩
        exact q p' _ (sm.trans (same_upd hp')) (sm.free hp') upd_same
end
end BF

/-! ### what bars, in plain words -/
namespace BF
open PySem L2
def strB (L W d : Int) : Bool := !decide (L % d = 0) && !decide (W % d = 0)
noncomputable def shoB (x f s : Int) : Bool := (parts x f s).isNone
/-- those of 0, 1 that are so -/
def two (a b : Bool) : List Int := (if a then [0] else []) ++ (if b then [1] else [])
def strL (L W f s : Int) : List Int := two (strB L W f) (strB L W s)
noncomputable def shoL (L W f s : Int) : List Int := two (shoB L f s) (shoB W f s)
/-- whether a side bars: 0, 1 of the brick, 2, 3 of the floor -/
noncomputable def barB (L W f s : Int) (k : Int) : Bool := if k < 2 then strB L W (if k = 0 then f else s) else shoB (if k = 2 then L else W) f s
end BF
namespace BF
theorem sho_no {x f s m n : Int} (hf : 0 < f) (hs : 0 < s) (h : Rep x f s m n) : shoB x f s = false := by
  have p := parts_is (s := x) hf hs
  unfold shoB
  cases e : parts x f s with
  | none =>
    rw [e] at p
    exact absurd h (p m n)
  | some y => rfl
theorem sho_yes {x f s : Int} (hs : 0 < s) (h : ∀ m n, ¬ Rep x f s m n) : shoB x f s = true := by
  have p := parts_eq (s := x) (a := f) (b := s) (x := none) hs h
  unfold shoB
  rw [p]
  rfl
end BF

/-! ### answers.py: what bars -/
namespace BF
open PySem PySem.Spec PyProof.Rows L2
inductive SpStriped : Sp where
  | mk {L W d : Int} {H : Hp} {Q : VK} {E : XK} (hd : 0 < d) (q : Q (.bl (strB L W d)) H) : SpStriped [.int L, .int W, .int d] H Q E
inductive SpBars : Sp where
  | mk {L W f s : Int} {H : Hp} {Q : VK} {E : XK} (hL : Sz L) (hW : Sz W) (hf : Sz f) (hs : Sz s)
      (q : ∀ p p1 p2 H', Same H H' → H' p = some (.tup [.ref p1, .ref p2]) → H' p1 = some (.lst ((strL L W f s).map V.int)) → H' p2 = some (.lst ((shoL L W f s).map V.int)) → Q (.ref p) H') : SpBars [.int L, .int W, .int f, .int s] H Q E
/-- what two tests have picked behind i turns -/
def twoN (a b : Bool) : Nat → List Int
  | 0 => []
  | 1 => if a then [0] else []
  | _ => two a b
section
variable {P : Program} {w : World} {K : PySem.W.Frag} {mg : Str → Option Value} {base : Heap}
theorem H_is_striped (p : Pl K mg "is_striped" s_is_striped) : Has P w K mg base CX0 1 "is_striped" ["length", "width", "side"] SpStriped := by
  refine p.mk0 sc_is_striped (fun _ _ _ _ _ _ us hl => match us, hl with | [_, _, _], _ => rfl) (fun vs H Q E h => ?_) (fun f cdv A outer s H vs Q E hr h => ?_)
  · cases h; rfl
  · obtain @⟨L, W, d, _, _, _, hd, q⟩ := h
    refine ⟨_, (pss_one (ps_ret (pe_and (pe_cmpR op_ne (pe_op op_mod (pv 0) (pv 2)) pe_int (nomark _)) (pe_one (pe_cmpR op_ne (pe_op op_mod (pv 1) (pv 2)) pe_int (nomark _)))))), ?_⟩
    unfold strB at q
    walk_at "rd"
    refine iteNe (fun c => ?_) (fun c => ?_)
    · rw [decide_eq_false c] at q
      walk_at "rd"
      have e : decide (V.int (W % d) = V.int 0) = decide (W % d = 0) := decide_eq_decide.mpr ⟨fun z => V.int.inj z, fun z => congrArg V.int z⟩
      rw [show (!decide (V.int (W % d) = V.int 0)) = (!false && !decide (W % d = 0)) by rw [e]; rfl]
      exact q
    · rw [decide_eq_true c] at q
      exact q
theorem H_what_bars (p : Pl K mg "what_bars" s_what_bars) (B : Bi mg) (h_is_striped : Has P w K mg base CX0 1 "is_striped" ["length", "width", "side"] SpStriped) (h_parts_of : Has P w K mg base CX0 2 "parts_of" ["size", "first", "second"] SpParts) :
    Has P w K mg base CX0 3 "what_bars" ["length", "width", "first", "second"] SpBars := by
  refine p.mk0 sc_what_bars (fun _ _ _ _ _ _ us hl => match us, hl with | [_, _, _, _], _ => rfl) (fun vs H Q E h => ?_) (fun f cdv A outer s H vs Q E hr h => ?_)
  · cases h; rfl
  · obtain @⟨L, W, fi, se, _, _, _, hL, hW, hf, hs, q⟩ := h
    refine ⟨_, (pss_cons (ps_setLc (i := 4) (own := [("which", 6), ("side", 7)]) (g := (gTup K 2 (gCons (gName 6) (gCons (gName 7) gNil)))) (by rfl) sc_what_bars.nd rfl rfl (sw_true rfl rfl rfl (by decide +kernel)) (pi_enumT (by rfl) B.enumerate (pa_cons (pe_tup (pa_cons (pv 2) (pa_cons (pv 3) pa_nil))) pa_nil)) (blkOk_by (own := [("which", 6), ("side", 7)]) (N := ["length", "width", "first", "second", "striped", "short", "which", "side"]) (sc := defScope s_what_bars) (by decide +kernel)) (fun _ _ _ _ _ => (pg_tup (by rfl) (pgs_cons (pg_name (i := 6) sc_what_bars.nd rfl (Or.inl rfl)) (pgs_cons (pg_name (i := 7) sc_what_bars.nd rfl (Or.inl rfl)) pgs_nil)))) (fun _ _ _ _ _ => pts_one (pt_val (pe_fn h_is_striped (hr.mono (by decide)) pass0 (pa_cons (pv 0) (pa_cons (pv 1) (pa_cons (pv 7) pa_nil)))))) (fun _ _ _ _ _ => (pv 6)))
      (pss_cons (ps_setLc (i := 5) (own := [("which", 6), ("side", 7)]) (g := (gTup K 2 (gCons (gName 6) (gCons (gName 7) gNil)))) (by rfl) sc_what_bars.nd rfl rfl (sw_true rfl rfl rfl (by decide +kernel)) (pi_enumT (by rfl) B.enumerate (pa_cons (pe_tup (pa_cons (pv 0) (pa_cons (pv 1) pa_nil))) pa_nil)) (blkOk_by (own := [("which", 6), ("side", 7)]) (N := ["length", "width", "first", "second", "striped", "short", "which", "side"]) (sc := defScope s_what_bars) (by decide +kernel)) (fun _ _ _ _ _ => (pg_tup (by rfl) (pgs_cons (pg_name (i := 6) sc_what_bars.nd rfl (Or.inl rfl)) (pgs_cons (pg_name (i := 7) sc_what_bars.nd rfl (Or.inl rfl)) pgs_nil)))) (fun _ _ _ _ _ => pts_one (pt_cmpR op_isN (pe_fn h_parts_of (hr.mono (by decide)) pass0 (pa_cons (pv 7) (pa_cons (pv 2) (pa_cons (pv 3) pa_nil)))) pe_non (nomark _))) (fun _ _ _ _ _ => (pv 6)))
      (pss_one (ps_ret (pe_tup (pa_cons (pv 4) (pa_cons (pv 5) pa_nil))))))), ?_⟩
    walk_at "rd"
    intro t1 ht1
    generalize hH1 : upd H t1 _ = H1
    obtain ⟨sm1, up1⟩ : Same H H1 ∧ H1 t1 = some (.tup [.int fi, .int se]) := newH hH1 ht1
    clear hH1
    refine ⟨t1, _, rfl, sqT up1, fun D1 hD1 => lc_enumT (K := K) (a := t1) (xs := [.int fi, .int se]) (fun i H' => Same H1 H' ∧ H' D1 = some (.lst ((twoN (strB L W fi) (strB L W se) i).map V.int))) ⟨same_upd hD1, upd_same⟩ (fun i H' _ ⟨sm, _⟩ => sqT (sm _ _ up1)) ?_ ?_⟩
    · rintro i x T H' hx ⟨sm, eD⟩ hT
      obtain ⟨d, rfl, hd⟩ : ∃ d : Int, x = .int d ∧ ((i = 0 ∧ d = fi) ∨ (i = 1 ∧ d = se)) := by
        match i, hx with
        | 0, e => cases e; exact ⟨_, rfl, .inl ⟨rfl, rfl⟩⟩
        | 1, e => cases e; exact ⟨_, rfl, .inr ⟨rfl, rfl⟩⟩
        | n + 2, e => cases e
      have hdp : 0 < d := by
        rcases hd with ⟨_, rfl⟩ | ⟨_, rfl⟩
        · exact hf.pos
        · exact hs.pos
      have eD2 := same_upd (o := .tup [.int (i : Nat), .int d]) hT _ _ eD
      refine ⟨T, _, rfl, sqT upd_same, rfl, ?_⟩
      have sm2 : Same H1 (upd H' T (.tup [.int (i : Nat), .int d])) := sm.trans (same_upd hT)
      generalize upd H' T (.tup [.int (i : Nat), .int d]) = H2 at eD2 sm2 ⊢
      walk_at "rd"
      refine .mk hdp ⟨_, rfl, iteB (fun c => ?_) (fun c => ?_)⟩
      · refine ⟨_, rfl, _, eD2, ?_, ?_, ?_⟩
        · rw [List.length_map]
          refine Nat.lt_of_le_of_lt (m := 2) ?_ (by decide)
          rcases hd with ⟨rfl, _⟩ | ⟨rfl, _⟩
          · exact Nat.zero_le _
          · show (if strB L W fi then [(0 : Int)] else []).length ≤ 2; split <;> decide
        · exact fun b o e => by rw [upd_ne (ne_of_none e hD1)]; exact sm2 b o e
        · rw [upd_same]
          rcases hd with ⟨rfl, rfl⟩ | ⟨rfl, rfl⟩
          · show some (HO.lst ([] ++ [V.int 0])) = some (HO.lst ((if strB L W d then [0] else []).map V.int))
            rw [c]
            rfl
          · show some (HO.lst ((if strB L W fi then [0] else []).map V.int ++ [V.int 1])) = some (HO.lst ((two (strB L W fi) (strB L W d)).map V.int))
            unfold two
            rw [c, List.map_append]
            rfl
      · refine ⟨sm2, ?_⟩
        rw [eD2]
        rcases hd with ⟨rfl, rfl⟩ | ⟨rfl, rfl⟩
        · show some (HO.lst []) = some (HO.lst ((if strB L W d then [0] else []).map V.int))
          rw [c]
          rfl
        · show some (HO.lst ((if strB L W fi then [0] else []).map V.int)) = some (HO.lst ((two (strB L W fi) (strB L W d)).map V.int))
          unfold two
          rw [c]
          simp
    · rintro H2 ⟨sm2, eD1⟩
      walk_at "rd"
      intro t2 ht2
      generalize hH3 : upd H2 t2 _ = H3
      obtain ⟨sm3, up3⟩ : Same H2 H3 ∧ H3 t2 = some (.tup [.int L, .int W]) := newH hH3 ht2
      clear hH3
      refine ⟨t2, _, rfl, sqT up3, fun D2 hD2 => lc_enumT (K := K) (a := t2) (xs := [.int L, .int W]) (fun i H' => Same H3 H' ∧ H' D2 = some (.lst ((twoN (shoB L fi se) (shoB W fi se) i).map V.int))) ⟨same_upd hD2, upd_same⟩ (fun i H' _ ⟨sm, _⟩ => sqT (sm _ _ up3)) ?_ ?_⟩
      · rintro i x T H' hx ⟨sm, eD⟩ hT
        obtain ⟨d, rfl, hd⟩ : ∃ d : Int, x = .int d ∧ ((i = 0 ∧ d = L) ∨ (i = 1 ∧ d = W)) := by
          match i, hx with
          | 0, e => cases e; exact ⟨_, rfl, .inl ⟨rfl, rfl⟩⟩
          | 1, e => cases e; exact ⟨_, rfl, .inr ⟨rfl, rfl⟩⟩
          | n + 2, e => cases e
        have hdp : Sz d := by
          rcases hd with ⟨_, rfl⟩ | ⟨_, rfl⟩
          · exact hL
          · exact hW
        have eD2 := same_upd (o := .tup [.int (i : Nat), .int d]) hT _ _ eD
        refine ⟨T, _, rfl, sqT upd_same, rfl, ?_⟩
        have sm4 : Same H3 (upd H' T (.tup [.int (i : Nat), .int d])) := sm.trans (same_upd hT)
        generalize upd H' T (.tup [.int (i : Nat), .int d]) = H4 at eD2 sm4 ⊢
        walk_at "rd"
        refine .mk hdp hf hs (tell_of fun v H5 sm5 tv => ?_)
        have ev : (decide (v = .non)) = shoB d fi se := by
          unfold shoB
          cases hp : parts d fi se with
          | none =>
            rw [hp] at tv
            obtain rfl : v = .non := tv
            rfl
          | some y =>
            rw [hp] at tv
            obtain ⟨p5, rfl, _⟩ := tv
            rfl
        refine ⟨rfl, _, rfl, ?_⟩
        rw [ev]
        replace eD2 := sm5 _ _ eD2
        replace sm4 := sm4.trans sm5
        refine iteB (fun c => ?_) (fun c => ?_)
        · refine ⟨_, rfl, _, eD2, ?_, ?_, ?_⟩
          · rw [List.length_map]
            refine Nat.lt_of_le_of_lt (m := 2) ?_ (by decide)
            rcases hd with ⟨rfl, _⟩ | ⟨rfl, _⟩
            · exact Nat.zero_le _
            · show (if shoB L fi se then [(0 : Int)] else []).length ≤ 2; split <;> decide
          · exact fun b o e => by rw [upd_ne (ne_of_none e hD2)]; exact sm4 b o e
          · rw [upd_same]
            rcases hd with ⟨rfl, rfl⟩ | ⟨rfl, rfl⟩
            · show some (HO.lst ([] ++ [V.int 0])) = some (HO.lst ((if shoB d fi se then [0] else []).map V.int))
              rw [c]
              rfl
            · show some (HO.lst ((if shoB L fi se then [0] else []).map V.int ++ [V.int 1])) = some (HO.lst ((two (shoB L fi se) (shoB d fi se)).map V.int))
              unfold two
              rw [c, List.map_append]
              rfl
        · refine ⟨sm4, ?_⟩
          rw [eD2]
          rcases hd with ⟨rfl, rfl⟩ | ⟨rfl, rfl⟩
          · show some (HO.lst []) = some (HO.lst ((if shoB d fi se then [0] else []).map V.int))
            rw [c]
            rfl
          · show some (HO.lst ((if shoB L fi se then [0] else []).map V.int)) = some (HO.lst ((two (shoB L fi se) (shoB d fi se)).map V.int))
            unfold two
            rw [c]
            simp
      · rintro H4 ⟨sm4, eD2⟩
        walk_at "rd"
        intro t3 ht3
        have e1 : H4 D1 = _ := sm4 _ _ (sm3 _ _ eD1)
        exact q t3 D1 D2 _ (sm1.trans (sm2.trans (sm3.trans (sm4.trans (same_upd ht3))))) upd_same (same_upd ht3 _ _ e1) (same_upd ht3 _ _ eD2)
end
end BF

/-! ### answers.py: bricks and cells -/
namespace BF
open PySem PySem.Spec PyProof.Rows L2
def cellV (c : Int × Int) : List V := [.int c.1, .int c.2]
/-- a brick's tuple, a list of bricks -/
def BrAll (K : PySem.W.Frag) (H : Hp) (ps : List (Addr × Brick)) : Prop := ∀ p ∈ ps, SqT K H p.1 p.2.vs
def refs {α : Type} (ps : List (Addr × α)) : List V := ps.map fun p => V.ref p.1
def vals {α : Type} (ps : List (Addr × α)) : List α := ps.map (·.2)
theorem BrAll.mono {K : PySem.W.Frag} {H H' : Hp} {ps : List (Addr × Brick)} (h : BrAll K H ps) (sm : Same H H') : BrAll K H' ps := fun p hp => Same.tup sm (h p hp)
theorem refs_at {α : Type} {ps : List (Addr × α)} {i : Nat} {v : V} (h : (refs ps)[i]? = some v) : ∃ p, ps[i]? = some p ∧ v = .ref p.1 ∧ p ∈ ps := by
  unfold refs at h
  rw [List.getElem?_map] at h
  cases e : ps[i]? with
  | none => rw [e] at h; cases h
  | some p =>
    rw [e] at h
    exact ⟨p, rfl, (Option.some.inj h).symm, List.mem_of_getElem? e⟩
theorem refs_len {α : Type} (ps : List (Addr × α)) : (refs ps).length = ps.length := List.length_map _
theorem vals_len {α : Type} (ps : List (Addr × α)) : (vals ps).length = ps.length := List.length_map _
inductive SpBeyond (K : PySem.W.Frag) : Sp where
  | mk {o : Addr} {b : Brick} {L W f s : Int} {H : Hp} {Q : VK} {E : XK} (ho : SqT K H o b.vs) (q : ∀ H', Same H H' → Q (.bl (beyB L W f s b)) H') : SpBeyond K [.int L, .int W, .int f, .int s, .ref o] H Q E
inductive SpCovers (K : PySem.W.Frag) : Sp where
  | mk {o t : Addr} {b : Brick} {c : Int × Int} {f s : Int} {H : Hp} {Q : VK} {E : XK} (ho : SqT K H o b.vs) (ht : SqT K H t (cellV c)) (q : ∀ H', Same H H' → Q (.bl (covB f s c b)) H') : SpCovers K [.int f, .int s, .ref o, .ref t] H Q E
inductive SpOften (K : PySem.W.Frag) : Sp where
  | mk {l t : Addr} {ps : List (Addr × Brick)} {c : Int × Int} {f s : Int} {H : Hp} {Q : VK} {E : XK} (hl : SqL K H l (refs ps)) (hb : BrAll K H ps) (hn : ps.length ≤ 10000) (ht : SqT K H t (cellV c)) (q : ∀ H', Same H H' → Q (.int (oftN f s (vals ps) c : Nat)) H') :
    SpOften K [.int f, .int s, .ref l, .ref t] H Q E
section
variable {P : Program} {w : World} {K : PySem.W.Frag} {mg : Str → Option Value} {base : Heap}
theorem H_is_beyond (p : Pl K mg "is_beyond" s_is_beyond) : Has P w K mg base CX0 1 "is_beyond" ["length", "width", "first", "second", "brick"] (SpBeyond K) := by
  refine p.mk0 sc_is_beyond (fun _ _ _ _ _ _ us hl => match us, hl with | [_, _, _, _, _], _ => rfl) (fun vs H Q E h => ?_) (fun f cdv A outer s H vs Q E hr h => ?_)
  · cases h; rfl
  · obtain @⟨o, ⟨x, y, l⟩, L, W, fi, se, _, _, _, ho, q⟩ := h
    refine ⟨_, (pss_cons (ps_asg (pe_ifExp (pt_val (pe_ix (r := rIxT K) ix_tup (pv 4) pe_int (fun _ _ => rfl))) (pe_tup (pa_cons (pv 2) (pa_cons (pv 3) pa_nil))) (pe_tup (pa_cons (pv 3) (pa_cons (pv 2) pa_nil)))) (pg_tup (by rfl) (pgs_cons (pg_name (i := 5) sc_is_beyond.nd rfl (Or.inl rfl)) (pgs_cons (pg_name (i := 6) sc_is_beyond.nd rfl (Or.inl rfl)) pgs_nil))))
      (pss_one (ps_ret (pe_or (pe_cmpR op_lt (pe_ix (r := rIxT K) ix_tup (pv 4) pe_int (fun _ _ => rfl)) pe_int (nomark _)) (pe_or (pe_cmpR op_lt (pe_ix (r := rIxT K) ix_tup (pv 4) pe_int (fun _ _ => rfl)) pe_int (nomark _)) (pe_or (pe_cmpR op_gt (pe_op op_add (pe_ix (r := rIxT K) ix_tup (pv 4) pe_int (fun _ _ => rfl)) (pv 5)) (pv 0) (nomark _)) (pe_one (pe_cmpR op_gt (pe_op op_add (pe_ix (r := rIxT K) ix_tup (pv 4) pe_int (fun _ _ => rfl)) (pv 6)) (pv 1) (nomark _))))))))), ?_⟩
    unfold beyB Brick.lo Brick.hi at q
    cases l
    all_goals
      simp only [Bool.false_eq_true, if_false, if_true] at q
      refine ⟨_, rfl, o, _, 2, _, rfl, rfl, ho, rfl, _, rfl, ?_⟩
      first | refine iteF ?_ | refine iteT ?_
      walk_at "rd"
      intro t ht
      generalize hH1 : upd H t _ = H1
      obtain ⟨sm1, up1⟩ := newH hH1 ht
      clear hH1
      have ho1 := Same.tup sm1 ho
      refine ⟨t, _, rfl, sqT up1, rfl, ?_⟩
      walk_at "rd"
      refine ⟨o, _, 0, _, rfl, rfl, ho1, rfl, _, _, rfl, rfl, _, rfl, iteD (fun c => ?_) (fun c => ?_)⟩
      · have c : x < 0 := c
        simp only [decide_eq_true c, Bool.true_or] at q
        exact q _ sm1
      have c : ¬ x < 0 := c
      simp only [decide_eq_false c, Bool.false_or] at q
      refine ⟨_, rfl, o, _, 1, _, rfl, rfl, ho1, rfl, _, _, rfl, rfl, _, rfl, iteD (fun c => ?_) (fun c => ?_)⟩
      · have c : y < 0 := c
        simp only [decide_eq_true c, Bool.true_or] at q
        exact q _ sm1
      have c : ¬ y < 0 := c
      simp only [decide_eq_false c, Bool.false_or] at q
      refine ⟨_, rfl, o, _, 0, _, rfl, rfl, ho1, rfl, ?_⟩
      walk_at "rd"
      refine iteD (fun c => ?_) (fun c => ?_)
      · simp only [decide_eq_true c, Bool.true_or] at q
        exact q _ sm1
      simp only [decide_eq_false c, Bool.false_or] at q
      refine ⟨_, rfl, o, _, 1, _, rfl, rfl, ho1, rfl, ?_⟩
      walk_at "rd"
      exact q _ sm1
theorem H_covers (p : Pl K mg "covers" s_covers) : Has P w K mg base CX0 1 "covers" ["first", "second", "brick", "cell"] (SpCovers K) := by
  refine p.mk0 sc_covers (fun _ _ _ _ _ _ us hl => match us, hl with | [_, _, _, _], _ => rfl) (fun vs H Q E h => ?_) (fun f cdv A outer s H vs Q E hr h => ?_)
  · cases h; rfl
  · obtain @⟨o, t, ⟨x, y, l⟩, ⟨c1, c2⟩, fi, se, _, _, _, ho, ht, q⟩ := h
    refine ⟨_, (pss_cons (ps_asg (pe_ifExp (pt_val (pe_ix (r := rIxT K) ix_tup (pv 2) pe_int (fun _ _ => rfl))) (pe_tup (pa_cons (pv 0) (pa_cons (pv 1) pa_nil))) (pe_tup (pa_cons (pv 1) (pa_cons (pv 0) pa_nil)))) (pg_tup (by rfl) (pgs_cons (pg_name (i := 4) sc_covers.nd rfl (Or.inl rfl)) (pgs_cons (pg_name (i := 5) sc_covers.nd rfl (Or.inl rfl)) pgs_nil))))
      (pss_one (ps_ret (pe_and (pe_chain op_le op_lt (pe_ix (r := rIxT K) ix_tup (pv 2) pe_int (fun _ _ => rfl)) (pe_ix (r := rIxT K) ix_tup (pv 3) pe_int (fun _ _ => rfl)) (pe_op op_add (pe_ix (r := rIxT K) ix_tup (pv 2) pe_int (fun _ _ => rfl)) (pv 4))) (pe_one (pe_chain op_le op_lt (pe_ix (r := rIxT K) ix_tup (pv 2) pe_int (fun _ _ => rfl)) (pe_ix (r := rIxT K) ix_tup (pv 3) pe_int (fun _ _ => rfl)) (pe_op op_add (pe_ix (r := rIxT K) ix_tup (pv 2) pe_int (fun _ _ => rfl)) (pv 5)))))))), ?_⟩
    unfold covB Brick.lo Brick.hi at q
    cases l
    all_goals
      simp only [Bool.false_eq_true, if_false, if_true] at q
      refine ⟨_, rfl, o, _, 2, _, rfl, rfl, ho, rfl, _, rfl, ?_⟩
      first | refine iteF ?_ | refine iteT ?_
      walk_at "rd"
      intro p1 hp1
      generalize hH1 : upd H p1 _ = H1
      obtain ⟨sm1, up1⟩ := newH hH1 hp1
      clear hH1
      have ho1 := Same.tup sm1 ho
      have ht1 := Same.tup sm1 ht
      refine ⟨p1, _, rfl, sqT up1, rfl, ?_⟩
      walk_at "rd"
      refine ⟨o, _, 0, _, rfl, rfl, ho1, rfl, _, rfl, t, _, 0, _, rfl, rfl, ht1, rfl, ?_⟩
      walk_at "rd"
      refine iteD (fun c => ?_) (fun c => ?_)
      · simp only [decide_eq_true c, Bool.true_and] at q
        refine ⟨_, rfl, o, _, 0, _, rfl, rfl, ho1, rfl, ?_⟩
        walk_at "rd"
        refine iteD (fun c => ?_) (fun c => ?_)
        · simp only [decide_eq_true c, Bool.true_and] at q
          refine ⟨_, rfl, o, _, 1, _, rfl, rfl, ho1, rfl, _, rfl, t, _, 1, _, rfl, rfl, ht1, rfl, ?_⟩
          walk_at "rd"
          refine iteD (fun c => ?_) (fun c => ?_)
          · simp only [decide_eq_true c, Bool.true_and] at q
            refine ⟨_, rfl, o, _, 1, _, rfl, rfl, ho1, rfl, ?_⟩
            walk_at "rd"
            exact q _ sm1
          · simp only [decide_eq_false c, Bool.false_and] at q
            exact q _ sm1
        · simp only [decide_eq_false c, Bool.false_and] at q
          exact q _ sm1
      · simp only [decide_eq_false c, Bool.false_and] at q
        exact ⟨_, rfl, iteF (q _ sm1)⟩
theorem H_often (p : Pl K mg "often" s_often) (B : Bi mg) (h_covers : Has P w K mg base CX0 1 "covers" ["first", "second", "brick", "cell"] (SpCovers K)) : Has P w K mg base CX0 2 "often" ["first", "second", "bricks", "cell"] (SpOften K) := by
  refine p.mk0 sc_often (fun _ _ _ _ _ _ us hl => match us, hl with | [_, _, _, _], _ => rfl) (fun vs H Q E h => ?_) (fun f cdv A outer s H vs Q E hr h => ?_)
  · cases h; rfl
  · obtain @⟨l, t, ps, c, fi, se, _, _, _, hl, hb, hn, ht, q⟩ := h
    refine ⟨_, (pss_one (ps_ret (pe_callB (r := rLen2 K) call_len_seq (by rfl) B.len PySem.boot_len (pa_cons (pe_lc (own := [("brick", 4)]) (by rfl) sc_often.nd (pi_list (pv 2)) (blkOk_by (own := [("brick", 4)]) (N := ["first", "second", "bricks", "cell", "brick"]) (sc := defScope s_often) (by decide +kernel)) (fun _ _ _ _ _ => (pg_name (i := 4) sc_often.nd rfl (Or.inl rfl))) (fun _ _ _ _ _ => pts_one (pt_val (pe_fn h_covers (hr.mono (by decide)) pass0 (pa_cons (pv 0) (pa_cons (pv 1) (pa_cons (pv 4) (pa_cons (pv 3) pa_nil))))))) (fun _ _ _ _ _ => (pv 4))) pa_nil)))), ?_⟩
    refine ⟨_, rfl, l, rfl, ⟨_, hl⟩, fun D hD => ?_⟩
    refine lc_list (K := K) (a := l) (xs := refs ps) (fun i H' => Same H H' ∧ ∃ vs, H' D = some (.lst vs) ∧ vs.length = oftN fi se ((vals ps).take i) c) ⟨same_upd hD, [], upd_same, rfl⟩ (fun i H' _ ⟨sm, _⟩ => sm.seq hl) ?_ ?_
    · rintro i v H' hi ⟨sm, vs, eD, ev⟩
      obtain ⟨pb, hpb, rfl, hm⟩ := refs_at hi
      have hlt : i < ps.length := (List.getElem?_eq_some_iff.mp hpb).1
      have et : (vals ps).take (i + 1) = (vals ps).take i ++ [pb.2] := by
        unfold vals
        rw [List.take_add_one, List.getElem?_map, hpb]
        rfl
      have eo : oftN fi se ((vals ps).take (i + 1)) c = oftN fi se ((vals ps).take i) c + if covB fi se c pb.2 then 1 else 0 := by
        rw [et]
        unfold oftN
        rw [List.filter_append, List.length_append, List.filter_cons]
        split <;> rfl
      have hle : oftN fi se ((vals ps).take i) c ≤ ps.length := by
        unfold oftN
        refine Nat.le_trans (List.length_filter_le _ _) ?_
        rw [List.length_take, vals_len]
        exact Nat.min_le_right _ _
      refine ⟨rfl, ?_⟩
      walk_at "rd"
      refine .mk (Same.tup sm (hb pb hm)) (Same.tup sm ht) fun H2 sm2 => ⟨_, rfl, iteB (fun c => ?_) (fun c => ?_)⟩
      · rw [c, if_pos rfl] at eo
        refine ⟨_, rfl, vs, sm2 _ _ eD, ?_, ?_, vs ++ [.ref pb.1], upd_same, ?_⟩
        · rw [ev]
          exact Nat.lt_of_le_of_lt hle (Nat.lt_of_le_of_lt hn (by decide))
        · exact fun b1 o e => by rw [upd_ne (ne_of_none e hD)]; exact sm2 _ _ (sm b1 o e)
        · rw [List.length_append, ev, eo]
          rfl
      · rw [c] at eo
        exact ⟨sm.trans sm2, vs, sm2 _ _ eD, by rw [ev, eo]; rfl⟩
    · rintro H' ⟨sm, vs, eD, ev⟩
      rw [refs_len, ← vals_len ps, List.take_length] at ev
      refine ⟨D, vs, rfl, .inl (sqL eD), ?_⟩
      rw [ev]
      exact q _ sm
end
end BF

/-! ### answers.py: the cells of a brick; what are cells -/
namespace BF
open PySem PySem.Spec PyProof.Rows L2
def CeAll (H : Hp) (cs : List (Addr × (Int × Int))) : Prop := ∀ q ∈ cs, H q.1 = some (.tup (cellV q.2))
theorem CeAll.mono {H H' : Hp} {cs : List (Addr × (Int × Int))} (h : CeAll H cs) (sm : Same H H') : CeAll H' cs := fun q hq => sm _ _ (h q hq)
inductive SpCells (K : PySem.W.Frag) : Sp where
  | mk {o : Addr} {b : Brick} {f s : Int} {H : Hp} {Q : VK} {E : XK} (ho : SqT K H o b.vs) (h1 : 0 ≤ b.lo f s ∧ b.lo f s ≤ 1000) (h2 : 0 ≤ b.hi f s ∧ b.hi f s ≤ 1000)
      (q : ∀ p H' cs, Same H H' → H' p = some (.lst (refs cs)) → CeAll H' cs → vals cs = cellsL f s b → Q (.ref p) H') : SpCells K [.int f, .int s, .ref o] H Q E
inductive SpIsCell : Sp where
  | mk {t : Addr} {c : Int × Int} {L W : Int} {H : Hp} {Q : VK} {E : XK} (ht : H t = some (.tup (cellV c))) (q : Q (.bl (cellB L W c)) H) : SpIsCell [.int L, .int W, .ref t] H Q E
inductive CellsI (fi se : Int) (o F : Addr) (lo hi x y : Int) (H : Hp) (i : Nat) : L2.St → Hp → Prop where
  | mk {H' : Hp} {z u : Option V} {cs : List (Addr × (Int × Int))} (sm : Same H H') (hF : H' F = some (.lst (refs cs))) (hc : CeAll H' cs) (hv : vals cs = colsL x y i hi.toNat) : CellsI fi se o F lo hi x y H i [some (.int fi), some (.int se), some (.ref o), some (.int lo), some (.int hi), some (.ref F), z, u] H'
theorem ce_add {H : Hp} {cs : List (Addr × (Int × Int))} {p : Addr} {c : Int × Int} (h : CeAll H cs) (hp : H p = some (.tup (cellV c))) : CeAll H (cs ++ [(p, c)]) := fun q hq => by
  rcases List.mem_append.mp hq with a | a
  · exact h q a
  · obtain rfl := List.mem_singleton.mp a
    exact hp
theorem mul_add_le {i n : Nat} (h1 : i < 1000) (h2 : n ≤ 1000) : i * n + n ≤ 1000000 := by
  have := Nat.mul_le_mul (show i + 1 ≤ 1000 by omega) h2
  rw [Nat.succ_mul] at this
  exact this
theorem refs_app {α : Type} (a b : List (Addr × α)) : refs (a ++ b) = refs a ++ refs b := List.map_append
theorem vals_app {α : Type} (a b : List (Addr × α)) : vals (a ++ b) = vals a ++ vals b := List.map_append
section
variable {P : Program} {w : World} {K : PySem.W.Frag} {mg : Str → Option Value} {base : Heap}
theorem H_is_cell (p : Pl K mg "is_cell" s_is_cell) (B : Bi mg) (h_is_number : Has P w K mg base CX0 1 "is_number" ["thing"] (SpIsNumber K)) : Has P w K mg base CX0 2 "is_cell" ["length", "width", "thing"] SpIsCell := by
  refine p.mk0 sc_is_cell (fun _ _ _ _ _ _ us hl => match us, hl with | [_, _, _], _ => rfl) (fun vs H Q E h => ?_) (fun f cdv A outer s H vs Q E hr h => ?_)
  · cases h; rfl
  · obtain @⟨t, ⟨c1, c2⟩, L, W, _, _, _, ht, q⟩ := h
    refine ⟨_, (pss_cons (ps_if (PW.pt (pw_or (pt_not (pt_val (pe_callB (r := rIsi K) call_isi (by rfl) B.isinstance (by decide +kernel) (pa_cons (pv 2) (pa_cons (pe_bltn (v := .ty "tuple") (by rfl) B.tuple (by decide +kernel) rfl) pa_nil))))) (pw_or (pt_cmpR op_ne (pe_callB (r := rLen2 K) call_len_seq (by rfl) B.len PySem.boot_len (pa_cons (pv 2) pa_nil)) pe_int (nomark _)) (pw_or (pt_not (pt_val (pe_fn h_is_number (hr.mono (by decide)) pass0 (pa_cons (pe_ix (r := rIxT K) ix_tup (pv 2) pe_int (fun _ _ => rfl)) pa_nil)))) (pw_or1 (pt_not (pt_val (pe_fn h_is_number (hr.mono (by decide)) pass0 (pa_cons (pe_ix (r := rIxT K) ix_tup (pv 2) pe_int (fun _ _ => rfl)) pa_nil))))))))) (pss_one (ps_ret pe_bl)) pss_nil)
      (pss_one (ps_ret (pe_and (pe_chain op_le op_lt pe_int (pe_ix (r := rIxT K) ix_tup (pv 2) pe_int (fun _ _ => rfl)) (pv 0)) (pe_one (pe_chain op_le op_lt pe_int (pe_ix (r := rIxT K) ix_tup (pv 2) pe_int (fun _ _ => rfl)) (pv 1))))))), ?_⟩
    unfold cellB at q
    refine ⟨_, rfl, _, _, _, _, true, rfl, .ty "tuple", .base (.tup ht), kit_ty (by decide +kernel), true, rfl, iteF ?_⟩
    refine ⟨_, rfl, t, _, rfl, .inr (sqT ht), rfl, _, rfl, iteNe (fun z => absurd rfl z) (fun _ => ?_)⟩
    refine ⟨_, rfl, t, _, 0, _, rfl, rfl, sqT ht, rfl, num_int ⟨true, rfl, iteF ?_⟩⟩
    refine ⟨_, rfl, t, _, 1, _, rfl, rfl, sqT ht, rfl, num_int ⟨true, rfl, iteF ?_⟩⟩
    refine ⟨_, rfl, t, _, 0, _, rfl, rfl, sqT ht, rfl, ?_⟩
    walk_at "rd"
    refine iteD (fun c => ?_) (fun c => ?_)
    · simp only [decide_eq_true c, Bool.true_and] at q
      walk_at "rd"
      refine iteD (fun c => ?_) (fun c => ?_)
      · simp only [decide_eq_true c, Bool.true_and] at q
        refine ⟨_, rfl, t, _, 1, _, rfl, rfl, sqT ht, rfl, ?_⟩
        walk_at "rd"
        refine iteD (fun c => ?_) (fun c => ?_)
        · simp only [decide_eq_true c, Bool.true_and] at q
          walk_at "rd"
          exact q
        · simp only [decide_eq_false c, Bool.false_and] at q
          exact q
      · simp only [decide_eq_false c, Bool.false_and] at q
        exact q
    · simp only [decide_eq_false c, Bool.false_and] at q
      exact ⟨_, rfl, iteF q⟩
theorem H_cells_of (p : Pl K mg "cells_of" s_cells_of) (B : Bi mg) : Has P w K mg base CX0 1 "cells_of" ["first", "second", "brick"] (SpCells K) := by
  refine p.mk0 sc_cells_of (fun _ _ _ _ _ _ us hl => match us, hl with | [_, _, _], _ => rfl) (fun vs H Q E h => ?_) (fun f cdv A outer s H vs Q E hr h => ?_)
  · cases h; rfl
  · obtain @⟨o, b, fi, se, _, _, _, ho, h1, h2, q⟩ := h
    refine ⟨_, (pss_cons (ps_asg (pe_ifExp (pt_val (pe_ix (r := rIxT K) ix_tup (pv 2) pe_int (fun _ _ => rfl))) (pe_tup (pa_cons (pv 0) (pa_cons (pv 1) pa_nil))) (pe_tup (pa_cons (pv 1) (pa_cons (pv 0) pa_nil)))) (pg_tup (by rfl) (pgs_cons (pg_name (i := 3) sc_cells_of.nd rfl (Or.inl rfl)) (pgs_cons (pg_name (i := 4) sc_cells_of.nd rfl (Or.inl rfl)) pgs_nil))))
      (pss_cons (ps_set (i := 5) sc_cells_of.nd rfl (Or.inl rfl) (pe_lst pa_nil))
      (pss_cons (ps_for PassesOwn.never (by rfl) (pi_range1 (by rfl) B.range (pa_cons (pv 3) pa_nil)) (pg_name (i := 6) sc_cells_of.nd rfl (Or.inr rfl)) (pss_one (ps_expr (pe_bm PySem.F.plainAttrs_list PySem.F.slot_list_extend PySem.F.type_list_extend mt_extend (pv 5) (pa_cons (pe_lc (own := [("up", 7)]) (by rfl) sc_cells_of.nd (pi_range1 (by rfl) B.range (pa_cons (pv 4) pa_nil)) (blkOk_by (own := [("up", 7)]) (N := ["first", "second", "brick", "long", "high", "found", "along", "up"]) (sc := defScope s_cells_of) (by decide +kernel)) (fun _ _ _ _ _ => (pg_name (i := 7) sc_cells_of.nd rfl (Or.inl rfl))) (fun _ _ _ _ _ => pts_nil) (fun _ _ _ _ _ => (pe_tup (pa_cons (pe_op op_add (pe_ix (r := rIxT K) ix_tup (pv 2) pe_int (fun _ _ => rfl)) (pv 6)) (pa_cons (pe_op op_add (pe_ix (r := rIxT K) ix_tup (pv 2) pe_int (fun _ _ => rfl)) (pv 7)) pa_nil))))) pa_nil)))))
      (pss_one (ps_ret (pv 5)))))), ?_⟩
    unfold cellsL at q
    obtain ⟨x, y, l⟩ := b
    generalize hlo : Brick.lo fi se ⟨x, y, l⟩ = lo at h1 q
    generalize hhi : Brick.hi fi se ⟨x, y, l⟩ = hi at h2 q
    cases l
    all_goals
      unfold Brick.lo at hlo
      unfold Brick.hi at hhi
      simp only [Bool.false_eq_true, if_false, if_true] at hlo hhi
      subst hlo hhi
      refine ⟨_, rfl, o, _, 2, _, rfl, rfl, ho, rfl, _, rfl, ?_⟩
      first | refine iteF ?_ | refine iteT ?_
      walk_at "rd"
      intro p1 hp1
      generalize hH1 : upd H p1 _ = H1
      obtain ⟨sm1, up1⟩ := newH hH1 hp1
      clear hH1
      refine ⟨p1, _, rfl, sqT up1, rfl, ?_⟩
      walk_at "rd"
      intro F hF
      have ho1 := Same.tup sm1 ho
      refine ⟨_, rfl, _, rfl, by omega, by omega, for_range (lo := 0) (n := _) (fun i σ H' => CellsI fi se o F _ _ x y H1 i σ H') (.mk (cs := []) (same_upd hF) upd_same (fun q hq => nomatch hq) rfl) ?_ ?_⟩
      · rintro i _ H2 hi @⟨_, _, _, cs, sm2, eF, hc, hv⟩
        have e0 : (0 : Int) + (i : Int) = i := by omega
        refine ⟨_, rfl, .inl ⟨rfl, _, sqL eF⟩, _, rfl, _, rfl, by omega, by omega, fun D hD => ?_⟩
        have nFD : F ≠ D := ne_of_none eF hD
        refine lc_range (lo := 0) (n := _) (fun j H' => Same H2 H' ∧ ∃ ds, H' D = some (.lst (refs ds)) ∧ CeAll H' ds ∧ vals ds = colL (x + (i : Int)) y j) ⟨same_upd hD, [], upd_same, (fun q hq => nomatch hq), rfl⟩ ?_ ?_
        · rintro j H3 hj ⟨sm3, ds, eD, hds, vds⟩
          have e1 : (0 : Int) + (j : Int) = j := by omega
          have ho3 := Same.tup (sm2.trans sm3) ho1
          refine ⟨rfl, lc_yes ?_⟩
          refine ⟨_, rfl, o, _, 0, _, rfl, rfl, ho3, rfl, _, rfl, _, _, rfl, rfl, _, rfl, o, _, 1, _, rfl, rfl, ho3, rfl, _, rfl, _, _, rfl, rfl, ?_⟩
          refine ⟨size4 (by simp), fun p4 hp4 => ?_⟩
          have nDp : D ≠ p4 := ne_of_none eD hp4
          refine ⟨_, by rw [upd_ne nDp]; exact eD, ?_, ?_, ds ++ [(p4, (x + (i : Int), y + (j : Int)))], ?_, ?_, ?_⟩
          · rw [refs_len, ← vals_len, vds, col_len]
            exact Nat.lt_of_lt_of_le hj (size4 (by omega))
          · exact fun b1 o1 e => by rw [upd_ne (ne_of_none e hD)]; exact same_upd hp4 _ _ (sm3 b1 o1 e)
          · rw [upd_same, refs_app]
            rfl
          · refine fun q hq => ?_
            have z := ce_add (H := upd H3 p4 (.tup (cellV (x + (i : Int), y + (j : Int))))) (c := (x + (i : Int), y + (j : Int))) (hds.mono (same_upd hp4)) upd_same q hq
            have nq : q.1 ≠ D := fun z2 => by
              rw [z2, upd_ne nDp, eD] at z
              cases z
            rw [upd_ne nq, e0, e1]
            exact z
          · rw [vals_app, vds, col_succ]
            rfl
        · rintro H3 ⟨sm3, ds, eD, hds, vds⟩
          have eF3 := sm3 _ _ eF
          refine ⟨F, D, _, _, rfl, rfl, eF3, eD, ?_, ?_⟩
          · rw [refs_len, refs_len, ← vals_len cs, ← vals_len ds, hv, vds, cols_len, col_len]
            exact size4 (mul_add_le (by omega) (by omega))
          · refine .mk (cs := cs ++ ds) ?_ ?_ ?_ ?_
            · exact fun b1 o1 e => by rw [upd_ne (ne_of_none e hF)]; exact sm3 _ _ (sm2 b1 o1 e)
            · rw [upd_same, refs_app]
            · refine fun q hq => ?_
              have z : H3 q.1 = some (.tup (cellV q.2)) := by
                rcases List.mem_append.mp hq with a | a
                · exact hc.mono sm3 q a
                · exact hds q a
              have nq : q.1 ≠ F := fun z2 => by
                rw [z2, eF3] at z
                cases z
              rw [upd_ne nq]
              exact z
            · rw [vals_app, hv, vds, cols_succ]
      · rintro _ H2 @⟨_, _, _, cs, sm2, eF, hc, hv⟩
        exact ⟨_, rfl, q F H2 cs (sm1.trans sm2) eF hc hv⟩
end
end BF

/-! ### laying.py: floors that can be laid -/
namespace BF
open PySem PySem.Spec PyProof.Rows L2
/-- nothing bars -/
def Free (L W f s : Int) : Prop := strL L W f s = [] ∧ shoL L W f s = []
noncomputable def planP (L W f s : Int) : Int × Int :=
  if L % f = 0 ∧ W % s = 0 then (L, W) else if L % s = 0 ∧ W % f = 0 then (0, 0) else if L % f = 0 then (L, ((parts W f s).getD (0, 0)).2 * s) else (((parts L f s).getD (0, 0)).1 * f, W)
noncomputable def brickP (L W f s : Int) (c : Int × Int) : Brick :=
  if c.1 < (planP L W f s).1 ∧ c.2 < (planP L W f s).2 then ⟨c.1 / f * f, c.2 / s * s, true⟩ else
    ⟨(if (planP L W f s).2 = W then (planP L W f s).1 else 0) + (c.1 - (if (planP L W f s).2 = W then (planP L W f s).1 else 0)) / s * s, (if (planP L W f s).1 = L then (planP L W f s).2 else 0) + (c.2 - (if (planP L W f s).1 = L then (planP L W f s).2 else 0)) / f * f, decide (f = s)⟩
inductive SpLaid : Sp where
  | mk {L W f s : Int} {H : Hp} {Q : VK} {E : XK} (hL : Sz L) (hW : Sz W) (hf : Sz f) (hs : Sz s) (fr : Free L W f s) (q : ∀ H', Same H H' → Q .non H') : SpLaid [.int L, .int W, .int f, .int s] H Q E
inductive SpPlan : Sp where
  | mk {L W f s : Int} {H : Hp} {Q : VK} {E : XK} (hL : Sz L) (hW : Sz W) (hf : Sz f) (hs : Sz s) (fr : Free L W f s) (q : ∀ p H', Same H H' → H' p = some (.tup [.int (planP L W f s).1, .int (planP L W f s).2]) → Q (.ref p) H') : SpPlan [.int L, .int W, .int f, .int s] H Q E
section
variable {P : Program} {w : World} {K : PySem.W.Frag} {mg : Str → Option Value} {base : Heap}
theorem H_check_laid (p : Pl K mg "check_laid" s_check_laid) (h_check_sizes : Has P w K mg base CX0 2 "check_sizes" ["some"] (SpCheckSizes K)) (h_what_bars : Has P w K mg base CX0 3 "what_bars" ["length", "width", "first", "second"] SpBars) :
    Has P w K mg base CX0 4 "check_laid" ["length", "width", "first", "second"] SpLaid := by
  refine p.mk0 sc_check_laid (fun _ _ _ _ _ _ us hl => match us, hl with | [_, _, _, _], _ => rfl) (fun vs H Q E h => ?_) (fun f cdv A outer s H vs Q E hr h => ?_)
  · cases h; rfl
  · obtain @⟨L, W, fi, se, _, _, _, hL, hW, hf, hs, fr, q⟩ := h
    refine ⟨_, (pss_cons (ps_expr (pe_fn h_check_sizes (hr.mono (by decide)) pass0 (pa_cons (pe_lst (pa_cons (pv 0) (pa_cons (pv 1) (pa_cons (pv 2) (pa_cons (pv 3) pa_nil))))) pa_nil)))
      (pss_one (ps_if (pt_cmpR (r := rNeD K) (op_neD hr.units) (pe_fn h_what_bars (hr.mono (by decide)) pass0 (pa_cons (pv 0) (pa_cons (pv 1) (pa_cons (pv 2) (pa_cons (pv 3) pa_nil))))) (pe_tup (pa_cons (pe_lst pa_nil) (pa_cons (pe_lst pa_nil) pa_nil))) (nomark _)) (pss_one ps_never) pss_nil))), ?_⟩
    walk_at "rd"
    intro l1 hl1
    generalize hH1 : upd H l1 _ = H1
    obtain ⟨sm1, up1⟩ : Same H H1 ∧ H1 l1 = some (.lst ([L, W, fi, se].map V.int)) := newH hH1 hl1
    clear hH1
    refine .mk (ns := [L, W, fi, se]) (sqL up1) ?_ ?_
    · intro n hn
      have e : n = L ∨ n = W ∨ n = fi ∨ n = se := by simpa using hn
      rcases e with rfl | rfl | rfl | rfl
      · exact hL.pos
      · exact hW.pos
      · exact hf.pos
      · exact hs.pos
    walk_at "rd"
    refine .mk hL hW hf hs fun t p1 p2 H2 sm2 ht hp1 hp2 => ?_
    rw [fr.1] at hp1
    rw [fr.2] at hp2
    walk_at "rd"
    intro l3 hl3
    generalize hH3 : upd H2 l3 _ = H3
    obtain ⟨sm3, up3⟩ : Same H2 H3 ∧ H3 l3 = some (.lst []) := newH hH3 hl3
    clear hH3
    walk_at "rd"
    intro l4 hl4
    generalize hH4 : upd H3 l4 _ = H4
    obtain ⟨sm4, up4⟩ : Same H3 H4 ∧ H4 l4 = some (.lst []) := newH hH4 hl4
    clear hH4
    walk_at "rd"
    intro t5 ht5
    generalize hH5 : upd H4 t5 _ = H5
    obtain ⟨sm5, up5⟩ : Same H4 H5 ∧ H5 t5 = some (.tup [.ref l3, .ref l4]) := newH hH5 ht5
    clear hH5
    have s45 := sm4.trans sm5
    have s25 := sm3.trans s45
    refine ⟨.tuple [.list [], .list []], .tuple [.list [], .list []], .tup (sqT (s25 _ _ ht)) (.cons (.lst (sqL (s25 _ _ hp1)) .nil) (.cons (.lst (sqL (s25 _ _ hp2)) .nil) .nil)), .tup (sqT up5) (.cons (.lst (sqL (s45 _ _ up3)) .nil) (.cons (.lst (sqL (sm5 _ _ up4)) .nil) .nil)), rfl, rfl, ?_⟩
    rw [SeqAt.eqv_refl]
    · exact ⟨_, rfl, iteF (q _ (sm1.trans (sm2.trans s25)))⟩
    · rfl
theorem free_parts {L W f s : Int} (fr : Free L W f s) (hf : 0 < f) (hs : 0 < s) : (∃ m n, parts L f s = some (m, n) ∧ Rep L f s m n) ∧ ∃ m n, parts W f s = some (m, n) ∧ Rep W f s m n := by
  have h := fr.2
  unfold shoL two shoB at h
  have one : ∀ x, (parts x f s).isNone = false → ∃ m n, parts x f s = some (m, n) ∧ Rep x f s m n := by
    intro x hx
    have p := parts_is (s := x) hf hs
    cases e : BF.parts x f s with
    | none => rw [e] at hx; exact nomatch hx
    | some y =>
      rw [e] at p
      exact ⟨y.1, y.2, rfl, p.1⟩
  constructor
  · refine one L ?_
    cases e : (BF.parts L f s).isNone with
    | false => rfl
    | true => rw [e] at h; simp at h
  · refine one W ?_
    cases e : (BF.parts W f s).isNone with
    | false => rfl
    | true => rw [e] at h; simp at h
theorem Rep.le {x f s m n : Int} (h : Rep x f s m n) (hf : 0 < f) (hs : 0 < s) : m ≤ x ∧ n ≤ x ∧ m * f ≤ x ∧ n * s ≤ x := by
  obtain ⟨h1, h2, h3⟩ := h
  have a := Int.mul_le_mul_of_nonneg_left (show (1 : Int) ≤ f by omega) h1
  have b := Int.mul_le_mul_of_nonneg_left (show (1 : Int) ≤ s by omega) h2
  omega
theorem H_plan (p : Pl K mg "plan" s_plan) (h_parts_of : Has P w K mg base CX0 2 "parts_of" ["size", "first", "second"] SpParts) : Has P w K mg base CX0 3 "plan" ["length", "width", "first", "second"] SpPlan := by
  refine p.mk0 sc_plan (fun _ _ _ _ _ _ us hl => match us, hl with | [_, _, _, _], _ => rfl) (fun vs H Q E h => ?_) (fun f cdv A outer s H vs Q E hr h => ?_)
  · cases h; rfl
  · obtain @⟨L, W, fi, se, _, _, _, hL, hW, hf, hs, fr, q⟩ := h
    refine ⟨_, (pss_cons (ps_if (PW.pt (pw_and (pt_cmpR op_eq (pe_op op_mod (pv 0) (pv 2)) pe_int (nomark _)) (pw_and1 (pt_cmpR op_eq (pe_op op_mod (pv 1) (pv 3)) pe_int (nomark _))))) (pss_one (ps_ret (pe_tup (pa_cons (pv 0) (pa_cons (pv 1) pa_nil))))) pss_nil)
      (pss_cons (ps_if (PW.pt (pw_and (pt_cmpR op_eq (pe_op op_mod (pv 0) (pv 3)) pe_int (nomark _)) (pw_and1 (pt_cmpR op_eq (pe_op op_mod (pv 1) (pv 2)) pe_int (nomark _))))) (pss_one (ps_ret (pe_tup (pa_cons pe_int (pa_cons pe_int pa_nil))))) pss_nil)
      (pss_cons (ps_if (pt_cmpR op_eq (pe_op op_mod (pv 0) (pv 2)) pe_int (nomark _)) (pss_one (ps_ret (pe_tup (pa_cons (pv 0) (pa_cons (pe_op op_mulX (pe_ix (r := rIxT K) ix_tup (pe_fn h_parts_of (hr.mono (by decide)) pass0 (pa_cons (pv 1) (pa_cons (pv 2) (pa_cons (pv 3) pa_nil)))) pe_int (fun _ _ => rfl)) (pv 3)) pa_nil))))) pss_nil)
      (pss_one (ps_ret (pe_tup (pa_cons (pe_op op_mulX (pe_ix (r := rIxT K) ix_tup (pe_fn h_parts_of (hr.mono (by decide)) pass0 (pa_cons (pv 0) (pa_cons (pv 2) (pa_cons (pv 3) pa_nil)))) pe_int (fun _ _ => rfl)) (pv 2)) (pa_cons (pv 1) pa_nil)))))))), ?_⟩
    have pf := hf.pos
    have ps := hs.pos
    obtain ⟨⟨m1, n1, e1, r1⟩, ⟨m2, n2, e2, r2⟩⟩ := free_parts fr pf ps
    have b1 := r1.le pf ps
    have b2 := r2.le pf ps
    have B1 : Bn 2000 m1 := hL.bn.of_le r1.1 b1.1
    have B2 : Bn 2000 n2 := hW.bn.of_le r2.2.1 b2.2.1
    unfold planP at q
    rw [e1, e2] at q
    simp only [Option.getD_some] at q
    have two : ∀ {A B : Prop}, A → B → True := fun _ _ => trivial
    by_cases c1 : L % fi = 0 ∧ W % se = 0
    · rw [if_pos c1] at q
      walk_at "rd"
      refine iteEq (fun _ => ?_) (fun z => absurd c1.1 z)
      walk_at "rd"
      refine iteEq (fun _ => ?_) (fun z => absurd c1.2 z)
      walk_at "rd"
      exact fun p hp => q p _ (same_upd hp) upd_same
    rw [if_neg c1] at q
    refine if_no (H' := H) (fun r hr0 => ?_) ?_
    · walk_at "rd"
      refine iteEq (fun d1 => ?_) (fun z => hr0)
      walk_at "rd"
      rw [show decide (V.int (W % se) = V.int 0) = false from decide_eq_false fun z => c1 ⟨d1, V.int.inj z⟩]
      exact hr0
    by_cases c2 : L % se = 0 ∧ W % fi = 0
    · rw [if_pos c2] at q
      walk_at "rd"
      refine iteEq (fun _ => ?_) (fun z => absurd c2.1 z)
      walk_at "rd"
      refine iteEq (fun _ => ?_) (fun z => absurd c2.2 z)
      walk_at "rd"
      exact fun p hp => q p _ (same_upd hp) upd_same
    rw [if_neg c2] at q
    refine if_no (H' := H) (fun r hr0 => ?_) ?_
    · walk_at "rd"
      refine iteEq (fun d1 => ?_) (fun z => hr0)
      walk_at "rd"
      rw [show decide (V.int (W % fi) = V.int 0) = false from decide_eq_false fun z => c2 ⟨d1, V.int.inj z⟩]
      exact hr0
    walk_at "rd"
    refine iteEq (fun d1 => ?_) (fun d1 => ?_)
    · rw [if_pos d1] at q
      walk_at "rd"
      refine .mk hW hf hs (tell_of fun v H5 sm5 tv => ?_)
      rw [e2] at tv
      obtain ⟨p5, rfl, hp5⟩ := tv
      refine ⟨p5, _, 1, _, rfl, rfl, sqT hp5, rfl, ?_⟩
      walk_at "rd"
      exact fun p hp => q p _ (sm5.trans (same_upd hp)) upd_same
    · rw [if_neg d1] at q
      walk_at "rd"
      refine .mk hL hf hs (tell_of fun v H5 sm5 tv => ?_)
      rw [e1] at tv
      obtain ⟨p5, rfl, hp5⟩ := tv
      refine ⟨p5, _, 0, _, rfl, rfl, sqT hp5, rfl, ?_⟩
      walk_at "rd"
      exact fun p hp => q p _ (sm5.trans (same_upd hp)) upd_same
theorem plan_in {L W f s : Int} (hL : 0 < L) (hW : 0 < W) (hf : 0 < f) (hs : 0 < s) (fr : Free L W f s) : (0 ≤ (planP L W f s).1 ∧ (planP L W f s).1 ≤ L) ∧ 0 ≤ (planP L W f s).2 ∧ (planP L W f s).2 ≤ W := by
  obtain ⟨⟨m1, n1, e1, r1⟩, ⟨m2, n2, e2, r2⟩⟩ := free_parts fr hf hs
  have b1 := r1.le hf hs
  have b2 := r2.le hf hs
  unfold planP
  rw [e1, e2]
  simp only [Option.getD_some]
  have z1 := Int.mul_nonneg r1.1 (Int.le_of_lt hf)
  have z2 := Int.mul_nonneg r2.2.1 (Int.le_of_lt hs)
  split
  · exact ⟨⟨by omega, by omega⟩, by omega, by omega⟩
  split
  · exact ⟨⟨by omega, by omega⟩, by omega, by omega⟩
  split
  · exact ⟨⟨by omega, by omega⟩, z2, b2.2.2.2⟩
  · exact ⟨⟨z1, b1.2.2.1⟩, by omega, by omega⟩
inductive SpBrickOn : Sp where
  | mk {t : Addr} {c : Int × Int} {L W f s : Int} {H : Hp} {Q : VK} {E : XK} (hL : Sz L) (hW : Sz W) (hf : Sz f) (hs : Sz s) (fr : Free L W f s) (ht : H t = some (.tup (cellV c))) (hc : cellB L W c = true)
      (q : ∀ p p1 H', Same H H' → H' p = some (.tup [.ref p1, .bl (brickP L W f s c).l]) → H' p1 = some (.tup (cellV ((brickP L W f s c).x, (brickP L W f s c).y))) → Q (.ref p) H') : SpBrickOn [.int L, .int W, .int f, .int s, .ref t] H Q E
theorem H_brick_on (p : Pl K mg "brick_on" s_brick_on) (h_check_laid : Has P w K mg base CX0 4 "check_laid" ["length", "width", "first", "second"] SpLaid) (h_is_cell : Has P w K mg base CX0 2 "is_cell" ["length", "width", "thing"] SpIsCell) (h_plan : Has P w K mg base CX0 3 "plan" ["length", "width", "first", "second"] SpPlan) :
    Has P w K mg base CX0 5 "brick_on" ["length", "width", "first", "second", "cell"] SpBrickOn := by
  refine p.mk0 sc_brick_on (fun _ _ _ _ _ _ us hl => match us, hl with | [_, _, _, _, _], _ => rfl) (fun vs H Q E h => ?_) (fun f cdv A outer s H vs Q E hr h => ?_)
  · cases h; rfl
  · obtain @⟨t, ⟨c1, c2⟩, L, W, fi, se, _, _, _, hL, hW, hf, hs, fr, ht, hc, q⟩ := h
    refine ⟨_, (pss_cons (ps_expr (pe_fn h_check_laid (hr.mono (by decide)) pass0 (pa_cons (pv 0) (pa_cons (pv 1) (pa_cons (pv 2) (pa_cons (pv 3) pa_nil))))))
      (pss_cons (ps_if (pt_not (pt_val (pe_fn h_is_cell (hr.mono (by decide)) pass0 (pa_cons (pv 0) (pa_cons (pv 1) (pa_cons (pv 4) pa_nil)))))) (pss_one ps_never) pss_nil)
      (pss_cons (ps_asg (pe_fn h_plan (hr.mono (by decide)) pass0 (pa_cons (pv 0) (pa_cons (pv 1) (pa_cons (pv 2) (pa_cons (pv 3) pa_nil))))) (pg_tup (by rfl) (pgs_cons (pg_name (i := 5) sc_brick_on.nd rfl (Or.inl rfl)) (pgs_cons (pg_name (i := 6) sc_brick_on.nd rfl (Or.inl rfl)) pgs_nil))))
      (pss_cons (ps_if (PW.pt (pw_and (pt_cmpR op_lt (pe_ix (r := rIxT K) ix_tup (pv 4) pe_int (fun _ _ => rfl)) (pv 5) (nomark _)) (pw_and1 (pt_cmpR op_lt (pe_ix (r := rIxT K) ix_tup (pv 4) pe_int (fun _ _ => rfl)) (pv 6) (nomark _))))) (pss_one (ps_ret (pe_tup (pa_cons (pe_tup (pa_cons (pe_op op_mulX (pe_op op_fdivW (pe_ix (r := rIxT K) ix_tup (pv 4) pe_int (fun _ _ => rfl)) (pv 2)) (pv 2)) (pa_cons (pe_op op_mulX (pe_op op_fdivW (pe_ix (r := rIxT K) ix_tup (pv 4) pe_int (fun _ _ => rfl)) (pv 3)) (pv 3)) pa_nil))) (pa_cons pe_bl pa_nil))))) pss_nil)
      (pss_cons (ps_par (i := 7) (j := 8) (by rfl) sc_brick_on.nd rfl rfl (by decide) rfl rfl (pa_cons (pe_ifExp (pt_cmpR op_eq (pv 6) (pv 1) (nomark _)) (pv 5) pe_int) (pa_cons (pe_ifExp (pt_cmpR op_eq (pv 5) (pv 0) (nomark _)) (pv 6) pe_int) pa_nil)) (by rfl))
      (pss_cons (ps_set (i := 9) sc_brick_on.nd rfl (Or.inl rfl) (pe_tup (pa_cons (pe_op op_add (pv 7) (pe_op op_mulX (pe_op op_fdivW (pe_op op_sub (pe_ix (r := rIxT K) ix_tup (pv 4) pe_int (fun _ _ => rfl)) (pv 7)) (pv 3)) (pv 3))) (pa_cons (pe_op op_add (pv 8) (pe_op op_mulX (pe_op op_fdivW (pe_op op_sub (pe_ix (r := rIxT K) ix_tup (pv 4) pe_int (fun _ _ => rfl)) (pv 8)) (pv 2)) (pv 2))) pa_nil))))
      (pss_one (ps_ret (pe_tup (pa_cons (pv 9) (pa_cons (pe_cmpR op_eq (pv 2) (pv 3) (nomark _)) pa_nil))))))))))), ?_⟩
    have pin := plan_in hL.pos hW.pos hf.pos hs.pos fr
    walk_at "rd"
    refine .mk hL hW hf hs fr fun H1 sm1 => ?_
    walk_at "rd"
    refine .mk (sm1 _ _ ht) ?_
    rw [hc]
    refine ⟨_, rfl, iteF ?_⟩
    walk_at "rd"
    refine .mk hL hW hf hs fr fun p2 H2 sm2 hp2 => ?_
    unfold brickP at q
    generalize planP L W fi se = pl at hp2 pin q
    obtain ⟨al, up⟩ := pl
    dsimp only at hp2 pin q
    have hc2 := hc
    unfold cellB at hc2
    simp only [Bool.and_eq_true, decide_eq_true_eq] at hc2
    refine ⟨p2, _, rfl, sqT hp2, rfl, ?_⟩
    have s02 := sm1.trans sm2
    have ht2 := sqT (K := K) (s02 _ _ ht)
    have Bc1 : Bn 2000 c1 := hL.bn.of_le (by omega) (by omega)
    have Bc2 : Bn 2000 c2 := hW.bn.of_le (by omega) (by omega)
    have Ba : Bn 2000 al := hL.bn.of_le (by omega) (by omega)
    have Bu : Bn 2000 up := hW.bn.of_le (by omega) (by omega)
    refine ⟨_, _, rfl, _, _, rfl, rfl, ?_⟩
    by_cases cc : c1 < al ∧ c2 < up
    · simp only [if_pos cc] at q
      refine ⟨_, rfl, t, _, 0, _, rfl, rfl, ht2, rfl, ?_⟩
      walk_at "rd"
      refine iteP cc.1 ?_
      refine ⟨_, rfl, t, _, 1, _, rfl, rfl, ht2, rfl, ?_⟩
      walk_at "rd"
      refine iteP cc.2 ?_
      refine ⟨_, rfl, t, _, 0, _, rfl, rfl, ht2, rfl, ?_⟩
      walk_at "rd"
      refine ⟨t, _, 1, _, rfl, rfl, ht2, rfl, ?_⟩
      walk_at "rd"
      intro p3 hp3
      generalize hH3 : upd H2 p3 _ = H3
      obtain ⟨sm3, up3⟩ : Same H2 H3 ∧ H3 p3 = some (.tup (cellV (c1 / fi * fi, c2 / se * se))) := newH hH3 hp3
      clear hH3
      walk_at "rd"
      exact fun p4 hp4 => q p4 p3 _ (s02.trans (sm3.trans (same_upd hp4))) upd_same (same_upd hp4 _ _ up3)
    simp only [if_neg cc] at q
    dsimp only
    refine if_no (H' := H2) (fun r hr0 => ?_) ?_
    · refine ⟨_, rfl, t, _, 0, _, rfl, rfl, ht2, rfl, ?_⟩
      walk_at "rd"
      refine iteD (fun d1 => ?_) (fun _ => hr0)
      refine ⟨_, rfl, t, _, 1, _, rfl, rfl, ht2, rfl, ?_⟩
      walk_at "rd"
      rw [show decide (c2 < up) = false from decide_eq_false fun z => cc ⟨d1, z⟩]
      exact hr0
    generalize hbe : (if up = W then al else 0) = be at q
    generalize hlo : (if al = L then up else 0) = lo at q
    have Bb : Bn 2000 be := by rw [← hbe]; split; exact Ba; exact bn0
    have Bl : Bn 2000 lo := by rw [← hlo]; split; exact Bu; exact bn0
    have ed : decide (V.int fi = V.int se) = decide (fi = se) := decide_eq_decide.mpr ⟨fun z => V.int.inj z, fun z => congrArg V.int z⟩
    by_cases h1 : up = W <;> by_cases h2 : al = L
    all_goals
      first | rw [if_pos h1] at hbe | rw [if_neg h1] at hbe
      first | rw [if_pos h2] at hlo | rw [if_neg h2] at hlo
      rw [← hbe] at Bb
      rw [← hlo] at Bl
      rw [← hbe, ← hlo] at q
      walk_at "rd"
      first | refine iteEq (fun _ => ?_) (fun z => absurd h1 z) | refine iteEq (fun z => absurd z h1) (fun _ => ?_)
      walk_at "rd"
      first | refine iteEq (fun _ => ?_) (fun z => absurd h2 z) | refine iteEq (fun z => absurd z h2) (fun _ => ?_)
      walk_at "rd"
      refine ⟨t, _, 0, _, rfl, rfl, ht2, rfl, ?_⟩
      walk_at "rd"
      refine ⟨t, _, 1, _, rfl, rfl, ht2, rfl, ?_⟩
      walk_at "rd"
      intro p3 hp3
      refine ⟨_, rfl, ?_⟩
      walk_at "rd"
      intro p4 hp4
      refine q p4 p3 _ (s02.trans ((same_upd hp3).trans (same_upd hp4))) ?_ ?_
      · rw [← ed]
        exact upd_same
      · exact same_upd hp4 _ _ upd_same
/-- how many lie -/
noncomputable def lieP (L W f s : Int) : Int := if f = s then L * W / (f * s) else (planP L W f s).1 * (planP L W f s).2 / (f * s)
inductive SpLying : Sp where
  | mk {L W f s : Int} {H : Hp} {Q : VK} {E : XK} (hL : Sz L) (hW : Sz W) (hf : Sz f) (hs : Sz s) (fr : Free L W f s) (q : ∀ H', Same H H' → Q (.int (lieP L W f s)) H') : SpLying [.int L, .int W, .int f, .int s] H Q E
inductive SpStanding : Sp where
  | mk {L W f s : Int} {H : Hp} {Q : VK} {E : XK} (hL : Sz L) (hW : Sz W) (hf : Sz f) (hs : Sz s) (fr : Free L W f s) (q : ∀ H', Same H H' → Q (.int (L * W / (f * s) - lieP L W f s)) H') : SpStanding [.int L, .int W, .int f, .int s] H Q E
theorem H_lying (p : Pl K mg "lying" s_lying) (h_check_laid : Has P w K mg base CX0 4 "check_laid" ["length", "width", "first", "second"] SpLaid) (h_plan : Has P w K mg base CX0 3 "plan" ["length", "width", "first", "second"] SpPlan) :
    Has P w K mg base CX0 5 "lying" ["length", "width", "first", "second"] SpLying := by
  refine p.mk0 sc_lying (fun _ _ _ _ _ _ us hl => match us, hl with | [_, _, _, _], _ => rfl) (fun vs H Q E h => ?_) (fun f cdv A outer s H vs Q E hr h => ?_)
  · cases h; rfl
  · obtain @⟨L, W, fi, se, _, _, _, hL, hW, hf, hs, fr, q⟩ := h
    refine ⟨_, (pss_cons (ps_expr (pe_fn h_check_laid (hr.mono (by decide)) pass0 (pa_cons (pv 0) (pa_cons (pv 1) (pa_cons (pv 2) (pa_cons (pv 3) pa_nil))))))
      (pss_cons (ps_asg (pe_fn h_plan (hr.mono (by decide)) pass0 (pa_cons (pv 0) (pa_cons (pv 1) (pa_cons (pv 2) (pa_cons (pv 3) pa_nil))))) (pg_tup (by rfl) (pgs_cons (pg_name (i := 4) sc_lying.nd rfl (Or.inl rfl)) (pgs_cons (pg_name (i := 5) sc_lying.nd rfl (Or.inl rfl)) pgs_nil))))
      (pss_cons (ps_if (pt_cmpR op_eq (pv 2) (pv 3) (nomark _)) (pss_one (ps_ret (pe_op op_fdivW (pe_op op_mulX (pv 0) (pv 1)) (pe_op op_mulX (pv 2) (pv 3))))) pss_nil)
      (pss_one (ps_ret (pe_op op_fdivW (pe_op op_mulX (pv 4) (pv 5)) (pe_op op_mulX (pv 2) (pv 3)))))))), ?_⟩
    have pin := plan_in hL.pos hW.pos hf.pos hs.pos fr
    walk_at "rd"
    refine .mk hL hW hf hs fr fun H1 sm1 => ?_
    walk_at "rd"
    refine .mk hL hW hf hs fr fun p2 H2 sm2 hp2 => ?_
    unfold lieP at q
    generalize planP L W fi se = pl at hp2 pin q
    obtain ⟨al, up⟩ := pl
    dsimp only at hp2 pin q
    refine ⟨p2, _, rfl, sqT hp2, rfl, ?_⟩
    have s02 := sm1.trans sm2
    have Ba : Bn 2000 al := hL.bn.of_le (by omega) (by omega)
    have Bu : Bn 2000 up := hW.bn.of_le (by omega) (by omega)
    have pfs : 0 < fi * se := Int.mul_pos hf.pos hs.pos
    refine ⟨_, _, rfl, _, _, rfl, rfl, ?_⟩
    walk_at "rd"
    refine iteEq (fun c => ?_) (fun c => ?_)
    · rw [if_pos c] at q
      walk_at "rd"
      exact q _ s02
    · rw [if_neg c] at q
      walk_at "rd"
      exact q _ s02
theorem H_standing (p : Pl K mg "standing" s_standing) (h_lying : Has P w K mg base CX0 5 "lying" ["length", "width", "first", "second"] SpLying) : Has P w K mg base CX0 6 "standing" ["length", "width", "first", "second"] SpStanding := by
  refine p.mk0 sc_standing (fun _ _ _ _ _ _ us hl => match us, hl with | [_, _, _, _], _ => rfl) (fun vs H Q E h => ?_) (fun f cdv A outer s H vs Q E hr h => ?_)
  · cases h; rfl
  · obtain @⟨L, W, fi, se, _, _, _, hL, hW, hf, hs, fr, q⟩ := h
    refine ⟨_, (pss_cons (ps_set (i := 4) sc_standing.nd rfl (Or.inl rfl) (pe_fn h_lying (hr.mono (by decide)) pass0 (pa_cons (pv 0) (pa_cons (pv 1) (pa_cons (pv 2) (pa_cons (pv 3) pa_nil))))))
      (pss_one (ps_ret (pe_op op_sub (pe_op op_fdivW (pe_op op_mulX (pv 0) (pv 1)) (pe_op op_mulX (pv 2) (pv 3))) (pv 4))))), ?_⟩
    have pfs : 0 < fi * se := Int.mul_pos hf.pos hs.pos
    walk_at "rd"
    refine .mk hL hW hf hs fr fun H1 sm1 => ?_
    walk_at "rd"
    exact q _ sm1
end
end BF

/-! ### floors that can be laid one way -/
namespace BF
theorem free_of {L W f s m n u v : Int} (hf : 0 < f) (hs : 0 < s) (a : L % f = 0 ∨ W % f = 0) (b : L % s = 0 ∨ W % s = 0) (r1 : Rep L f s m n) (r2 : Rep W f s u v) : Free L W f s := by
  have s1 : strB L W f = false := by
    unfold strB
    rcases a with e | e
    · rw [decide_eq_true e]; rfl
    · rw [decide_eq_true e, Bool.not_true, Bool.and_false]
  have s2 : strB L W s = false := by
    unfold strB
    rcases b with e | e
    · rw [decide_eq_true e]; rfl
    · rw [decide_eq_true e, Bool.not_true, Bool.and_false]
  refine ⟨?_, ?_⟩
  · unfold strL
    rw [s1, s2]
    rfl
  · unfold shoL
    rw [sho_no hf hs r1, sho_no hf hs r2]
    rfl
theorem plan_lie {L W f s : Int} (h1 : L % f = 0) (h2 : W % s = 0) : planP L W f s = (L, W) := by
  unfold planP
  rw [if_pos ⟨h1, h2⟩]
theorem plan_stand {L W f s : Int} (h0 : ¬ (L % f = 0 ∧ W % s = 0)) (h1 : L % s = 0) (h2 : W % f = 0) : planP L W f s = (0, 0) := by
  unfold planP
  rw [if_neg h0, if_pos ⟨h1, h2⟩]
theorem brick_lie {L W f s : Int} {c : Int × Int} (h1 : L % f = 0) (h2 : W % s = 0) (hc : cellB L W c = true) : brickP L W f s c = ⟨c.1 / f * f, c.2 / s * s, true⟩ := by
  unfold cellB at hc
  simp only [Bool.and_eq_true, decide_eq_true_eq] at hc
  unfold brickP
  rw [plan_lie h1 h2]
  rw [if_pos ⟨by omega, by omega⟩]
theorem brick_stand {L W f s : Int} {c : Int × Int} (hL : 0 < L) (hW : 0 < W) (h0 : ¬ (L % f = 0 ∧ W % s = 0)) (h1 : L % s = 0) (h2 : W % f = 0) (hc : cellB L W c = true) : brickP L W f s c = ⟨c.1 / s * s, c.2 / f * f, decide (f = s)⟩ := by
  unfold cellB at hc
  simp only [Bool.and_eq_true, decide_eq_true_eq] at hc
  unfold brickP
  rw [plan_stand h0 h1 h2]
  dsimp only
  rw [if_neg (by omega), if_neg (show ¬ (0 : Int) = W by omega), if_neg (show ¬ (0 : Int) = L by omega), Int.sub_zero, Int.sub_zero, Int.zero_add, Int.zero_add]
end BF

/-! ### the answers' own __init__ -/
namespace BF
open PySem PySem.Spec PyProof.Rows L2
section
variable {P : Program} {w : World} {K : PySem.W.Frag} {mg : Str → Option Value} {base : Heap}
theorem H_Striped___init__ (p : PlM K .striped "__init__" "Striped.__init__" s_Striped___init__) (G : ClG K mg) : HasM P w K mg base CX0 1 .striped "__init__" ["self", "which"] (SpInit K .striped) := by
  refine p.mk0 sc_Striped___init__ (fun _ _ _ _ _ _ us hl => match us, hl with | [_, _], _ => rfl) (fun vs H Q E h => ?_) (fun f cdv A outer s H vs Q E hr h => ?_)
  · cases h; rfl
  · obtain @⟨p, dx, v, _, _, _, hp, q⟩ := h
    have F := G.f .striped (by decide)
    exact ⟨_, (pss_one (ps_fld (pv 0) (pv 1) rfl)), ⟨_, rfl, _, rfl, p, _, dx, [], rfl, hp, F.c, F.no, by decide, q⟩⟩
theorem H_Short___init__ (p : PlM K .short "__init__" "Short.__init__" s_Short___init__) (G : ClG K mg) : HasM P w K mg base CX0 1 .short "__init__" ["self", "which"] (SpInit K .short) := by
  refine p.mk0 sc_Short___init__ (fun _ _ _ _ _ _ us hl => match us, hl with | [_, _], _ => rfl) (fun vs H Q E h => ?_) (fun f cdv A outer s H vs Q E hr h => ?_)
  · cases h; rfl
  · obtain @⟨p, dx, v, _, _, _, hp, q⟩ := h
    have F := G.f .short (by decide)
    exact ⟨_, (pss_one (ps_fld (pv 0) (pv 1) rfl)), ⟨_, rfl, _, rfl, p, _, dx, [], rfl, hp, F.c, F.no, by decide, q⟩⟩
theorem H_Beyond___init__ (p : PlM K .beyond "__init__" "Beyond.__init__" s_Beyond___init__) (G : ClG K mg) : HasM P w K mg base CX0 1 .beyond "__init__" ["self", "count"] (SpInit K .beyond) := by
  refine p.mk0 sc_Beyond___init__ (fun _ _ _ _ _ _ us hl => match us, hl with | [_, _], _ => rfl) (fun vs H Q E h => ?_) (fun f cdv A outer s H vs Q E hr h => ?_)
  · cases h; rfl
  · obtain @⟨p, dx, v, _, _, _, hp, q⟩ := h
    have F := G.f .beyond (by decide)
    exact ⟨_, (pss_one (ps_fld (pv 0) (pv 1) rfl)), ⟨_, rfl, _, rfl, p, _, dx, [], rfl, hp, F.c, F.no, by decide, q⟩⟩
theorem H_Twice___init__ (p : PlM K .twice "__init__" "Twice.__init__" s_Twice___init__) (G : ClG K mg) : HasM P w K mg base CX0 1 .twice "__init__" ["self", "cell"] (SpInit K .twice) := by
  refine p.mk0 sc_Twice___init__ (fun _ _ _ _ _ _ us hl => match us, hl with | [_, _], _ => rfl) (fun vs H Q E h => ?_) (fun f cdv A outer s H vs Q E hr h => ?_)
  · cases h; rfl
  · obtain @⟨p, dx, v, _, _, _, hp, q⟩ := h
    have F := G.f .twice (by decide)
    exact ⟨_, (pss_one (ps_fld (pv 0) (pv 1) rfl)), ⟨_, rfl, _, rfl, p, _, dx, [], rfl, hp, F.c, F.no, by decide, q⟩⟩
theorem H_Bare___init__ (p : PlM K .bare "__init__" "Bare.__init__" s_Bare___init__) (G : ClG K mg) : HasM P w K mg base CX0 1 .bare "__init__" ["self", "cell"] (SpInit K .bare) := by
  refine p.mk0 sc_Bare___init__ (fun _ _ _ _ _ _ us hl => match us, hl with | [_, _], _ => rfl) (fun vs H Q E h => ?_) (fun f cdv A outer s H vs Q E hr h => ?_)
  · cases h; rfl
  · obtain @⟨p, dx, v, _, _, _, hp, q⟩ := h
    have F := G.f .bare (by decide)
    exact ⟨_, (pss_one (ps_fld (pv 0) (pv 1) rfl)), ⟨_, rfl, _, rfl, p, _, dx, [], rfl, hp, F.c, F.no, by decide, q⟩⟩
end
end BF

/-! ### Laid, Striped, Short: what they show -/
namespace BF
open PySem PySem.Spec PyProof.Rows L2
/-- whether an answer is as told -/
noncomputable def due4 (L W f s : Int) : Ans → Bool
  | .laid => (strL L W f s).isEmpty && (shoL L W f s).isEmpty
  | .striped (.int i) => if i = 0 then strB L W f else if i = 1 then strB L W s else false
  | .short (.int i) => if i = 0 then shoB L f s else if i = 1 then shoB W f s else false
  | _ => false
/-- answers of these classes -/
inductive A4 : Ans → Prop where
  | laid : A4 .laid
  | striped (i : Int) : A4 (.striped (.int i))
  | short (i : Int) : A4 (.short (.int i))
inductive SpShows4 (K : PySem.W.Frag) (x : Cl) : Sp where
  | mk {p : Addr} {a : Ans} {L W f s : Int} {H : Hp} {Q : VK} {E : XK} (ha : AnsAt K H p a) (hx : a.cl = x) (h4 : A4 a) (hL : Sz L) (hW : Sz W) (hf : Sz f) (hs : Sz s) (q : ∀ H', Same H H' → Q (.bl (due4 L W f s a)) H') :
    SpShows4 K x [.ref p, .int L, .int W, .int f, .int s] H Q E
theorem two_eqv (a b c d : Bool) : PyData.eqv (.tuple [.list ((two a b).map .int), .list ((two c d).map .int)]) (.tuple [.list [], .list []]) = ((two a b).isEmpty && (two c d).isEmpty) := by
  cases a <;> cases b <;> cases c <;> cases d <;> rfl
theorem two_shaped (a b c d : Bool) : SeqAt.shaped (.tuple [.list ((two a b).map .int), .list ((two c d).map .int)]) = true := by
  cases a <;> cases b <;> cases c <;> cases d <;> rfl
theorem in01 (i : Int) : inV (.int i) [.int 0, .int 1] = (decide (i = 0) || decide (i = 1)) := by
  by_cases h0 : i = 0
  · subst h0; rfl
  · by_cases h1 : i = 1
    · subst h1; rfl
    · rw [decide_eq_false h0, decide_eq_false h1]
      have e0 : ((0 : Int) == i) = false := beq_eq_false_iff_ne.mpr (Ne.symm h0)
      have e1 : ((1 : Int) == i) = false := beq_eq_false_iff_ne.mpr (Ne.symm h1)
      show (((0 : Int) == i) || (((1 : Int) == i) || false)) = (false || false)
      rw [e0, e1]
      rfl
section
variable {P : Program} {w : World} {K : PySem.W.Frag} {mg : Str → Option Value} {base : Heap}
theorem H_Laid_shows (p : PlM K .laid "shows" "Laid.shows" s_Laid_shows) (h_what_bars : Has P w K mg base CX0 3 "what_bars" ["length", "width", "first", "second"] SpBars) :
    HasM P w K mg base CX0 4 .laid "shows" ["self", "length", "width", "first", "second"] (SpShows4 K .laid) := by
  refine p.mk0 sc_Laid_shows (fun _ _ _ _ _ _ us hl => match us, hl with | [_, _, _, _, _], _ => rfl) (fun vs H Q E h => ?_) (fun f cdv A outer s H vs Q E hr h => ?_)
  · cases h; rfl
  · obtain @⟨p, a, L, W, fi, se, _, _, _, ha, hx, h4, hL, hW, hf, hs, q⟩ := h
    refine ⟨_, (pss_one (ps_ret (pe_cmpR (r := rEqD K) (op_eqD hr.units) (pe_fn h_what_bars (hr.mono (by decide)) pass0 (pa_cons (pv 1) (pa_cons (pv 2) (pa_cons (pv 3) (pa_cons (pv 4) pa_nil))))) (pe_tup (pa_cons (pe_lst pa_nil) (pa_cons (pe_lst pa_nil) pa_nil))) (nomark _)))), ?_⟩
    cases h4 with
    | striped i => cases hx
    | short i => cases hx
    | laid =>
      walk_at "rd"
      refine .mk hL hW hf hs fun t p1 p2 H1 sm1 ht hp1 hp2 => ?_
      walk_at "rd"
      intro l1 hl1
      generalize hH2 : upd H1 l1 _ = H2
      obtain ⟨sm2, up2⟩ : Same H1 H2 ∧ H2 l1 = some (.lst []) := newH hH2 hl1
      clear hH2
      walk_at "rd"
      intro l2 hl2
      generalize hH3 : upd H2 l2 _ = H3
      obtain ⟨sm3, up3⟩ : Same H2 H3 ∧ H3 l2 = some (.lst []) := newH hH3 hl2
      clear hH3
      walk_at "rd"
      intro l3 hl3
      generalize hH4 : upd H3 l3 _ = H4
      obtain ⟨sm4, up4⟩ : Same H3 H4 ∧ H4 l3 = some (.tup [.ref l1, .ref l2]) := newH hH4 hl3
      clear hH4
      have smA : Same H1 H4 := sm2.trans (sm3.trans sm4)
      refine ⟨.tuple [.list ((strL L W fi se).map .int), .list ((shoL L W fi se).map .int)], .tuple [.list [], .list []],
        .tup (sqT (smA _ _ ht)) (.cons (.lst (sqL (smA _ _ hp1)) (dp_ints _)) (.cons (.lst (sqL (smA _ _ hp2)) (dp_ints _)) .nil)), .tup (sqT up4) (.cons (.lst (sqL (sm4 _ _ (sm3 _ _ up2))) .nil) (.cons (.lst (sqL (sm4 _ _ up3)) .nil) .nil)), two_shaped _ _ _ _, rfl, ?_⟩
      have e : PyData.eqv (.tuple [.list ((strL L W fi se).map .int), .list ((shoL L W fi se).map .int)]) (.tuple [.list [], .list []]) = due4 L W fi se .laid := two_eqv _ _ _ _
      rw [e]
      exact q _ (sm1.trans smA)
theorem H_Striped_shows (p : PlM K .striped "shows" "Striped.shows" s_Striped_shows) (G : ClG K mg) (h_is_striped : Has P w K mg base CX0 1 "is_striped" ["length", "width", "side"] SpStriped) :
    HasM P w K mg base CX0 2 .striped "shows" ["self", "length", "width", "first", "second"] (SpShows4 K .striped) := by
  refine p.mk0 sc_Striped_shows (fun _ _ _ _ _ _ us hl => match us, hl with | [_, _, _, _, _], _ => rfl) (fun vs H Q E h => ?_) (fun f cdv A outer s H vs Q E hr h => ?_)
  · cases h; rfl
  · obtain @⟨p, a, L, W, fi, se, _, _, _, ha, hx, h4, hL, hW, hf, hs, q⟩ := h
    refine ⟨_, (pss_one (ps_ret (pe_and (pe_cmpR (r := rIn K false) op_in_seq (pe_fld (pv 0) rfl) (pe_tup (pa_cons pe_int (pa_cons pe_int pa_nil))) (by rfl)) (pe_one (pe_fn h_is_striped (hr.mono (by decide)) pass0 (pa_cons (pv 1) (pa_cons (pv 2) (pa_cons (pe_ix (r := rIxT K) ix_tup (pe_tup (pa_cons (pv 3) (pa_cons (pv 4) pa_nil))) (pe_fld (pv 0) rfl) (fun _ _ => rfl)) pa_nil)))))))), ?_⟩
    cases h4 with
    | laid => cases hx
    | short i => cases hx
    | striped i =>
      obtain ⟨dx, hp⟩ := ha
      have F := G.f .striped (by decide)
      refine ⟨_, rfl, p, _, dx, _, _, rfl, hp, F.c, F.no, rfl, ?_⟩
      walk_at "rd"
      intro l1 hl1
      generalize hH1 : upd H l1 _ = H1
      obtain ⟨sm1, up1⟩ : Same H H1 ∧ H1 l1 = some (.tup [.int 0, .int 1]) := newH hH1 hl1
      clear hH1
      refine ⟨l1, _, rfl, .inr (sqT up1), rfl, rfl, _, rfl, ?_⟩
      rw [show (if false = true then !inV (.int i) [.int 0, .int 1] else inV (.int i) [.int 0, .int 1]) = (decide (i = 0) || decide (i = 1)) from in01 i]
      refine iteB (fun c => ?_) (fun c => ?_)
      · walk_at "rd"
        intro l2 hl2
        generalize hH2 : upd H1 l2 _ = H2
        obtain ⟨sm2, up2⟩ : Same H1 H2 ∧ H2 l2 = some (.tup [.int fi, .int se]) := newH hH2 hl2
        clear hH2
        have c2 : i = 0 ∨ i = 1 := by simpa using c
        refine ⟨_, rfl, p, _, dx, _, _, rfl, sm2 _ _ (sm1 _ _ hp), F.c, F.no, rfl, ?_⟩
        rcases c2 with rfl | rfl
        · exact ⟨l2, _, 0, .int fi, rfl, rfl, sqT up2, rfl, .mk hf.pos (q _ (sm1.trans sm2))⟩
        · exact ⟨l2, _, 1, .int se, rfl, rfl, sqT up2, rfl, .mk hs.pos (q _ (sm1.trans sm2))⟩
      · have c2 : ¬ i = 0 ∧ ¬ i = 1 := by simpa using c
        have e : due4 L W fi se (.striped (.int i)) = false := by
          show (if i = 0 then strB L W fi else if i = 1 then strB L W se else false) = false
          rw [if_neg c2.1, if_neg c2.2]
        rw [e] at q
        exact q _ sm1
theorem H_Short_shows (p : PlM K .short "shows" "Short.shows" s_Short_shows) (G : ClG K mg) (h_parts_of : Has P w K mg base CX0 2 "parts_of" ["size", "first", "second"] SpParts) :
    HasM P w K mg base CX0 3 .short "shows" ["self", "length", "width", "first", "second"] (SpShows4 K .short) := by
  refine p.mk0 sc_Short_shows (fun _ _ _ _ _ _ us hl => match us, hl with | [_, _, _, _, _], _ => rfl) (fun vs H Q E h => ?_) (fun f cdv A outer s H vs Q E hr h => ?_)
  · cases h; rfl
  · obtain @⟨p, a, L, W, fi, se, _, _, _, ha, hx, h4, hL, hW, hf, hs, q⟩ := h
    refine ⟨_, (pss_one (ps_ret (pe_and (pe_cmpR (r := rIn K false) op_in_seq (pe_fld (pv 0) rfl) (pe_tup (pa_cons pe_int (pa_cons pe_int pa_nil))) (by rfl)) (pe_one (pe_cmpR op_isN (pe_fn h_parts_of (hr.mono (by decide)) pass0 (pa_cons (pe_ix (r := rIxT K) ix_tup (pe_tup (pa_cons (pv 1) (pa_cons (pv 2) pa_nil))) (pe_fld (pv 0) rfl) (fun _ _ => rfl)) (pa_cons (pv 3) (pa_cons (pv 4) pa_nil)))) pe_non (nomark _)))))), ?_⟩
    cases h4 with
    | laid => cases hx
    | striped i => cases hx
    | short i =>
      obtain ⟨dx, hp⟩ := ha
      have F := G.f .short (by decide)
      have ev : ∀ (d : Int) (v : V) (H' : Hp), Told (parts d fi se) H' v → (decide (v = .non)) = shoB d fi se := fun d v H' tv => by
        unfold shoB
        cases hp : parts d fi se with
        | none =>
          rw [hp] at tv
          obtain rfl : v = .non := tv
          rfl
        | some y =>
          rw [hp] at tv
          obtain ⟨p5, rfl, _⟩ := tv
          rfl
      refine ⟨_, rfl, p, _, dx, _, _, rfl, hp, F.c, F.no, rfl, ?_⟩
      walk_at "rd"
      intro l1 hl1
      generalize hH1 : upd H l1 _ = H1
      obtain ⟨sm1, up1⟩ : Same H H1 ∧ H1 l1 = some (.tup [.int 0, .int 1]) := newH hH1 hl1
      clear hH1
      refine ⟨l1, _, rfl, .inr (sqT up1), rfl, rfl, _, rfl, ?_⟩
      rw [show (if false = true then !inV (.int i) [.int 0, .int 1] else inV (.int i) [.int 0, .int 1]) = (decide (i = 0) || decide (i = 1)) from in01 i]
      refine iteB (fun c => ?_) (fun c => ?_)
      · walk_at "rd"
        intro l2 hl2
        generalize hH2 : upd H1 l2 _ = H2
        obtain ⟨sm2, up2⟩ : Same H1 H2 ∧ H2 l2 = some (.tup [.int L, .int W]) := newH hH2 hl2
        clear hH2
        have c2 : i = 0 ∨ i = 1 := by simpa using c
        refine ⟨_, rfl, p, _, dx, _, _, rfl, sm2 _ _ (sm1 _ _ hp), F.c, F.no, rfl, ?_⟩
        rcases c2 with rfl | rfl
        · refine ⟨l2, _, 0, .int L, rfl, rfl, sqT up2, rfl, _, rfl, _, rfl, .mk hL hf hs (tell_of fun v H5 sm5 tv => ⟨rfl, ?_⟩)⟩
          rw [ev L v H5 tv]
          exact q _ (sm1.trans (sm2.trans sm5))
        · refine ⟨l2, _, 1, .int W, rfl, rfl, sqT up2, rfl, _, rfl, _, rfl, .mk hW hf hs (tell_of fun v H5 sm5 tv => ⟨rfl, ?_⟩)⟩
          rw [ev W v H5 tv]
          exact q _ (sm1.trans (sm2.trans sm5))
      · have c2 : ¬ i = 0 ∧ ¬ i = 1 := by simpa using c
        have e : due4 L W fi se (.short (.int i)) = false := by
          show (if i = 0 then shoB L fi se else if i = 1 then shoB W fi se else false) = false
          rw [if_neg c2.1, if_neg c2.2]
        rw [e] at q
        exact q _ sm1
theorem H_shows4 (G : ClG K mg) (p1 : PlM K .laid "shows" "Laid.shows" s_Laid_shows) (p2 : PlM K .striped "shows" "Striped.shows" s_Striped_shows) (p3 : PlM K .short "shows" "Short.shows" s_Short_shows)
    (h_what_bars : Has P w K mg base CX0 3 "what_bars" ["length", "width", "first", "second"] SpBars) (h_is_striped : Has P w K mg base CX0 1 "is_striped" ["length", "width", "side"] SpStriped)
    (h_parts_of : Has P w K mg base CX0 2 "parts_of" ["size", "first", "second"] SpParts) : ∀ x, Ok4 x → HasM P w K mg base CX0 4 x "shows" ["self", "length", "width", "first", "second"] (SpShows4 K x) := by
  intro x hx
  have e : x = .laid ∨ x = .striped ∨ x = .short := by simpa [Ok4] using hx
  rcases e with rfl | rfl | rfl
  · exact H_Laid_shows p1 h_what_bars
  · exact (H_Striped_shows p2 G h_is_striped).mono (by decide)
  · exact (H_Short_shows p3 G h_parts_of).mono (by decide)
end
end BF

/-! ### Full, Beyond, Twice, Bare: what they show -/
namespace BF
open PySem PySem.Spec PyProof.Rows L2
/-- an answer of a judged list -/
inductive D5 where
  | full
  | beyond (i : Int)
  | twice (c : Int × Int)
  | bare (c : Int × Int)
def D5.cl : D5 → Cl
  | .full => .full
  | .beyond _ => .beyond
  | .twice _ => .twice
  | .bare _ => .bare
theorem D5.ok (d : D5) : Ok5 d.cl := by
  unfold Ok5
  cases d <;> simp [D5.cl]
/-- such an answer at an address -/
inductive At5 (K : PySem.W.Frag) (H : Hp) (p : Addr) : D5 → Prop where
  | full (h : AnsAt K H p .full) : At5 K H p .full
  | beyond {i : Int} (h : AnsAt K H p (.beyond (.int i))) : At5 K H p (.beyond i)
  | twice {t : Addr} {c : Int × Int} (h : AnsAt K H p (.twice (.ref t))) (ht : H t = some (.tup (cellV c))) : At5 K H p (.twice c)
  | bare {t : Addr} {c : Int × Int} (h : AnsAt K H p (.bare (.ref t))) (ht : H t = some (.tup (cellV c))) : At5 K H p (.bare c)
theorem At5.mono {K : PySem.W.Frag} {H H' : Hp} {p : Addr} {d : D5} (h : At5 K H p d) (sm : Same H H') : At5 K H' p d := by
  cases h with
  | full h => exact .full (h.mono sm)
  | beyond h => exact .beyond (h.mono sm)
  | twice h ht => exact .twice (h.mono sm) (sm _ _ ht)
  | bare h ht => exact .bare (h.mono sm) (sm _ _ ht)
def fullB (L W f s : Int) (bs : List Brick) : Bool := !(bs.any (beyB L W f s)) && (gridL L W).all fun c => decide (oftN f s bs c = 1)
def beyAt (L W f s : Int) (bs : List Brick) (i : Int) : Bool := (decide (0 ≤ i) && decide (i < bs.length)) && (match bs[i.toNat]? with
  | some b => beyB L W f s b
  | none => false)
def due5 (L W f s : Int) (bs : List Brick) : D5 → Bool
  | .full => fullB L W f s bs
  | .beyond i => beyAt L W f s bs i
  | .twice c => cellB L W c && decide (1 < oftN f s bs c)
  | .bare c => cellB L W c && decide (oftN f s bs c = 0)
inductive SpShows5 (K : PySem.W.Frag) (x : Cl) : Sp where
  | mk {p l : Addr} {d : D5} {ps : List (Addr × Brick)} {L W f s : Int} {H : Hp} {Q : VK} {E : XK} (ha : At5 K H p d) (hx : d.cl = x) (hL : 0 < L ∧ L ≤ 1000) (hW : 0 < W ∧ W ≤ 1000) (hf : 0 < f) (hs : 0 < s) (hl : SqL K H l (refs ps)) (hb : BrAll K H ps) (hn : ps.length ≤ 10000)
      (q : ∀ H', Same H H' → Q (.bl (due5 L W f s (vals ps) d)) H') : SpShows5 K x [.ref p, .int L, .int W, .int f, .int s, .ref l] H Q E
section
variable {P : Program} {w : World} {K : PySem.W.Frag} {mg : Str → Option Value} {base : Heap}
theorem H_Beyond_shows (p : PlM K .beyond "shows" "Beyond.shows" s_Beyond_shows) (B : Bi mg) (G : ClG K mg) (h_is_beyond : Has P w K mg base CX0 1 "is_beyond" ["length", "width", "first", "second", "brick"] (SpBeyond K)) :
    HasM P w K mg base CX0 2 .beyond "shows" ["self", "length", "width", "first", "second", "bricks"] (SpShows5 K .beyond) := by
  refine p.mk0 sc_Beyond_shows (fun _ _ _ _ _ _ us hl => match us, hl with | [_, _, _, _, _, _], _ => rfl) (fun vs H Q E h => ?_) (fun f cdv A outer s H vs Q E hr h => ?_)
  · cases h; rfl
  · obtain @⟨p, l, d, ps, L, W, fi, se, _, _, _, ha, hx, hL, hW, hf, hs, hl, hb, hn, q⟩ := h
    refine ⟨_, (pss_one (ps_ret (pe_and (pe_chain op_le op_lt pe_int (pe_fld (pv 0) rfl) (pe_callB (r := rLen2 K) call_len_seq (by rfl) B.len PySem.boot_len (pa_cons (pv 5) pa_nil))) (pe_one (pe_fn h_is_beyond (hr.mono (by decide)) pass0 (pa_cons (pv 1) (pa_cons (pv 2) (pa_cons (pv 3) (pa_cons (pv 4) (pa_cons (pe_ix (r := rIxL K) ix_list (pv 5) (pe_fld (pv 0) rfl) (fun _ _ => rfl)) pa_nil)))))))))), ?_⟩
    cases ha with
    | full h => cases hx
    | twice h ht => cases hx
    | bare h ht => cases hx
    | @beyond i h =>
      obtain ⟨dx, hp⟩ := h
      have F := G.f .beyond (by decide)
      have q : ∀ H', Same H H' → Q (.bl (beyAt L W fi se (vals ps) i)) H' := q
      unfold beyAt at q
      rw [vals_len] at q
      refine ⟨_, rfl, p, _, dx, _, _, rfl, hp, F.c, F.no, rfl, ?_⟩
      walk_at "rd"
      refine iteD (fun c => ?_) (fun c => ?_)
      · have c : 0 ≤ i := c
        simp only [decide_eq_true c, Bool.true_and] at q
        refine ⟨_, rfl, l, _, rfl, .inl hl, ?_⟩
        walk_at "rd"
        rw [refs_len]
        refine iteD (fun c2 => ?_) (fun c2 => ?_)
        · have c2 : i < (ps.length : Int) := c2
          simp only [decide_eq_true c2, Bool.true_and] at q
          walk_at "rd"
          obtain ⟨n, rfl⟩ := Int.eq_ofNat_of_zero_le c
          have hlt : n < ps.length := by omega
          have hpn : ps[n]? = some ps[n] := List.getElem?_eq_getElem hlt
          have hv : (vals ps)[(n : Int).toNat]? = some ps[n].2 := by
            unfold vals
            rw [Int.toNat_natCast, List.getElem?_map, hpn]
            rfl
          rw [hv] at q
          have hrv : (refs ps)[n]? = some (.ref ps[n].1) := by
            unfold refs
            rw [List.getElem?_map, hpn]
            rfl
          refine ⟨p, _, dx, _, _, rfl, hp, F.c, F.no, rfl, l, _, _, _, rfl, rfl, hl, atI_nat hrv, ?_⟩
          exact .mk (hb _ (List.getElem_mem hlt)) q
        · have c2 : ¬ i < (ps.length : Int) := c2
          simp only [decide_eq_false c2, Bool.false_and] at q
          exact q _ (Same.refl _)
      · have c : ¬ 0 ≤ i := c
        simp only [decide_eq_false c, Bool.false_and] at q
        exact ⟨_, rfl, iteF (q _ (Same.refl _))⟩
theorem H_Twice_shows (p : PlM K .twice "shows" "Twice.shows" s_Twice_shows) (G : ClG K mg) (h_is_cell : Has P w K mg base CX0 2 "is_cell" ["length", "width", "thing"] SpIsCell) (h_often : Has P w K mg base CX0 2 "often" ["first", "second", "bricks", "cell"] (SpOften K)) :
    HasM P w K mg base CX0 3 .twice "shows" ["self", "length", "width", "first", "second", "bricks"] (SpShows5 K .twice) := by
  refine p.mk0 sc_Twice_shows (fun _ _ _ _ _ _ us hl => match us, hl with | [_, _, _, _, _, _], _ => rfl) (fun vs H Q E h => ?_) (fun f cdv A outer s H vs Q E hr h => ?_)
  · cases h; rfl
  · obtain @⟨p, l, d, ps, L, W, fi, se, _, _, _, ha, hx, hL, hW, hf, hs, hl, hb, hn, q⟩ := h
    refine ⟨_, (pss_one (ps_ret (pe_and (pe_fn h_is_cell (hr.mono (by decide)) pass0 (pa_cons (pv 1) (pa_cons (pv 2) (pa_cons (pe_fld (pv 0) rfl) pa_nil)))) (pe_one (pe_cmpR op_gt (pe_fn h_often (hr.mono (by decide)) pass0 (pa_cons (pv 3) (pa_cons (pv 4) (pa_cons (pv 5) (pa_cons (pe_fld (pv 0) rfl) pa_nil))))) pe_int (nomark _)))))), ?_⟩
    cases ha with
    | full h => cases hx
    | beyond h => cases hx
    | bare h ht => cases hx
    | @twice t c h ht =>
      obtain ⟨dx, hp⟩ := h
      have F := G.f .twice (by decide)
      have q : ∀ H', Same H H' → Q (.bl (cellB L W c && decide (1 < oftN fi se (vals ps) c))) H' := q
      refine ⟨_, rfl, _, rfl, _, rfl, p, _, dx, _, _, rfl, hp, F.c, F.no, rfl, .mk ht ⟨_, rfl, iteB (fun c1 => ?_) (fun c1 => ?_)⟩⟩
      · rw [c1] at q
        refine ⟨_, rfl, _, rfl, _, rfl, _, rfl, p, _, dx, _, _, rfl, hp, F.c, F.no, rfl, .mk hl hb hn (sqT ht) fun H1 sm1 => ?_⟩
        walk_at "rd"
        have e : decide ((1 : Int) < (oftN fi se (vals ps) c : Nat)) = decide (1 < oftN fi se (vals ps) c) := decide_eq_decide.mpr (by omega)
        show Q (.bl (decide ((1 : Int) < (oftN fi se (vals ps) c : Nat)))) H1
        rw [e]
        exact q _ sm1
      · rw [c1] at q
        exact q _ (Same.refl _)
theorem H_Bare_shows (p : PlM K .bare "shows" "Bare.shows" s_Bare_shows) (G : ClG K mg) (h_is_cell : Has P w K mg base CX0 2 "is_cell" ["length", "width", "thing"] SpIsCell) (h_often : Has P w K mg base CX0 2 "often" ["first", "second", "bricks", "cell"] (SpOften K)) :
    HasM P w K mg base CX0 3 .bare "shows" ["self", "length", "width", "first", "second", "bricks"] (SpShows5 K .bare) := by
  refine p.mk0 sc_Bare_shows (fun _ _ _ _ _ _ us hl => match us, hl with | [_, _, _, _, _, _], _ => rfl) (fun vs H Q E h => ?_) (fun f cdv A outer s H vs Q E hr h => ?_)
  · cases h; rfl
  · obtain @⟨p, l, d, ps, L, W, fi, se, _, _, _, ha, hx, hL, hW, hf, hs, hl, hb, hn, q⟩ := h
    refine ⟨_, (pss_one (ps_ret (pe_and (pe_fn h_is_cell (hr.mono (by decide)) pass0 (pa_cons (pv 1) (pa_cons (pv 2) (pa_cons (pe_fld (pv 0) rfl) pa_nil)))) (pe_one (pe_cmpR op_eq (pe_fn h_often (hr.mono (by decide)) pass0 (pa_cons (pv 3) (pa_cons (pv 4) (pa_cons (pv 5) (pa_cons (pe_fld (pv 0) rfl) pa_nil))))) pe_int (nomark _)))))), ?_⟩
    cases ha with
    | full h => cases hx
    | beyond h => cases hx
    | twice h ht => cases hx
    | @bare t c h ht =>
      obtain ⟨dx, hp⟩ := h
      have F := G.f .bare (by decide)
      have q : ∀ H', Same H H' → Q (.bl (cellB L W c && decide (oftN fi se (vals ps) c = 0))) H' := q
      refine ⟨_, rfl, _, rfl, _, rfl, p, _, dx, _, _, rfl, hp, F.c, F.no, rfl, .mk ht ⟨_, rfl, iteB (fun c1 => ?_) (fun c1 => ?_)⟩⟩
      · rw [c1] at q
        refine ⟨_, rfl, _, rfl, _, rfl, _, rfl, p, _, dx, _, _, rfl, hp, F.c, F.no, rfl, .mk hl hb hn (sqT ht) fun H1 sm1 => ?_⟩
        walk_at "rd"
        have e : decide (V.int (oftN fi se (vals ps) c : Nat) = V.int 0) = decide (oftN fi se (vals ps) c = 0) := decide_eq_decide.mpr ⟨fun z => by have := V.int.inj z; omega, fun z => by rw [z]; rfl⟩
        show Q (.bl (decide (V.int (oftN fi se (vals ps) c : Nat) = V.int 0))) H1
        rw [e]
        exact q _ sm1
      · rw [c1] at q
        exact q _ (Same.refl _)
end
/-- a cell as a key -/
def keyL (c : Int × Int) : List Key := [Sum.inl c.1, Sum.inl c.2]
theorem key_inj {c d : Int × Int} (h : keyL c = keyL d) : c = d := by
  obtain ⟨a, b⟩ := c
  obtain ⟨a', b'⟩ := d
  unfold keyL at h
  injection h with h1 h2
  injection h2 with h2 h3
  injection h1 with h1
  injection h2 with h2
  simp only at h1 h2
  rw [h1, h2]
theorem find_key {kvs : List (List Key × V)} {cs : List (Int × Int)} (hk : kvs.map (·.1) = cs.map keyL) (c : Int × Int) : (valV kvs (keyL c)).isSome = true ↔ c ∈ cs := by
  unfold valV
  rw [Option.isSome_map, List.find?_isSome]
  constructor
  · rintro ⟨kv, hkv, e⟩
    have m : kv.1 ∈ kvs.map (·.1) := List.mem_map_of_mem hkv
    rw [hk] at m
    obtain ⟨d, hd, ed⟩ := List.mem_map.mp m
    have e2 : kv.1 = keyL c := of_decide_eq_true e
    rw [e2] at ed
    rw [← key_inj ed]
    exact hd
  · intro h
    have m : keyL c ∈ kvs.map (·.1) := by
      rw [hk]
      exact List.mem_map_of_mem h
    obtain ⟨kv, hkv, e⟩ := List.mem_map.mp m
    exact ⟨kv, hkv, decide_eq_true e⟩
theorem put_key {kvs : List (List Key × V)} {cs : List (Int × Int)} (hk : kvs.map (·.1) = cs.map keyL) {c : Int × Int} (hc : c ∉ cs) (v : V) : (putK kvs (keyL c) v).map (·.1) = (cs ++ [c]).map keyL := by
  unfold putK
  have no : ¬ (kvs.any fun kv => decide (kv.1 = keyL c)) = true := by
    intro h
    obtain ⟨kv, hkv, e⟩ := List.any_eq_true.mp h
    have m : kv.1 ∈ kvs.map (·.1) := List.mem_map_of_mem hkv
    rw [hk] at m
    obtain ⟨d, hd, ed⟩ := List.mem_map.mp m
    have e2 : kv.1 = keyL c := of_decide_eq_true e
    rw [e2] at ed
    rw [← key_inj ed] at hc
    exact hc hd
  rw [if_neg no, List.map_append, hk, List.map_append]
  rfl
theorem keys_len {kvs : List (List Key × V)} {cs : List (Int × Int)} (hk : kvs.map (·.1) = cs.map keyL) : kvs.length = cs.length := by
  have := congrArg List.length hk
  rw [List.length_map, List.length_map] at this
  exact this
theorem fullB_eq {L W f s : Int} (hL : 0 < L) (hW : 0 < W) (hf : 0 < f) (hs : 0 < s) {bs : List Brick} (hb : ∀ b ∈ bs, beyB L W f s b = false) :
    fullB L W f s bs = true ↔ ((allL f s bs).Nodup ∧ ((allL f s bs).length : Int) = L * W) := by
  rw [full_iff hL hW hf hs hb]
  have na : bs.any (beyB L W f s) = false := by
    rw [List.any_eq_false]
    intro b hbm
    rw [hb b hbm]
    decide
  unfold fullB
  rw [na]
  show (gridL L W).all (fun c => decide (oftN f s bs c = 1)) = true ↔ _
  rw [List.all_eq_true]
  constructor
  · intro h c hc
    exact of_decide_eq_true (h c ((mem_grid (by omega) (by omega)).mpr hc))
  · intro h c hc
    exact decide_eq_true (h c ((mem_grid (by omega) (by omega)).mp hc))
theorem all_take {f s : Int} {ps : List (Addr × Brick)} {i : Nat} {p : Addr × Brick} (h : ps[i]? = some p) : allL f s ((vals ps).take (i + 1)) = allL f s ((vals ps).take i) ++ cellsL f s p.2 := by
  have et : (vals ps).take (i + 1) = (vals ps).take i ++ [p.2] := by
    unfold vals
    rw [List.take_add_one, List.getElem?_map, h]
    rfl
  unfold allL
  rw [et, List.flatMap_append]
  simp
theorem all_split {f s : Int} {ps : List (Addr × Brick)} {i : Nat} {p : Addr × Brick} (h : ps[i]? = some p) : ∃ r, allL f s (vals ps) = allL f s ((vals ps).take i) ++ (cellsL f s p.2 ++ r) := by
  have e : vals ps = (vals ps).take (i + 1) ++ (vals ps).drop (i + 1) := (List.take_append_drop _ _).symm
  refine ⟨allL f s ((vals ps).drop (i + 1)), ?_⟩
  have e2 : allL f s (vals ps) = allL f s ((vals ps).take (i + 1)) ++ allL f s ((vals ps).drop (i + 1)) := by
    unfold allL
    rw [← List.flatMap_append, List.take_append_drop]
  rw [e2, all_take h, List.append_assoc]
/-- cells on a floor of a few thousands: no more than the floor has -/
theorem nodup_len {L W : Int} (hL : 0 ≤ L ∧ L ≤ 1000) (hW : 0 ≤ W ∧ W ≤ 1000) {cs : List (Int × Int)} (nd : cs.Nodup) (h : ∀ c ∈ cs, cellB L W c = true) : cs.length ≤ 1000000 := by
  have g1 : ∀ c, (gridL L W).count c ≤ 1 := fun c => by
    rw [grid_count hL.1 hW.1]
    split <;> omega
  have sm := sum_counts g1 (all := cs) fun c hc => (mem_grid hL.1 hW.1).mpr (h c hc)
  have le : ∀ g : List (Int × Int), (g.map fun c => cs.count c).sum ≤ g.length := by
    intro g
    induction g with
    | nil => exact Nat.le_refl _
    | cons b g ih =>
      rw [List.map_cons, List.sum_cons, List.length_cons]
      have := List.nodup_iff_count.mp nd b
      omega
  have l1 := le (gridL L W)
  have gl : (gridL L W).length = L.toNat * W.toNat := by
    unfold gridL
    rw [cols_len]
  have := Nat.mul_le_mul (show L.toNat ≤ 1000 by omega) (show W.toNat ≤ 1000 by omega)
  omega
inductive SeenI (p l S : Addr) (L W fi se : Int) (ps : List (Addr × Brick)) (H : Hp) (i : Nat) : L2.St → Hp → Prop where
  | mk {H' : Hp} {z u : Option V} {kvs : List (List Key × V)} (sm : Same H H') (hS : H' S = some (.dT kvs)) (hk : kvs.map (·.1) = (allL fi se ((vals ps).take i)).map keyL) (nd : (allL fi se ((vals ps).take i)).Nodup) :
    SeenI p l S L W fi se ps H i [some (.ref p), some (.int L), some (.int W), some (.int fi), some (.int se), some (.ref l), some (.ref S), z, u] H'
inductive SeenJ (p l S o : Addr) (L W fi se : Int) (ps : List (Addr × Brick)) (cs : List (Int × Int)) (H : Hp) (i j : Nat) : L2.St → Hp → Prop where
  | mk {H' : Hp} {u : Option V} {kvs : List (List Key × V)} (sm : Same H H') (hS : H' S = some (.dT kvs)) (hk : kvs.map (·.1) = (allL fi se ((vals ps).take i) ++ cs.take j).map keyL) (nd : (allL fi se ((vals ps).take i) ++ cs.take j).Nodup) :
    SeenJ p l S o L W fi se ps cs H i j [some (.ref p), some (.int L), some (.int W), some (.int fi), some (.int se), some (.ref l), some (.ref S), some (.ref o), u] H'
section
variable {P : Program} {w : World} {K : PySem.W.Frag} {mg : Str → Option Value} {base : Heap}
theorem H_Full_shows (p : PlM K .full "shows" "Full.shows" s_Full_shows) (B : Bi mg) (h_is_beyond : Has P w K mg base CX0 1 "is_beyond" ["length", "width", "first", "second", "brick"] (SpBeyond K)) (h_cells_of : Has P w K mg base CX0 1 "cells_of" ["first", "second", "brick"] (SpCells K)) :
    HasM P w K mg base CX0 2 .full "shows" ["self", "length", "width", "first", "second", "bricks"] (SpShows5 K .full) := by
  refine p.mk0 sc_Full_shows (fun _ _ _ _ _ _ us hl => match us, hl with | [_, _, _, _, _, _], _ => rfl) (fun vs H Q E h => ?_) (fun f cdv A outer s H vs Q E hr h => ?_)
  · cases h; rfl
  · obtain @⟨p, l, d, ps, L, W, fi, se, _, _, _, ha, hx, hL, hW, hf, hs, hl, hb, hn, q⟩ := h
    refine ⟨_, (pss_cons (ps_if (pt_val (pe_callB (cr_any rfl) (by rfl) B.any (by decide +kernel) (pa_cons (pe_lc (own := [("brick", 7)]) (by rfl) sc_Full_shows.nd (pi_list (pv 5)) (blkOk_by (own := [("brick", 7)]) (N := ["self", "length", "width", "first", "second", "bricks", "seen", "brick", "cell"]) (sc := defScope s_Full_shows) (by decide +kernel)) (fun _ _ _ _ _ => (pg_name (i := 7) sc_Full_shows.nd rfl (Or.inl rfl))) (fun _ _ _ _ _ => pts_nil) (fun _ _ _ _ _ => (pe_fn h_is_beyond (hr.mono (by decide)) pass0 (pa_cons (pv 1) (pa_cons (pv 2) (pa_cons (pv 3) (pa_cons (pv 4) (pa_cons (pv 7) pa_nil)))))))) pa_nil))) (pss_one (ps_ret pe_bl)) pss_nil)
      (pss_cons (ps_set (i := 6) sc_Full_shows.nd rfl (Or.inl rfl) pe_dnewT)
      (pss_cons (ps_for PassesOwn.never (by rfl) (pi_list (pv 5)) (pg_name (i := 7) sc_Full_shows.nd rfl (Or.inl rfl)) (pss_one (ps_for PassesOwn.never (by rfl) (pi_list (pe_fn h_cells_of (hr.mono (by decide)) pass0 (pa_cons (pv 3) (pa_cons (pv 4) (pa_cons (pv 7) pa_nil))))) (pg_name (i := 8) sc_Full_shows.nd rfl (Or.inl rfl)) (pss_cons (ps_if (pt_cmp (pc_din (hu_of hr) (pv 8) (pv 6))) (pss_one (ps_ret pe_bl)) pss_nil)
      (pss_one (ps_dput (hu_of hr) (pv 6) (pv 8) pe_bl rfl))))))
      (pss_one (ps_ret (pe_cmpR op_eq (pe_callB call_len_dT (by rfl) B.len PySem.boot_len (pa_cons (pv 6) pa_nil)) (pe_op op_mulX (pv 1) (pv 2)) (nomark _))))))), ?_⟩
    cases ha with
    | beyond h => cases hx
    | twice h ht => cases hx
    | bare h ht => cases hx
    | full h =>
      clear h hx
      have q : ∀ H', Same H H' → Q (.bl (fullB L W fi se (vals ps))) H' := q
      refine ⟨_, rfl, l, rfl, ⟨_, hl⟩, fun D hD => ?_⟩
      refine lc_list (K := K) (a := l) (xs := refs ps) (fun i H' => Same H H' ∧ H' D = some (.lst ((((vals ps).take i).map (beyB L W fi se)).map V.bl))) ⟨same_upd hD, upd_same⟩ (fun i H' _ ⟨sm, _⟩ => sm.seq hl) ?_ ?_
      · rintro i v H' hi ⟨sm, eD⟩
        obtain ⟨pb, hpb, rfl, hm⟩ := refs_at hi
        have hlt : i < ps.length := (List.getElem?_eq_some_iff.mp hpb).1
        have et : (vals ps).take (i + 1) = (vals ps).take i ++ [pb.2] := by
          unfold vals
          rw [List.take_add_one, List.getElem?_map, hpb]
          rfl
        refine ⟨rfl, lc_yes ?_⟩
        walk_at "rd"
        refine .mk (Same.tup sm (hb pb hm)) fun H2 sm2 => ⟨_, sm2 _ _ eD, ?_, ?_, ?_⟩
        · rw [List.length_map, List.length_map, List.length_take, vals_len]
          exact Nat.lt_of_le_of_lt (Nat.min_le_right _ _) (Nat.lt_of_le_of_lt hn (by decide))
        · exact fun b1 o e => by rw [upd_ne (ne_of_none e hD)]; exact sm2 _ _ (sm b1 o e)
        · rw [upd_same, et, List.map_append, List.map_append]
          rfl
      · rintro H1 ⟨sm1, eD⟩
        rw [refs_len, ← vals_len ps, List.take_length] at eD
        refine ⟨D, _, rfl, sqL eD, ?_⟩
        have ea : ((vals ps).map (beyB L W fi se)).any id = (vals ps).any (beyB L W fi se) := by
          rw [List.any_map]
          rfl
        rw [ea]
        refine ⟨_, rfl, iteB (fun c => ?_) (fun c => ?_)⟩
        · have e : fullB L W fi se (vals ps) = false := by
            unfold fullB
            rw [c]
            rfl
          rw [e] at q
          exact q _ sm1
        have hnb : ∀ b ∈ vals ps, beyB L W fi se b = false := fun b hbm => by
          have := List.any_eq_false.mp c b hbm
          exact Bool.eq_false_iff.mpr this
        have fe := fullB_eq hL.1 hW.1 hf hs hnb
        intro S hS
        have inG : ∀ i c, c ∈ allL fi se ((vals ps).take i) → cellB L W c = true := fun i c hc => by
          obtain ⟨b, hbm, hcb⟩ := List.mem_flatMap.mp hc
          exact cov_cell (hnb b (List.mem_of_mem_take hbm)) (mem_cells hf hs hcb)
        refine ⟨_, rfl, l, rfl, ⟨_, (same_upd hS).seq (sm1.seq hl)⟩, for_list (K := K) (a := l) (xs := refs ps) (fun i σ H' => SeenI p l S L W fi se ps H1 i σ H') (.mk (kvs := []) (same_upd hS) upd_same rfl List.Pairwise.nil) ?_ ?_ ?_⟩
        · rintro _ _ _ _ ⟨sm⟩
          exact sm.seq (sm1.seq hl)
        · rintro i v _ H2 hi @⟨_, _, _, kvs, sm2, eS, hk, nd⟩
          obtain ⟨pb, hpb, rfl, hm⟩ := refs_at hi
          have hbv : pb.2 ∈ vals ps := List.mem_map_of_mem hm
          have nb := hnb _ hbv
          have lim : pb.2.lo fi se ≤ 1000 ∧ pb.2.hi fi se ≤ 1000 := by
            unfold beyB at nb
            simp only [Bool.or_eq_false_iff, decide_eq_false_iff_not] at nb
            omega
          have lo0 : 0 < pb.2.lo fi se := by unfold Brick.lo; split <;> omega
          have hi0 : 0 < pb.2.hi fi se := by unfold Brick.hi; split <;> omega
          walk_at "rd"
          refine .mk (Same.tup (sm1.trans sm2) (hb pb hm)) ⟨by omega, lim.1⟩ ⟨by omega, lim.2⟩ fun C H3 cs sm3 eC hcs vcs => ?_
          have eS3 := sm3 _ _ eS
          have nSC : C ≠ S := ne_of eC eS3 (by intro z; cases z)
          refine ⟨C, rfl, ⟨_, sqL eC⟩, for_list (K := K) (a := C) (xs := refs cs) (fun j σ H' => SeenJ p l S pb.1 L W fi se ps (cellsL fi se pb.2) H1 i j σ H' ∧ H' C = some (.lst (refs cs)) ∧ CeAll H' cs) ⟨.mk (kvs := kvs) (sm2.trans sm3) eS3 (by rw [List.take_zero, List.append_nil]; exact hk) (by rw [List.take_zero, List.append_nil]; exact nd), eC, hcs⟩ ?_ ?_ ?_⟩
          · rintro _ _ _ _ ⟨_, e, _⟩
            exact sqL e
          · rintro j v _ H4 hj ⟨@⟨_, _, kvs4, sm4, eS4, hk4, nd4⟩, eC4, hcs4⟩
            obtain ⟨pc, hpc, rfl, hmc⟩ := refs_at hj
            have ec := hcs4 pc hmc
            have ecl : (cellsL fi se pb.2)[j]? = some pc.2 := by
              rw [← vcs]
              unfold vals
              rw [List.getElem?_map, hpc]
              rfl
            have ecol : cellB L W pc.2 = true := cov_cell nb (mem_cells hf hs (List.mem_of_getElem? ecl))
            have tk : (cellsL fi se pb.2).take (j + 1) = (cellsL fi se pb.2).take j ++ [pc.2] := by
              rw [List.take_add_one, ecl]
              rfl
            have fk := find_key hk4 pc.2
            walk_at "rd"
            refine ⟨S, _, rfl, DGet.t (k := keyL pc.2) eS4 ec, _, rfl, iteB (fun c4 => ?_) (fun c4 => ?_)⟩
            · -- twice
              have mem := fk.mp c4
              have e : fullB L W fi se (vals ps) = false := by
                apply Bool.eq_false_iff.mpr
                intro z
                have nda := (fe.mp z).1
                obtain ⟨r, er⟩ := all_split (f := fi) (s := se) hpb
                rw [er] at nda
                have e3 : cellsL fi se pb.2 = (cellsL fi se pb.2).take j ++ pc.2 :: (cellsL fi se pb.2).drop (j + 1) := by
                  have hlt := (List.getElem?_eq_some_iff.mp ecl).1
                  have h5 : (cellsL fi se pb.2)[j] = pc.2 := (List.getElem?_eq_some_iff.mp ecl).2
                  rw [← h5, ← List.drop_eq_getElem_cons hlt, List.take_append_drop]
                rw [e3, List.append_assoc, ← List.append_assoc] at nda
                have dj := (List.nodup_append.mp nda).2.2 pc.2 mem pc.2 (by simp)
                exact dj rfl
              rw [e] at q
              exact q _ (sm1.trans sm4)
            · have nmem : pc.2 ∉ allL fi se ((vals ps).take i) ++ (cellsL fi se pb.2).take j := fun z => by
                rw [fk.mpr z] at c4
                cases c4
              have nd5 : (allL fi se ((vals ps).take i) ++ (cellsL fi se pb.2).take (j + 1)).Nodup := by
                rw [tk, ← List.append_assoc]
                exact List.nodup_append.mpr ⟨nd4, by simp, fun a ha b hb2 e => by
                  rw [List.mem_singleton] at hb2
                  rw [e, hb2] at ha
                  exact nmem ha⟩
              have small : kvs4.length < sizeLine := by
                rw [keys_len hk4]
                refine Nat.lt_of_le_of_lt (nodup_len (L := L) (W := W) (by omega) (by omega) nd4 fun c hc => ?_) (by decide)
                rcases List.mem_append.mp hc with z | z
                · exact inG i c z
                · exact cov_cell nb (mem_cells hf hs (List.mem_of_mem_take z))
              walk_at "rd"
              have nCS : C ≠ S := ne_of eC4 eS4 (by intro z; cases z)
              refine ⟨S, _, rfl, DPut.t (k := keyL pc.2) eS4 ec small, .mk (kvs := putK kvs4 (keyL pc.2) (.bl true)) ?_ upd_same ?_ nd5, ?_, ?_⟩
              · exact fun b1 o e => by rw [upd_ne (ne_of_none e hS)]; exact sm4 b1 o e
              · rw [put_key hk4 nmem, tk, List.append_assoc]
              · rw [upd_ne nCS]
                exact eC4
              · exact fun z hz => by
                  have hz2 := hcs4 z hz
                  have nz : z.1 ≠ S := ne_of hz2 eS4 (by intro z; cases z)
                  rw [upd_ne nz]
                  exact hz2
          · rintro _ H4 ⟨@⟨_, _, kvs4, sm4, eS4, hk4, nd4⟩, _, _⟩
            have el : (cellsL fi se pb.2).take (refs cs).length = cellsL fi se pb.2 := by
              rw [refs_len, ← vals_len, vcs, List.take_length]
            rw [el] at hk4 nd4
            exact .mk (kvs := kvs4) sm4 eS4 (by rw [all_take hpb]; exact hk4) (by rw [all_take hpb]; exact nd4)
        · rintro _ H2 @⟨_, _, _, kvs, sm2, eS, hk, nd⟩
          rw [refs_len, ← vals_len ps, List.take_length] at hk nd
          refine ⟨_, rfl, S, kvs, rfl, eS, ?_⟩
          have bL : Bn 20 L := bnl (by omega)
          have bW : Bn 20 W := bnl (by omega)
          walk_at "rd"
          have e : decide (V.int ((kvs.length : Nat) : Int) = V.int (L * W)) = fullB L W fi se (vals ps) := by
            rw [keys_len hk]
            by_cases c : ((allL fi se (vals ps)).length : Int) = L * W
            · rw [fe.mpr ⟨nd, c⟩]
              exact decide_eq_true (congrArg V.int c)
            · rw [Bool.eq_false_iff.mpr fun z => c (fe.mp z).2]
              exact decide_eq_false fun z => c (V.int.inj z)
          show Q (.bl (decide (V.int ((kvs.length : Nat) : Int) = V.int (L * W)))) H2
          rw [e]
          exact q _ (sm1.trans sm2)
theorem H_shows5 (B : Bi mg) (G : ClG K mg) (p1 : PlM K .full "shows" "Full.shows" s_Full_shows) (p2 : PlM K .beyond "shows" "Beyond.shows" s_Beyond_shows) (p3 : PlM K .twice "shows" "Twice.shows" s_Twice_shows) (p4 : PlM K .bare "shows" "Bare.shows" s_Bare_shows)
    (h_is_beyond : Has P w K mg base CX0 1 "is_beyond" ["length", "width", "first", "second", "brick"] (SpBeyond K)) (h_cells_of : Has P w K mg base CX0 1 "cells_of" ["first", "second", "brick"] (SpCells K))
    (h_is_cell : Has P w K mg base CX0 2 "is_cell" ["length", "width", "thing"] SpIsCell) (h_often : Has P w K mg base CX0 2 "often" ["first", "second", "bricks", "cell"] (SpOften K)) :
    ∀ x, Ok5 x → HasM P w K mg base CX0 3 x "shows" ["self", "length", "width", "first", "second", "bricks"] (SpShows5 K x) := by
  intro x hx
  have e : x = .full ∨ x = .beyond ∨ x = .twice ∨ x = .bare := by simpa [Ok5] using hx
  rcases e with rfl | rfl | rfl | rfl
  · exact (H_Full_shows p1 B h_is_beyond h_cells_of).mono (by decide)
  · exact (H_Beyond_shows p2 B G h_is_beyond).mono (by decide)
  · exact H_Twice_shows p3 G h_is_cell h_often
  · exact H_Bare_shows p4 G h_is_cell h_often
end
end BF

/-! ### lists of bricks -/
namespace BF
open PySem PySem.Spec PyProof.Rows L2
/-- a loop over enumerate(list) -/
theorem for_enumL {K : PySem.W.Frag} {a : Addr} {xs : List V} {g : TG} {tb : TS} {D : Ends} {σ : L2.St} {H : Hp} (Pv : Nat → L2.St → Hp → Prop) (h0 : Pv 0 σ H) (hl : ∀ i σ H, i ≤ xs.length → Pv i σ H → SqL K H a xs)
    (hs : ∀ i x T σ H, xs[i]? = some x → Pv i σ H → H T = none → g (.ref T) σ (upd H T (.tup [.int (i : Nat), x])) fun σ2 H2 => tb { D with nx := Pv (i + 1), ct := Pv (i + 1), bk := D.nx } σ2 H2) (hd : ∀ σ H, Pv xs.length σ H → D.nx σ H) :
    ∃ W : Nat → Nat → L2.St → Hp → Prop, (∃ m, W 0 m σ H) ∧ ∀ i m σ H, W i m σ H →
      ((Ite K a).stop i H ∧ D.nx σ H) ∨ ((Ite K a).go i H ∧ ∃ N : L2.St → Hp → Prop, (∀ σ' H', N σ' H' → ∃ m', m' < m ∧ W (i + 1) m' σ' H') ∧ ∀ x H', (Ite K a).yld i H x H' → g x σ H' fun σ2 H2 => tb { D with nx := N, ct := N, bk := D.nx } σ2 H2) := by
  refine ⟨fun i m σ H => m = xs.length - i ∧ i ≤ xs.length ∧ Pv i σ H, ⟨_, rfl, Nat.zero_le _, h0⟩, ?_⟩
  rintro i m σ H ⟨rfl, hi, p⟩
  have sq := hl i σ H hi p
  by_cases c : i < xs.length
  · refine .inr ⟨⟨xs, xs[i], sq, by simp [c]⟩, Pv (i + 1), fun σ' H' p' => ⟨xs.length - (i + 1), by omega, rfl, c, p'⟩, fun x H' y => ?_⟩
    obtain ⟨T, z, rfl, hT, rfl, hx⟩ := y
    exact hs i z T σ H (hx xs sq) p hT
  · have e : i = xs.length := by omega
    subst e
    exact .inl ⟨⟨xs, sq, Nat.le_refl _⟩, hd σ H p⟩
theorem cut_ints2 (ns : List Int) (lo hi : Option Int) : ∃ ms : List Int, cutV (ns.map V.int) lo hi = ms.map V.int ∧ (∀ z ∈ ms, z ∈ ns) ∧ ms.length ≤ ns.length := by
  unfold cutV
  refine ⟨_, cut_map V.int ns _ _, fun z hz => List.mem_of_mem_drop (List.mem_of_mem_take hz), ?_⟩
  rw [List.length_take, List.length_drop]
  omega
def BrT (H : Hp) (ps : List (Addr × Brick)) : Prop := ∀ p ∈ ps, H p.1 = some (.tup p.2.vs)
theorem BrT.mono {H H' : Hp} {ps : List (Addr × Brick)} (h : BrT H ps) (sm : Same H H') : BrT H' ps := fun p hp => sm _ _ (h p hp)
theorem BrT.all {K : PySem.W.Frag} {H : Hp} {ps : List (Addr × Brick)} (h : BrT H ps) : BrAll K H ps := fun p hp => sqT (h p hp)
theorem BrT.app {H : Hp} {a b : List (Addr × Brick)} (h : BrT H a) (k : BrT H b) : BrT H (a ++ b) := fun p hp => by
  rcases List.mem_append.mp hp with z | z
  · exact h p z
  · exact k p z
theorem BrT.one {H : Hp} {p : Addr} {b : Brick} (h : H p = some (.tup b.vs)) : BrT H [(p, b)] := fun q hq => by
  obtain rfl := List.mem_singleton.mp hq
  exact h
theorem BrT.sub {H : Hp} {a b : List (Addr × Brick)} (h : BrT H a) (k : ∀ p ∈ b, p ∈ a) : BrT H b := fun p hp => h p (k p hp)
/-- a list is changed: bricks stay -/
theorem BrT.lst {H : Hp} {F : Addr} {xs : List V} {o : HO} {ps : List (Addr × Brick)} (h : BrT H ps) (e : H F = some (.lst xs)) : BrT (upd H F o) ps := fun p hp => by
  have z := h p hp
  rw [upd_ne (ne_of z e (by intro z; cases z))]
  exact z
/-- a list that H does not know is changed -/
theorem same_mut {H H' : Hp} {F : Addr} {o : HO} (sm : Same H H') (n : H F = none) : Same H (upd H' F o) := fun b u e => by
  rw [upd_ne (ne_of_none e n)]
  exact sm b u e
/-- a tuple where a list is changed -/
theorem keepT {H : Hp} {F t : Addr} {xs ys : List V} {o : HO} (h : H t = some (.tup xs)) (e : H F = some (.lst ys)) : (upd H F o) t = some (.tup xs) := by
  rw [upd_ne (ne_of h e (by intro z; cases z))]
  exact h
/-- one more brick in a comprehension's list -/
theorem lc_brick {H2 H3 : Hp} {D p4 : Addr} {ds : List (Addr × Brick)} {b : Brick} {j : Nat} (hD : H2 D = none) (sm3 : Same H2 H3) (eD : H3 D = some (.lst (refs ds))) (hds : BrT H3 ds) (hj : ds.length = j) (hp4 : H3 p4 = none) (hn : j < 1000) :
    ∃ acc, (upd H3 p4 (.tup b.vs)) D = some (.lst acc) ∧ acc.length < sizeLine ∧ Same H2 (upd (upd H3 p4 (.tup b.vs)) D (.lst (acc ++ [.ref p4]))) ∧ ∃ es, (upd (upd H3 p4 (.tup b.vs)) D (.lst (acc ++ [.ref p4]))) D = some (.lst (refs es)) ∧ BrT (upd (upd H3 p4 (.tup b.vs)) D (.lst (acc ++ [.ref p4]))) es ∧ es.length = j + 1 := by
  have e4 := same_upd (o := .tup b.vs) hp4 _ _ eD
  refine ⟨refs ds, e4, ?_, same_mut (sm3.trans (same_upd hp4)) hD, ds ++ [(p4, b)], ?_, ?_, ?_⟩
  · rw [refs_len, hj]
    exact Nat.lt_trans hn (by decide)
  · rw [upd_same, refs_app]
    rfl
  · exact ((hds.mono (same_upd hp4)).app (.one upd_same)).lst e4
  · rw [List.length_append, hj]
    rfl
theorem at_refs {ps : List (Addr × Brick)} {k : Int} (h0 : 0 ≤ k) (h1 : k < ps.length) : ∃ pb, pb ∈ ps ∧ ps[k.toNat]? = some pb ∧ atI (refs ps) k = some (.ref pb.1) := by
  obtain ⟨n, rfl⟩ := Int.eq_ofNat_of_zero_le h0
  have hlt : n < ps.length := by omega
  refine ⟨ps[n], List.getElem_mem hlt, by rw [Int.toNat_natCast]; exact List.getElem?_eq_getElem hlt, atI_nat ?_⟩
  unfold refs
  rw [List.getElem?_map, List.getElem?_eq_getElem hlt]
  rfl
theorem erase_refs {α : Type} : ∀ (ps : List (Addr × α)) (n : Nat), (refs ps).eraseIdx n = refs (ps.eraseIdx n)
  | [], _ => rfl
  | _ :: _, 0 => rfl
  | p :: ps, n + 1 => by
    show V.ref p.1 :: (refs ps).eraseIdx n = V.ref p.1 :: refs (ps.eraseIdx n)
    rw [erase_refs ps n]
theorem seq_ix {n k : Nat} (h : k < n) : seqIndex? (k : Int) n = some k := by
  unfold seqIndex?
  simp
  omega
end BF

/-! ### laying.py: told -/
namespace BF
open PySem PySem.Spec PyProof.Rows L2
noncomputable def tellA (L W f s : Int) : Ans := match strL L W f s with
  | i :: _ => .striped (.int i)
  | [] => match shoL L W f s with
    | i :: _ => .short (.int i)
    | [] => .laid
theorem tellA_4 (L W f s : Int) : A4 (tellA L W f s) := by
  unfold tellA
  cases strL L W f s with
  | cons i r => exact .striped i
  | nil =>
    show A4 (match shoL L W f s with | i :: _ => Ans.short (.int i) | [] => .laid)
    cases shoL L W f s with
    | cons i r => exact .short i
    | nil => exact .laid
inductive SpTold (K : PySem.W.Frag) : Sp where
  | mk {L W f s : Int} {H : Hp} {Q : VK} {E : XK} (hL : Sz L) (hW : Sz W) (hf : Sz f) (hs : Sz s) (q : ∀ p H', Same H H' → AnsAt K H' p (tellA L W f s) → Q (.ref p) H') : SpTold K [.int L, .int W, .int f, .int s] H Q E
theorem two_ne (a b : Bool) : (!PyData.eqv (.list ((two a b).map .int)) (.list [])) = !(two a b).isEmpty := by
  cases a <;> cases b <;> rfl
theorem two_sh (a b : Bool) : SeqAt.shaped (.list ((two a b).map .int)) = true := by
  cases a <;> cases b <;> rfl
section
variable {P : Program} {w : World} {K : PySem.W.Frag} {mg : Str → Option Value} {base : Heap}
theorem H_told (p : Pl K mg "told" s_told) (G : ClG K mg) (CI : ClI P w K mg base) (h_check_sizes : Has P w K mg base CX0 2 "check_sizes" ["some"] (SpCheckSizes K))
    (h_what_bars : Has P w K mg base CX0 3 "what_bars" ["length", "width", "first", "second"] SpBars) : Has P w K mg base CX0 4 "told" ["length", "width", "first", "second"] (SpTold K) := by
  refine p.mk0 sc_told (fun _ _ _ _ _ _ us hl => match us, hl with | [_, _, _, _], _ => rfl) (fun vs H Q E h => ?_) (fun f cdv A outer s H vs Q E hr h => ?_)
  · cases h; rfl
  · obtain @⟨L, W, fi, se, _, _, _, hL, hW, hf, hs, q⟩ := h
    refine ⟨_, (pss_cons (ps_expr (pe_fn h_check_sizes (hr.mono (by decide)) pass0 (pa_cons (pe_lst (pa_cons (pv 0) (pa_cons (pv 1) (pa_cons (pv 2) (pa_cons (pv 3) pa_nil))))) pa_nil)))
      (pss_cons (ps_asg (pe_fn h_what_bars (hr.mono (by decide)) pass0 (pa_cons (pv 0) (pa_cons (pv 1) (pa_cons (pv 2) (pa_cons (pv 3) pa_nil))))) (pg_tup (by rfl) (pgs_cons (pg_name (i := 4) sc_told.nd rfl (Or.inl rfl)) (pgs_cons (pg_name (i := 5) sc_told.nd rfl (Or.inl rfl)) pgs_nil))))
      (pss_cons (ps_if (pt_cmpR (r := rNeD K) (op_neD hr.units) (pv 4) (pe_lst pa_nil) (nomark _)) (pss_one (ps_ret (pe_mkI (x := .striped) CI G (by decide) trivial (hr.mono (by decide)) (pa_cons (pe_ix (r := rIxL K) ix_list (pv 4) pe_int (fun _ _ => rfl)) pa_nil)))) pss_nil)
      (pss_one (ps_ret (pe_ifExp (pt_cmpR (r := rNeD K) (op_neD hr.units) (pv 5) (pe_lst pa_nil) (nomark _)) (pe_mkI (x := .short) CI G (by decide) trivial (hr.mono (by decide)) (pa_cons (pe_ix (r := rIxL K) ix_list (pv 5) pe_int (fun _ _ => rfl)) pa_nil)) (pe_mkN (x := .laid) CI G (by decide) (by decide)))))))), ?_⟩
    walk_at "rd"
    intro l1 hl1
    generalize hH1 : upd H l1 _ = H1
    obtain ⟨sm1, up1⟩ : Same H H1 ∧ H1 l1 = some (.lst ([L, W, fi, se].map V.int)) := newH hH1 hl1
    clear hH1
    refine .mk (ns := [L, W, fi, se]) (sqL up1) ?_ ?_
    · intro n hn
      have e : n = L ∨ n = W ∨ n = fi ∨ n = se := by simpa using hn
      rcases e with rfl | rfl | rfl | rfl
      · exact hL.pos
      · exact hW.pos
      · exact hf.pos
      · exact hs.pos
    walk_at "rd"
    refine .mk hL hW hf hs fun t p1 p2 H2 sm2 ht hp1 hp2 => ?_
    refine ⟨t, _, rfl, sqT ht, rfl, ?_⟩
    walk_at "rd"
    intro l3 hl3
    generalize hH3 : upd H2 l3 _ = H3
    obtain ⟨sm3, up3⟩ : Same H2 H3 ∧ H3 l3 = some (.lst []) := newH hH3 hl3
    clear hH3
    replace hp1 := sm3 _ _ hp1
    replace hp2 := sm3 _ _ hp2
    refine ⟨.list ((strL L W fi se).map .int), .list [], .lst (sqL hp1) (dp_ints _), .lst (sqL up3) .nil, two_sh _ _, rfl, _, rfl, ?_⟩
    have smA := sm1.trans (sm2.trans sm3)
    unfold tellA at q
    rw [show (!PyData.eqv (.list ((strL L W fi se).map .int)) (.list [])) = !(strL L W fi se).isEmpty from two_ne _ _]
    cases hst : strL L W fi se with
    | cons i r =>
      rw [hst] at q hp1
      refine iteT ?_
      refine ⟨_, rfl, p1, _, 0, .int i, rfl, rfl, sqL hp1, at0, ?_⟩
      exact ⟨_, rfl, fun p H4 hp sm4 ha => q p H4 (smA.trans sm4) ha⟩
    | nil =>
      rw [hst] at q
      refine iteF ?_
      walk_at "rd"
      intro l4 hl4
      generalize hH4 : upd H3 l4 _ = H4
      obtain ⟨sm4, up4⟩ : Same H3 H4 ∧ H4 l4 = some (.lst []) := newH hH4 hl4
      clear hH4
      replace hp2 := sm4 _ _ hp2
      refine ⟨.list ((shoL L W fi se).map .int), .list [], .lst (sqL hp2) (dp_ints _), .lst (sqL up4) .nil, two_sh _ _, rfl, _, rfl, ?_⟩
      rw [show (!PyData.eqv (.list ((shoL L W fi se).map .int)) (.list [])) = !(shoL L W fi se).isEmpty from two_ne _ _]
      replace smA := smA.trans sm4
      cases hsh : shoL L W fi se with
      | cons i r =>
        rw [hsh] at q hp2
        refine iteT ?_
        refine ⟨_, rfl, p2, _, 0, .int i, rfl, rfl, sqL hp2, at0, ?_⟩
        exact ⟨_, rfl, fun p H5 hp sm5 ha => q p H5 (smA.trans sm5) ha⟩
      | nil =>
        rw [hsh] at q
        refine iteF ?_
        exact fun p H5 hp sm5 ha => q p H5 (smA.trans sm5) ha
end
end BF

/-! ### judging.py -/
namespace BF
open PySem PySem.Spec PyProof.Rows L2
inductive SpIsBrick : Sp where
  | mk {o : Addr} {b : Brick} {H : Hp} {Q : VK} {E : XK} (ho : H o = some (.tup b.vs)) (q : Q (.bl true) H) : SpIsBrick [.ref o] H Q E
/-- an answer that is as told -/
def IsJ (L W f s : Int) (bs : List Brick) : D5 → Prop
  | .beyond i => beyAt L W f s bs i = true
  | .bare c => bs.any (beyB L W f s) = false ∧ cellB L W c = true ∧ oftN f s bs c = 0
  | .twice c => bs.any (beyB L W f s) = false ∧ cellB L W c = true ∧ 1 < oftN f s bs c
  | .full => bs.any (beyB L W f s) = false ∧ ∀ c, cellB L W c = true → oftN f s bs c = 1
theorem IsJ.due {L W f s : Int} {bs : List Brick} {d : D5} (hL : 0 < L) (hW : 0 < W) (h : IsJ L W f s bs d) : due5 L W f s bs d = true := by
  cases d with
  | beyond i => exact h
  | bare c =>
    show (cellB L W c && decide (oftN f s bs c = 0)) = true
    rw [h.2.1, decide_eq_true h.2.2]
    rfl
  | twice c =>
    show (cellB L W c && decide (1 < oftN f s bs c)) = true
    rw [h.2.1, decide_eq_true h.2.2]
    rfl
  | full =>
    show (!(bs.any (beyB L W f s)) && (gridL L W).all fun c => decide (oftN f s bs c = 1)) = true
    rw [h.1]
    show (gridL L W).all (fun c => decide (oftN f s bs c = 1)) = true
    rw [List.all_eq_true]
    intro c hc
    exact decide_eq_true (h.2 c ((mem_grid (by omega) (by omega)).mp hc))
theorem beyAt_any {L W f s : Int} {bs : List Brick} {i : Int} (h : beyAt L W f s bs i = true) : bs.any (beyB L W f s) = true := by
  unfold beyAt at h
  rw [Bool.and_eq_true] at h
  cases e : bs[i.toNat]? with
  | none => rw [e] at h; exact nomatch h.2
  | some b =>
    rw [e] at h
    exact List.any_eq_true.mpr ⟨b, List.mem_of_getElem? e, h.2⟩
theorem IsJ.full {L W f s : Int} {bs : List Brick} {d : D5} (hL : 0 < L) (hW : 0 < W) (h : IsJ L W f s bs d) : decide (d.cl = .full) = fullB L W f s bs := by
  cases d with
  | beyond i =>
    have e : fullB L W f s bs = false := by
      unfold fullB
      rw [beyAt_any h]
      rfl
    rw [e]
    rfl
  | bare c =>
    have e : fullB L W f s bs = false := by
      apply Bool.eq_false_iff.mpr
      intro z
      unfold fullB at z
      rw [Bool.and_eq_true] at z
      have := of_decide_eq_true (List.all_eq_true.mp z.2 c ((mem_grid (by omega) (by omega)).mpr h.2.1))
      have := h.2.2
      omega
    rw [e]
    rfl
  | twice c =>
    have e : fullB L W f s bs = false := by
      apply Bool.eq_false_iff.mpr
      intro z
      unfold fullB at z
      rw [Bool.and_eq_true] at z
      have := of_decide_eq_true (List.all_eq_true.mp z.2 c ((mem_grid (by omega) (by omega)).mpr h.2.1))
      have := h.2.2
      omega
    rw [e]
    rfl
  | full => exact (show fullB L W f s bs = true from h.due (d := .full) hL hW).symm
inductive SpJudged (K : PySem.W.Frag) : Sp where
  | mk {l : Addr} {ps : List (Addr × Brick)} {L W f s : Int} {H : Hp} {Q : VK} {E : XK} (hL : 0 < L) (hW : 0 < W) (hm : L * W ≤ 400) (hf : 0 < f) (hs : 0 < s) (el : H l = some (.lst (refs ps))) (hb : BrT H ps) (hn : ps.length ≤ 1000)
      (q : ∀ p H' d, Same H H' → At5 K H' p d → IsJ L W f s (vals ps) d → Q (.ref p) H') : SpJudged K [.int L, .int W, .int f, .int s, .ref l] H Q E
inductive JuI (l : Addr) (L W f s : Int) (bs : List Brick) (H : Hp) (i : Nat) : L2.St → Hp → Prop where
  | mk {H' : Hp} {y5 y6 : Option V} (sm : Same H H') (h : ∀ b ∈ bs.take i, beyB L W f s b = false) : JuI l L W f s bs H i [some (.int L), some (.int W), some (.int f), some (.int s), some (.ref l), y5, y6, none, none, none] H'
inductive JuA (l : Addr) (L W f s : Int) (bs : List Brick) (H : Hp) (i : Nat) : L2.St → Hp → Prop where
  | mk {H' : Hp} {y5 y6 y7 y8 y9 : Option V} (sm : Same H H') (h : ∀ x y : Int, 0 ≤ x → x < i → 0 ≤ y → y < W → oftN f s bs (x, y) = 1) : JuA l L W f s bs H i [some (.int L), some (.int W), some (.int f), some (.int s), some (.ref l), y5, y6, y7, y8, y9] H'
inductive JuB (l : Addr) (L W f s : Int) (bs : List Brick) (H : Hp) (x : Int) (j : Nat) : L2.St → Hp → Prop where
  | mk {H' : Hp} {y5 y6 y8 y9 : Option V} (sm : Same H H') (h : ∀ y : Int, 0 ≤ y → y < j → oftN f s bs (x, y) = 1) : JuB l L W f s bs H x j [some (.int L), some (.int W), some (.int f), some (.int s), some (.ref l), y5, y6, some (.int x), y8, y9] H'
section
variable {P : Program} {w : World} {K : PySem.W.Frag} {mg : Str → Option Value} {base : Heap}
theorem H_is_brick (p : Pl K mg "is_brick" s_is_brick) (B : Bi mg) (h_is_number : Has P w K mg base CX0 1 "is_number" ["thing"] (SpIsNumber K)) : Has P w K mg base CX0 2 "is_brick" ["thing"] SpIsBrick := by
  refine p.mk0 sc_is_brick (fun _ _ _ _ _ _ us hl => match us, hl with | [_], _ => rfl) (fun vs H Q E h => ?_) (fun f cdv A outer s H vs Q E hr h => ?_)
  · cases h; rfl
  · obtain @⟨o, ⟨x, y, l⟩, _, _, _, ho, q⟩ := h
    refine ⟨_, (pss_cons (ps_if (PW.pt (pw_or (pt_not (pt_val (pe_callB (r := rIsi K) call_isi (by rfl) B.isinstance (by decide +kernel) (pa_cons (pv 0) (pa_cons (pe_bltn (v := .ty "tuple") (by rfl) B.tuple (by decide +kernel) rfl) pa_nil))))) (pw_or (pt_cmpR op_ne (pe_callB (r := rLen2 K) call_len_seq (by rfl) B.len PySem.boot_len (pa_cons (pv 0) pa_nil)) pe_int (nomark _)) (pw_or1 (pt_not (pt_val (pe_callB (r := rIsi K) call_isi (by rfl) B.isinstance (by decide +kernel) (pa_cons (pe_ix (r := rIxT K) ix_tup (pv 0) pe_int (fun _ _ => rfl)) (pa_cons (pe_bltn (v := .ty "bool") (by rfl) B.bool (by decide +kernel) rfl) pa_nil))))))))) (pss_one (ps_ret pe_bl)) pss_nil)
      (pss_one (ps_ret (pe_and (pe_fn h_is_number (hr.mono (by decide)) pass0 (pa_cons (pe_ix (r := rIxT K) ix_tup (pv 0) pe_int (fun _ _ => rfl)) pa_nil)) (pe_one (pe_fn h_is_number (hr.mono (by decide)) pass0 (pa_cons (pe_ix (r := rIxT K) ix_tup (pv 0) pe_int (fun _ _ => rfl)) pa_nil))))))), ?_⟩
    refine ⟨_, rfl, _, _, _, _, true, rfl, .ty "tuple", .base (.tup ho), kit_ty (by decide +kernel), true, rfl, iteF ?_⟩
    refine ⟨_, rfl, o, _, rfl, .inr (sqT ho), rfl, _, rfl, iteNe (fun z => absurd rfl z) (fun _ => ?_)⟩
    refine ⟨_, rfl, o, _, 2, _, rfl, rfl, sqT ho, rfl, _, _, _, _, true, rfl, .ty "bool", .base (.bl l), kit_ty (by decide +kernel), true, rfl, iteF ?_⟩
    refine ⟨_, rfl, o, _, 0, _, rfl, rfl, sqT ho, rfl, num_int ⟨true, rfl, iteT ?_⟩⟩
    exact ⟨_, rfl, o, _, 1, _, rfl, rfl, sqT ho, rfl, num_int q⟩
theorem H_judged (p : Pl K mg "judged" s_judged) (B : Bi mg) (G : ClG K mg) (CI : ClI P w K mg base) (M_MOST : ∃ t, mg "MOST" = some (.int 400 t)) (h_check_sizes : Has P w K mg base CX0 2 "check_sizes" ["some"] (SpCheckSizes K)) (h_is_brick : Has P w K mg base CX0 2 "is_brick" ["thing"] SpIsBrick)
    (h_is_beyond : Has P w K mg base CX0 1 "is_beyond" ["length", "width", "first", "second", "brick"] (SpBeyond K)) (h_often : Has P w K mg base CX0 2 "often" ["first", "second", "bricks", "cell"] (SpOften K)) : Has P w K mg base CX0 3 "judged" ["length", "width", "first", "second", "bricks"] (SpJudged K) := by
  refine p.mk0 sc_judged (fun _ _ _ _ _ _ us hl => match us, hl with | [_, _, _, _, _], _ => rfl) (fun vs H Q E h => ?_) (fun f cdv A outer s H vs Q E hr h => ?_)
  · cases h; rfl
  · obtain @⟨l, ps, L, W, fi, se, _, _, _, hL, hW, hm, hf, hs, el, hb, hn, q⟩ := h
    refine ⟨_, (pss_cons (ps_expr (pe_fn h_check_sizes (hr.mono (by decide)) pass0 (pa_cons (pe_lst (pa_cons (pv 0) (pa_cons (pv 1) (pa_cons (pv 2) (pa_cons (pv 3) pa_nil))))) pa_nil)))
      (pss_cons (ps_if (pt_cmpR op_gt (pe_op op_mulX (pv 0) (pv 1)) (pe_const (by rfl) M_MOST) (nomark _)) (pss_one ps_never) pss_nil)
      (pss_cons (ps_if (PW.pt (pw_or (pt_not (pt_val (pe_callB (r := rIsi K) call_isi (by rfl) B.isinstance (by decide +kernel) (pa_cons (pv 4) (pa_cons (pe_bltn (v := .ty "list") (by rfl) B.list (by decide +kernel) rfl) pa_nil))))) (pw_or1 (pt_not (pt_val (pe_callB (cr_all rfl) (by rfl) B.all (by decide +kernel) (pa_cons (pe_lc (own := [("brick", 6)]) (by rfl) sc_judged.nd (pi_list (pv 4)) (blkOk_by (own := [("brick", 6)]) (N := ["length", "width", "first", "second", "bricks", "count", "brick", "along", "up", "many"]) (sc := defScope s_judged) (by decide +kernel)) (fun _ _ _ _ _ => (pg_name (i := 6) sc_judged.nd rfl (Or.inl rfl))) (fun _ _ _ _ _ => pts_nil) (fun _ _ _ _ _ => (pe_fn h_is_brick (hr.mono (by decide)) pass0 (pa_cons (pv 6) pa_nil)))) pa_nil))))))) (pss_one ps_never) pss_nil)
      (pss_cons (ps_for PassesOwn.never (by rfl) (pi_enum (by rfl) B.enumerate (pa_cons (pv 4) pa_nil)) (pg_tup (by rfl) (pgs_cons (pg_name (i := 5) sc_judged.nd rfl (Or.inl rfl)) (pgs_cons (pg_name (i := 6) sc_judged.nd rfl (Or.inl rfl)) pgs_nil))) (pss_one (ps_if (pt_val (pe_fn h_is_beyond (hr.mono (by decide)) pass0 (pa_cons (pv 0) (pa_cons (pv 1) (pa_cons (pv 2) (pa_cons (pv 3) (pa_cons (pv 6) pa_nil))))))) (pss_one (ps_ret (pe_mkI (x := .beyond) CI G (by decide) trivial (hr.mono (by decide)) (pa_cons (pv 5) pa_nil)))) pss_nil)))
      (pss_cons (ps_for PassesOwn.never (by rfl) (pi_range1 (by rfl) B.range (pa_cons (pv 0) pa_nil)) (pg_name (i := 7) sc_judged.nd rfl (Or.inl rfl)) (pss_one (ps_for PassesOwn.never (by rfl) (pi_range1 (by rfl) B.range (pa_cons (pv 1) pa_nil)) (pg_name (i := 8) sc_judged.nd rfl (Or.inl rfl)) (pss_cons (ps_set (i := 9) sc_judged.nd rfl (Or.inl rfl) (pe_fn h_often (hr.mono (by decide)) pass0 (pa_cons (pv 2) (pa_cons (pv 3) (pa_cons (pv 4) (pa_cons (pe_tup (pa_cons (pv 7) (pa_cons (pv 8) pa_nil))) pa_nil))))))
      (pss_one (ps_if (pt_cmpR op_ne (pv 9) pe_int (nomark _)) (pss_one (ps_ret (pe_ifExp (pt_cmpR op_eq (pv 9) pe_int (nomark _)) (pe_mkI (x := .bare) CI G (by decide) trivial (hr.mono (by decide)) (pa_cons (pe_tup (pa_cons (pv 7) (pa_cons (pv 8) pa_nil))) pa_nil)) (pe_mkI (x := .twice) CI G (by decide) trivial (hr.mono (by decide)) (pa_cons (pe_tup (pa_cons (pv 7) (pa_cons (pv 8) pa_nil))) pa_nil))))) pss_nil))))))
      (pss_one (ps_ret (pe_mkN (x := .full) CI G (by decide) (by decide))))))))), ?_⟩
    have hL2 : L ≤ 400 := by
      have := Int.mul_le_mul_of_nonneg_left (show (1 : Int) ≤ W by omega) (show 0 ≤ L by omega)
      omega
    have hW2 : W ≤ 400 := by
      have := Int.mul_le_mul_of_nonneg_right (show (1 : Int) ≤ L by omega) (show 0 ≤ W by omega)
      omega
    have bL : Bn 20 L := bnl (by omega)
    have bW : Bn 20 W := bnl (by omega)
    walk_at "rd"
    intro l1 hl1
    generalize hH1 : upd H l1 _ = H1
    obtain ⟨sm1, up1⟩ : Same H H1 ∧ H1 l1 = some (.lst ([L, W, fi, se].map V.int)) := newH hH1 hl1
    clear hH1
    refine .mk (ns := [L, W, fi, se]) (sqL up1) ?_ ?_
    · intro n hn
      have e : n = L ∨ n = W ∨ n = fi ∨ n = se := by simpa using hn
      rcases e with rfl | rfl | rfl | rfl
      · exact hL
      · exact hW
      · exact hf
      · exact hs
    walk_at "rd"
    refine iteN (show ¬ (400 : Int) < L * W by omega) ?_
    have el1 := sm1 _ _ el
    have hb1 := hb.mono sm1
    refine ⟨_, rfl, _, _, _, _, true, rfl, .ty "list", .base (.lst el1), kit_ty (by decide +kernel), true, rfl, iteF ?_⟩
    refine ⟨_, rfl, l, rfl, ⟨_, sqL el1⟩, fun D hD => ?_⟩
    refine lc_list (K := K) (a := l) (xs := refs ps) (fun i H' => Same H1 H' ∧ H' D = some (.lst ((List.replicate i true).map V.bl))) ⟨same_upd hD, upd_same⟩ (fun i H' _ ⟨sm, _⟩ => sqL (sm _ _ el1)) ?_ ?_
    · rintro i v H' hi ⟨sm, eD⟩
      obtain ⟨pb, hpb, rfl, hmm⟩ := refs_at hi
      have hlt := (List.getElem?_eq_some_iff.mp hpb).1
      refine ⟨rfl, lc_yes ?_⟩
      walk_at "rd"
      refine .mk (sm _ _ (hb1 _ hmm)) ⟨_, eD, ?_, same_mut sm hD, ?_⟩
      · rw [List.length_map, List.length_replicate]
        exact Nat.lt_of_lt_of_le hlt (Nat.le_trans hn (by decide))
      · rw [upd_same, List.replicate_succ', List.map_append]
        rfl
    rintro H2 ⟨sm2, eD⟩
    refine ⟨D, _, rfl, sqL eD, ?_⟩
    have ea : (List.replicate (refs ps).length true).all id = true := by
      rw [List.all_eq_true]
      intro x hx
      exact (List.mem_replicate.mp hx).2
    rw [ea]
    refine ⟨_, rfl, iteF ?_⟩
    have s02 : Same H H2 := sm1.trans sm2
    have el2 := s02 _ _ el
    refine ⟨_, rfl, l, _, rfl, sqL el2, for_enumL (K := K) (a := l) (xs := refs ps) (fun i σ H' => JuI l L W fi se (vals ps) H2 i σ H') (.mk (Same.refl _) (by simp)) ?_ ?_ ?_⟩
    · rintro _ _ _ _ ⟨sm⟩
      exact sqL (sm _ _ el2)
    · rintro i v T _ H3 hi @⟨_, _, _, sm3, hall⟩ hT
      obtain ⟨pb, hpb, rfl, hmm⟩ := refs_at hi
      have hlt := (List.getElem?_eq_some_iff.mp hpb).1
      generalize hH4 : upd H3 T _ = H4
      obtain ⟨sm4, up4⟩ : Same H3 H4 ∧ H4 T = some (.tup [.int (i : Nat), .ref pb.1]) := newH hH4 hT
      clear hH4
      have s04 := s02.trans (sm3.trans sm4)
      refine ⟨T, _, rfl, sqT up4, rfl, ?_⟩
      walk_at "rd"
      refine .mk (sqT (s04 _ _ (hb _ hmm))) fun H5 sm5 => ⟨_, rfl, iteB (fun c => ?_) (fun c => ?_)⟩
      · refine ⟨_, rfl, _, rfl, fun p1 H6 np1 sm6 ha => ?_⟩
        refine q p1 H6 (.beyond (i : Nat)) (s04.trans (sm5.trans sm6)) (.beyond ha) ?_
        show beyAt L W fi se (vals ps) (i : Nat) = true
        unfold beyAt
        have hv : (vals ps)[((i : Nat) : Int).toNat]? = some pb.2 := by
          unfold vals
          rw [Int.toNat_natCast, List.getElem?_map, hpb]
          rfl
        rw [vals_len, hv, decide_eq_true (by omega), decide_eq_true (by omega)]
        exact c
      · refine .mk (sm3.trans (sm4.trans sm5)) fun b hb2 => ?_
        have et : (vals ps).take (i + 1) = (vals ps).take i ++ [pb.2] := by
          unfold vals
          rw [List.take_add_one, List.getElem?_map, hpb]
          rfl
        rw [et] at hb2
        rcases List.mem_append.mp hb2 with z | z
        · exact hall b z
        · rw [List.mem_singleton.mp z]
          exact c
    rintro _ H3 @⟨_, _, _, sm3, hall⟩
    rw [refs_len, ← vals_len ps, List.take_length] at hall
    have nob : (vals ps).any (beyB L W fi se) = false := by
      rw [List.any_eq_false]
      intro b hbm
      rw [hall b hbm]
      decide
    have s03 := s02.trans sm3
    refine ⟨_, rfl, _, rfl, by omega, by omega, for_range (lo := 0) (n := L.toNat) (fun i σ H' => JuA l L W fi se (vals ps) H3 i σ H') (.mk (Same.refl _) (fun x y h0 h1 => by omega)) ?_ ?_⟩
    · rintro i _ H4 hi @⟨_, _, _, _, _, _, sm4, ha4⟩
      refine ⟨_, rfl, _, rfl, by omega, by omega, for_range (lo := 0) (n := W.toNat) (fun j σ H' => JuB l L W fi se (vals ps) H4 (0 + (i : Int)) j σ H') (.mk (Same.refl _) (fun y h0 h1 => by omega)) ?_ ?_⟩
      · rintro j _ H5 hj @⟨_, _, _, _, _, sm5, hb5⟩
        walk_at "rd"
        intro t6 ht6
        generalize hH6 : upd H5 t6 _ = H6
        obtain ⟨sm6, up6⟩ : Same H5 H6 ∧ H6 t6 = some (.tup (cellV (0 + (i : Int), 0 + (j : Int)))) := newH hH6 ht6
        clear hH6
        have s06 := s03.trans (sm4.trans (sm5.trans sm6))
        refine .mk (c := (0 + (i : Int), 0 + (j : Int))) (sqL (s06 _ _ el)) (hb.mono s06).all (by omega) (sqT up6) fun H7 sm7 => ?_
        have cc : cellB L W (0 + (i : Int), 0 + (j : Int)) = true := by
          unfold cellB
          simp only [Bool.and_eq_true, decide_eq_true_eq]
          omega
        walk_at "rd"
        refine iteNe (fun c => ?_) (fun c => ?_)
        · walk_at "rd"
          refine iteEq (fun d => ?_) (fun d => ?_)
          · walk_at "rd"
            intro t8 ht8
            generalize hH8 : upd H7 t8 _ = H8
            obtain ⟨sm8, up8⟩ : Same H7 H8 ∧ H8 t8 = some (.tup (cellV (0 + (i : Int), 0 + (j : Int)))) := newH hH8 ht8
            clear hH8
            refine ⟨_, rfl, fun p9 H9 np9 sm9 ha9 => ?_⟩
            refine q p9 H9 (.bare (0 + (i : Int), 0 + (j : Int))) (s06.trans (sm7.trans (sm8.trans sm9))) (.bare ha9 (sm9 _ _ up8)) ⟨nob, cc, by omega⟩
          · walk_at "rd"
            intro t8 ht8
            generalize hH8 : upd H7 t8 _ = H8
            obtain ⟨sm8, up8⟩ : Same H7 H8 ∧ H8 t8 = some (.tup (cellV (0 + (i : Int), 0 + (j : Int)))) := newH hH8 ht8
            clear hH8
            refine ⟨_, rfl, fun p9 H9 np9 sm9 ha9 => ?_⟩
            refine q p9 H9 (.twice (0 + (i : Int), 0 + (j : Int))) (s06.trans (sm7.trans (sm8.trans sm9))) (.twice ha9 (sm9 _ _ up8)) ⟨nob, cc, by omega⟩
        · refine .mk (sm5.trans (sm6.trans sm7)) fun y h0 h1 => ?_
          by_cases ey : y = (j : Int)
          · subst ey
            have e0 : (0 : Int) + (j : Int) = j := by omega
            rw [e0] at c
            omega
          · exact hb5 y h0 (by omega)
      · rintro _ H5 @⟨_, _, _, _, _, sm5, hb5⟩
        refine .mk (sm4.trans sm5) fun x y h0 h1 h2 h3 => ?_
        by_cases ex : x = (i : Int)
        · subst ex
          have := hb5 y h2 (by omega)
          rw [show (0 : Int) + (i : Int) = i by omega] at this
          exact this
        · exact ha4 x y h0 (by omega) h2 h3
    · rintro _ H4 @⟨_, _, _, _, _, _, sm4, ha4⟩
      refine fun p9 H9 np9 sm9 ha9 => q p9 H9 .full (s03.trans (sm4.trans sm9)) (.full ha9) ⟨nob, fun c hc => ?_⟩
      obtain ⟨x, y⟩ := c
      unfold cellB at hc
      simp only [Bool.and_eq_true, decide_eq_true_eq] at hc
      exact ha4 x y (by omega) (by omega) (by omega) (by omega)
end
end BF

/-! ### a hundred bricks, one fault -/
namespace BF
def gb (i : Nat) : Brick := ⟨(i : Int) % 20, (i : Int) / 20 * 4, true⟩
def gL : List Brick := (List.range 100).map gb
theorem gL_len : gL.length = 100 := by
  unfold gL
  rw [List.length_map, List.length_range]
theorem gL_at {a : Nat} (h : a < 100) : gL[a]? = some (gb a) := by
  unfold gL
  rw [List.getElem?_map, List.getElem?_range h]
  rfl
theorem gL_full : fullB 20 20 1 4 gL = true := by decide +kernel
theorem gL_in : gL.any (beyB 20 20 1 4) = false := by decide +kernel
theorem gL_one {c : Int × Int} (h : cellB 20 20 c = true) : oftN 1 4 gL c = 1 := by
  have e := gL_full
  unfold fullB at e
  rw [Bool.and_eq_true] at e
  exact of_decide_eq_true (List.all_eq_true.mp e.2 c ((mem_grid (by decide) (by decide)).mpr h))
theorem oft_app (f s : Int) (xs ys : List Brick) (c : Int × Int) : oftN f s (xs ++ ys) c = oftN f s xs c + oftN f s ys c := by
  unfold oftN
  rw [List.filter_append, List.length_append]
theorem oft_sing (f s : Int) (b : Brick) (c : Int × Int) : oftN f s [b] c = if covB f s c b then 1 else 0 := by
  unfold oftN
  rw [List.filter_cons]
  split <;> rfl
theorem split_at {α : Type} {xs : List α} {a : Nat} {x : α} (h : xs[a]? = some x) : xs = xs.take a ++ ([x] ++ xs.drop (a + 1)) := by
  obtain ⟨hl, e⟩ := List.getElem?_eq_some_iff.mp h
  have z := (List.take_append_drop a xs).symm
  rw [List.drop_eq_getElem_cons hl, e] at z
  exact z
theorem oft_gone {f s : Int} {xs : List Brick} {a : Nat} {b : Brick} (h : xs[a]? = some b) (c : Int × Int) : oftN f s (xs.take a ++ xs.drop (a + 1)) c + (if covB f s c b then 1 else 0) = oftN f s xs c := by
  have e : oftN f s xs c = oftN f s (xs.take a ++ ([b] ++ xs.drop (a + 1))) c := congrArg (fun l => oftN f s l c) (split_at h)
  rw [oft_app, oft_app, oft_sing] at e
  rw [oft_app, e]
  omega
theorem gb_cov {a : Nat} {c : Int × Int} : covB 1 4 c (gb a) = true ↔ c.1 = (gb a).x ∧ (gb a).y ≤ c.2 ∧ c.2 < (gb a).y + 4 := by
  unfold covB Brick.lo Brick.hi
  simp only [Bool.and_eq_true, decide_eq_true_eq, show (gb a).l = true from rfl, if_true]
  omega
theorem gb_cell {a : Nat} (h : a < 100) : cellB 20 20 ((gb a).x, (gb a).y) = true := by
  unfold cellB gb
  simp only [Bool.and_eq_true, decide_eq_true_eq]
  omega
theorem gb_self (a : Nat) : covB 1 4 ((gb a).x, (gb a).y) (gb a) = true := gb_cov.mpr ⟨rfl, Int.le_refl _, by omega⟩
theorem any_gone {a : Nat} : (gL.take a ++ gL.drop (a + 1)).any (beyB 20 20 1 4) = false := by
  rw [List.any_eq_false]
  intro b hb
  have e := List.any_eq_false.mp gL_in b
  rcases List.mem_append.mp hb with z | z
  · exact e (List.mem_of_mem_take z)
  · exact e (List.mem_of_mem_drop z)
theorem isj_gone {a : Nat} (h : a < 100) {d : D5} (j : IsJ 20 20 1 4 (gL.take a ++ gL.drop (a + 1)) d) : ∃ c, d = .bare c ∧ cellB 20 20 c = true ∧ covB 1 4 c (gb a) = true := by
  have g := fun c => oft_gone (f := 1) (s := 4) (gL_at h) c
  cases d with
  | beyond i => exact absurd (beyAt_any j) (by rw [any_gone]; decide)
  | full =>
    have z := j.2 _ (gb_cell h)
    have y := g ((gb a).x, (gb a).y)
    rw [gL_one (gb_cell h), if_pos (gb_self a)] at y
    omega
  | twice c =>
    have y := g c
    rw [gL_one j.2.1] at y
    have := j.2.2
    omega
  | bare c =>
    refine ⟨c, rfl, j.2.1, ?_⟩
    have y := g c
    rw [gL_one j.2.1, j.2.2] at y
    cases e : covB 1 4 c (gb a) with
    | true => rfl
    | false => rw [e] at y; exact nomatch y
theorem isj_twice {a : Nat} (h : a < 100) {d : D5} (j : IsJ 20 20 1 4 (gL ++ [gb a]) d) : ∃ c, d = .twice c ∧ cellB 20 20 c = true ∧ covB 1 4 c (gb a) = true := by
  have g : ∀ c, oftN 1 4 (gL ++ [gb a]) c = oftN 1 4 gL c + if covB 1 4 c (gb a) then 1 else 0 := fun c => by rw [oft_app, oft_sing]
  have nb : (gL ++ [gb a]).any (beyB 20 20 1 4) = false := by
    rw [List.any_append, gL_in, Bool.false_or]
    have e := List.any_eq_false.mp gL_in (gb a) (List.mem_of_getElem? (gL_at h))
    simpa using e
  cases d with
  | beyond i => exact absurd (beyAt_any j) (by rw [nb]; decide)
  | full =>
    have z := j.2 _ (gb_cell h)
    rw [g, gL_one (gb_cell h), if_pos (gb_self a)] at z
    exact nomatch z
  | bare c =>
    have z := j.2.2
    rw [g, gL_one j.2.1] at z
    omega
  | twice c =>
    refine ⟨c, rfl, j.2.1, ?_⟩
    have y := j.2.2
    rw [g, gL_one j.2.1] at y
    cases e : covB 1 4 c (gb a) with
    | true => rfl
    | false => rw [e] at y; exact absurd y (by decide)
theorem bey_split {xs ys : List Brick} {b : Brick} {L W f s i : Int} (hx : xs.any (beyB L W f s) = false) (hy : ys.any (beyB L W f s) = false) (h : beyAt L W f s (xs ++ b :: ys) i = true) : i = xs.length := by
  unfold beyAt at h
  simp only [Bool.and_eq_true, decide_eq_true_eq] at h
  obtain ⟨⟨h0, h1⟩, h2⟩ := h
  obtain ⟨n, rfl⟩ := Int.eq_ofNat_of_zero_le h0
  rw [Int.toNat_natCast] at h2
  rcases Nat.lt_trichotomy n xs.length with c | c | c
  · rw [List.getElem?_append_left c, List.getElem?_eq_getElem c] at h2
    exact absurd h2 (List.any_eq_false.mp hx _ (List.getElem_mem c))
  · rw [c]
  · rw [List.getElem?_append_right (by omega)] at h2
    obtain ⟨k, hk⟩ : ∃ k, n - xs.length = k + 1 := ⟨n - xs.length - 1, by omega⟩
    rw [hk, List.getElem?_cons_succ] at h2
    cases e : ys[k]? with
    | none => rw [e] at h2; exact nomatch h2
    | some z =>
      rw [e] at h2
      exact absurd h2 (List.any_eq_false.mp hy _ (List.mem_of_getElem? e))
theorem isj_bey1 {xs ys : List Brick} {b : Brick} {L W f s : Int} {d : D5} (hx : xs.any (beyB L W f s) = false) (hy : ys.any (beyB L W f s) = false) (hb : beyB L W f s b = true) (j : IsJ L W f s (xs ++ b :: ys) d) : d = .beyond xs.length := by
  have an : (xs ++ b :: ys).any (beyB L W f s) = true := by
    rw [List.any_append, List.any_cons, hb, Bool.true_or, Bool.or_true]
  cases d with
  | beyond i => rw [bey_split hx hy j]
  | full => exact absurd j.1 (by rw [an]; decide)
  | bare c => exact absurd j.1 (by rw [an]; decide)
  | twice c => exact absurd j.1 (by rw [an]; decide)
end BF

/-! ### stripes.py -/
namespace BF
open PySem PySem.Spec PyProof.Rows L2
theorem pairs_ifs (l h t : Int) : (if (if l - 1 < t then l - 1 else t) - (if t - h + 1 > 0 then t - h + 1 else 0) + 1 > 0 then (if l - 1 < t then l - 1 else t) - (if t - h + 1 > 0 then t - h + 1 else 0) + 1 else 0) = pairsI l h t := by
  unfold pairsI
  split <;> split <;> split <;> omega
inductive SpPairs : Sp where
  | mk {l h t : Int} {H : Hp} {Q : VK} {E : XK} (q : Q (.int (pairsI l h t)) H) : SpPairs [.int l, .int h, .int t] H Q E
inductive SpAlike : Sp where
  | mk {L W s c : Int} {H : Hp} {Q : VK} {E : XK} (hL : Sz L) (hW : Sz W) (hs : Sz s) (h0 : 0 ≤ c) (h1 : c < s) (q : ∀ H', Same H H' → Q (.int (alikeI L W s c)) H') : SpAlike [.int L, .int W, .int s, .int c] H Q E
section
variable {P : Program} {w : World} {K : PySem.W.Frag} {mg : Str → Option Value} {base : Heap}
theorem H_pairs_to (p : Pl K mg "pairs_to" s_pairs_to) (B : Bi mg) : Has P w K mg base CX0 1 "pairs_to" ["long", "high", "sum_wanted"] SpPairs := by
  refine p.mk0 sc_pairs_to (fun _ _ _ _ _ _ us hl => match us, hl with | [_, _, _], _ => rfl) (fun vs H Q E h => ?_) (fun f cdv A outer s H vs Q E hr h => ?_)
  · cases h; rfl
  · obtain @⟨l, hh, t, _, _, _, q⟩ := h
    refine ⟨_, (pss_one (ps_ret (pe_callB (call_max2 rfl) (by rfl) B.max (by decide +kernel) (pa_cons pe_int (pa_cons (pe_op op_add (pe_op op_sub (pe_callB (call_min2 rfl) (by rfl) B.min (by decide +kernel) (pa_cons (pv 2) (pa_cons (pe_op op_sub (pv 0) pe_int) pa_nil))) (pe_callB (call_max2 rfl) (by rfl) B.max (by decide +kernel) (pa_cons pe_int (pa_cons (pe_op op_add (pe_op op_sub (pv 2) (pv 1)) pe_int) pa_nil)))) pe_int) pa_nil))))), ?_⟩
    refine ⟨_, rfl, _, rfl, _, _, rfl, rfl, _, _, rfl, ?_⟩
    refine ⟨_, rfl, _, rfl, _, _, rfl, rfl, _, _, rfl, rfl, _, _, rfl, _, _, rfl, rfl, _, _, rfl, rfl, _, _, rfl, ?_⟩
    rw [← pairs_ifs l hh t] at q
    exact q
theorem H_alike (p : Pl K mg "alike" s_alike) (h_check_sizes : Has P w K mg base CX0 2 "check_sizes" ["some"] (SpCheckSizes K)) (h_is_number : Has P w K mg base CX0 1 "is_number" ["thing"] (SpIsNumber K))
    (h_pairs_to : Has P w K mg base CX0 1 "pairs_to" ["long", "high", "sum_wanted"] SpPairs) : Has P w K mg base CX0 3 "alike" ["length", "width", "size", "colour"] SpAlike := by
  refine p.mk0 sc_alike (fun _ _ _ _ _ _ us hl => match us, hl with | [_, _, _, _], _ => rfl) (fun vs H Q E h => ?_) (fun f cdv A outer s H vs Q E hr h => ?_)
  · cases h; rfl
  · obtain @⟨L, W, sz, c, _, _, _, hL, hW, hs, h0, h1, q⟩ := h
    refine ⟨_, (pss_cons (ps_expr (pe_fn h_check_sizes (hr.mono (by decide)) pass0 (pa_cons (pe_lst (pa_cons (pv 0) (pa_cons (pv 1) (pa_cons (pv 2) pa_nil)))) pa_nil)))
      (pss_cons (ps_if (PW.pt (pw_or (pt_not (pt_val (pe_fn h_is_number (hr.mono (by decide)) pass0 (pa_cons (pv 3) pa_nil)))) (pw_or1 (pt_not (pt_chain op_le op_lt pe_int (pv 3) (pv 2)))))) (pss_one ps_never) pss_nil)
      (pss_cons (ps_par (i := 4) (j := 5) (by rfl) sc_alike.nd rfl rfl (by decide) rfl rfl (pa_cons (pe_op op_mod (pv 0) (pv 2)) (pa_cons (pe_op op_mod (pv 1) (pv 2)) pa_nil)) (by rfl))
      (pss_cons (ps_set (i := 6) sc_alike.nd rfl (Or.inl rfl) (pe_op op_add (pe_op op_mulX (pe_op op_fdivW (pv 0) (pv 2)) (pv 1)) (pe_op op_mulX (pv 4) (pe_op op_fdivW (pv 1) (pv 2)))))
      (pss_one (ps_ret (pe_op op_add (pe_op op_add (pv 6) (pe_fn h_pairs_to (hr.mono (by decide)) pass0 (pa_cons (pv 4) (pa_cons (pv 5) (pa_cons (pv 3) pa_nil))))) (pe_fn h_pairs_to (hr.mono (by decide)) pass0 (pa_cons (pv 4) (pa_cons (pv 5) (pa_cons (pe_op op_add (pv 3) (pv 2)) pa_nil))))))))))), ?_⟩
    refine ⟨_, rfl, _, rfl, _, rfl, by show 3 ≤ sizeLine; decide, fun p hp => .mk (ns := [L, W, sz]) (sqL upd_same) ?_ ?_⟩
    · intro n hn
      have e : n = L ∨ n = W ∨ n = sz := by simpa using hn
      rcases e with rfl | rfl | rfl
      · exact hL.pos
      · exact hW.pos
      · exact hs.pos
    · have sm : Same H (upd H p (.lst ([L, W, sz].map V.int))) := same_upd hp
      refine ⟨_, rfl, num_int ⟨true, rfl, iteF ?_⟩⟩
      refine ⟨_, rfl, _, _, rfl, rfl, _, rfl, iteP h0 ⟨_, rfl, _, _, rfl, rfl, _, rfl, iteNP h1 ?_⟩⟩
      have p0 := hs.pos
      have m1 : Bn 2000 (L % sz) := hs.bn.mod p0
      have m2 : Bn 2000 (W % sz) := hs.bn.mod p0
      refine ⟨_, rfl, _, rfl, _, _, rfl, rfl, p0, _, rfl, _, rfl, _, _, rfl, rfl, p0, _, _, rfl, ?_⟩
      refine ⟨_, rfl, _, rfl, _, _, rfl, rfl, hs.bn.divOk p0 (by decide) (by decide), _, rfl, _, _, rfl, rfl, (hL.bn.div p0).mulOk hW.bn (by decide), ?_⟩
      refine ⟨_, rfl, _, rfl, _, rfl, _, _, rfl, rfl, hs.bn.divOk p0 (by decide) (by decide), _, _, rfl, rfl, m1.mulOk (hW.bn.div p0) (by decide), _, _, rfl, rfl, ?_⟩
      refine ⟨_, rfl, _, rfl, _, rfl, _, rfl, .mk ⟨_, _, rfl, rfl, ?_⟩⟩
      exact ⟨_, rfl, _, rfl, _, rfl, _, rfl, _, _, rfl, rfl, .mk ⟨_, _, rfl, rfl, q _ sm⟩⟩
end
end BF

namespace BF
open PySem PySem.Spec PyProof.Rows L2
section
variable {P : Program} {w : World} {K : PySem.W.Frag} {mg : Str → Option Value} {base : Heap}
theorem H_sum_of (p : Pl K mg "sum_of" s_sum_of) (h_check_sizes : Has P w K mg base CX0 2 "check_sizes" ["some"] (SpCheckSizes K)) (h_parts_of : Has P w K mg base CX0 2 "parts_of" ["size", "first", "second"] SpParts) :
    Has P w K mg base CX0 3 "sum_of" ["size", "first", "second"] SpParts := by
  refine p.mk0 sc_sum_of (fun _ _ _ _ _ _ us hl => match us, hl with | [_, _, _], _ => rfl) (fun vs H Q E h => ?_) (fun f cdv A outer s H vs Q E hr h => ?_)
  · cases h; rfl
  · obtain @⟨sz, a, b, _, _, _, hs, ha, hb, q⟩ := h
    refine ⟨_, (pss_cons (ps_expr (pe_fn h_check_sizes (hr.mono (by decide)) pass0 (pa_cons (pe_lst (pa_cons (pv 0) (pa_cons (pv 1) (pa_cons (pv 2) pa_nil)))) pa_nil)))
      (pss_one (ps_ret (pe_fn h_parts_of (hr.mono (by decide)) pass0 (pa_cons (pv 0) (pa_cons (pv 1) (pa_cons (pv 2) pa_nil))))))), ?_⟩
    refine ⟨_, rfl, _, rfl, _, rfl, by show 3 ≤ sizeLine; decide, fun p hp => .mk (ns := [sz, a, b]) (sqL upd_same) ?_ ?_⟩
    · intro n hn
      have e : n = sz ∨ n = a ∨ n = b := by simpa using hn
      rcases e with rfl | rfl | rfl
      · exact hs.pos
      · exact ha.pos
      · exact hb.pos
    · exact ⟨_, rfl, _, rfl, _, rfl, .mk hs ha hb (q.mono (same_upd hp))⟩
end
end BF

/-! ### sums of two sizes without a common part -/
namespace BF
def Cop (a b : Int) : Prop := ∃ u v : Int, u * a + v * b = 1
theorem Cop.symm {a b : Int} (h : Cop a b) : Cop b a := by
  obtain ⟨u, v, e⟩ := h
  exact ⟨v, u, by omega⟩
theorem Cop.step {a b : Int} (h : Cop a b) : Cop b (a + b) := by
  obtain ⟨u, v, e⟩ := h
  refine ⟨v - u, u, ?_⟩
  rw [Int.sub_mul, Int.mul_add]
  omega
theorem cop_dvd {a b x : Int} (h : Cop a b) (d : b ∣ x * a) : b ∣ x := by
  obtain ⟨u, v, e⟩ := h
  obtain ⟨k, hk⟩ := d
  refine ⟨u * k + x * v, ?_⟩
  have e1 : x = x * (u * a + v * b) := by rw [e, Int.mul_one]
  have e2 : x * (u * a) = b * (u * k) := by rw [← Int.mul_assoc, Int.mul_comm x u, Int.mul_assoc, hk, ← Int.mul_assoc, ← Int.mul_assoc, Int.mul_comm u b]
  have e3 : x * (v * b) = b * (x * v) := by rw [← Int.mul_assoc, Int.mul_comm]
  rw [Int.mul_add] at e1
  rw [Int.mul_add]
  omega
theorem frob_none {a b : Int} (ha : 0 < a) (hb : 0 < b) (co : Cop a b) (m n : Int) : ¬ Rep (a * b - a - b) a b m n := by
  rintro ⟨h1, h2, h3⟩
  have e : (m + 1) * a = b * (a - (n + 1)) := by
    rw [Int.add_mul, Int.mul_sub, Int.mul_add, Int.one_mul, Int.mul_one, Int.mul_comm b a, Int.mul_comm b n]
    omega
  obtain ⟨k, hk⟩ := cop_dvd co ⟨_, e⟩
  have k1 : 0 < k := by
    rcases Int.lt_or_le 0 k with z | z
    · exact z
    · have := Int.mul_nonpos_of_nonneg_of_nonpos (Int.le_of_lt hb) z
      omega
  have g : b * 1 ≤ b * k := Int.mul_le_mul_of_nonneg_left (by omega) (by omega)
  have g2 : b * a ≤ (m + 1) * a := Int.mul_le_mul_of_nonneg_right (by omega) (by omega)
  have g3 : 0 ≤ n * b := Int.mul_nonneg h2 (by omega)
  rw [Int.add_mul, Int.one_mul, Int.mul_comm b a] at g2
  omega
theorem frob_some {a b x : Int} (ha : 0 < a) (hb : 0 < b) (co : Cop a b) (hx : a * b - a - b < x) : ∃ m n, Rep x a b m n ∧ m < b := by
  obtain ⟨u, v, e⟩ := co
  have m0 := Int.emod_nonneg (x * u) (Int.ne_of_gt hb)
  have m1 := Int.emod_lt_of_pos (x * u) hb
  have dm := Int.emod_add_mul_ediv (x * u) b
  generalize x * u % b = m at m0 m1 dm
  generalize x * u / b = k at dm
  have e1 : x = x * (u * a + v * b) := by rw [e, Int.mul_one]
  have e2 : x - m * a = (x * v + k * a) * b := by
    have : x * (u * a) = m * a + b * k * a := by rw [← Int.mul_assoc, ← dm, Int.add_mul]
    rw [Int.mul_add, this, ← Int.mul_assoc] at e1
    rw [Int.add_mul, show k * a * b = b * k * a by rw [Int.mul_comm (k * a) b, Int.mul_assoc]]
    omega
  generalize x * v + k * a = n at e2
  refine ⟨m, n, ⟨m0, ?_, by omega⟩, m1⟩
  have g : m * a ≤ (b - 1) * a := Int.mul_le_mul_of_nonneg_right (by omega) (by omega)
  rw [Int.sub_mul, Int.one_mul, Int.mul_comm b a] at g
  have h : -b < n * b := by omega
  rcases Int.lt_or_le n 0 with z | z
  · have := Int.mul_le_mul_of_nonneg_right (show n ≤ -1 by omega) (show 0 ≤ b by omega)
    omega
  · exact z
theorem parts_frob {a b : Int} (ha : 0 < a) (hb : 0 < b) (co : Cop a b) : parts (a * b - a - b) a b = none := parts_eq hb fun m n => frob_none ha hb co m n
theorem parts_over {a b x : Int} (ha : 0 < a) (hb : 0 < b) (co : Cop a b) (hx : a * b - a - b < x) : ∃ m n, parts x a b = some (m, n) ∧ m * a + n * b = x ∧ 0 ≤ m ∧ m < b ∧ 0 ≤ n := by
  have p := parts_is (s := x) ha hb
  obtain ⟨m, n, r, l⟩ := frob_some ha hb co hx
  cases e : parts x a b with
  | none =>
    rw [e] at p
    exact absurd r (p m n)
  | some y =>
    rw [e] at p
    have := p.2 m n r
    exact ⟨y.1, y.2, rfl, p.1.2.2, p.1.1, by omega, p.1.2.1⟩
theorem parts_both {a b : Int} (ha : 0 < a) (hb : 0 < b) : parts (a * b) a b = some (0, a) := parts_eq hb ⟨⟨Int.le_refl _, Int.le_of_lt ha, by rw [Int.zero_mul, Int.zero_add]⟩, fun m n r => r.1⟩
end BF

/-! ### what are no sizes is refused -/
namespace BF
open PySem PySem.Spec PyProof.Rows L2
/-- a thing and its type -/
inductive Kd (H : Hp) : V → String → Prop where
  | int (n : Int) : Kd H (.int n) "int"
  | bl (b : Bool) : Kd H (.bl b) "bool"
  | non : Kd H .non "NoneType"
  | str (x : Str) : Kd H (.str x) "str"
  | lst {a : Addr} {xs : List V} (h : H a = some (.lst xs)) : Kd H (.ref a) "list"
  | tup {a : Addr} {xs : List V} (h : H a = some (.tup xs)) : Kd H (.ref a) "tuple"
  | dct {a : Addr} {kvs : List (List Key × V)} (h : H a = some (.dT kvs)) : Kd H (.ref a) "dict"
theorem Kd.mono {H H' : Hp} {v : V} {T : String} (h : Kd H v T) (sm : Same H H') : Kd H' v T := by
  cases h with
  | int n => exact .int n
  | bl b => exact .bl b
  | non => exact .non
  | str x => exact .str x
  | lst h => exact .lst (sm _ _ h)
  | tup h => exact .tup (sm _ _ h)
  | dct h => exact .dct (sm _ _ h)
theorem Kd.ty {K : PySem.W.Frag} {H : Hp} {v : V} {T : String} (h : Kd H v T) : TyX K H v (.type T) := by
  cases h with
  | int n => exact .base (.int n)
  | bl b => exact .base (.bl b)
  | non => exact .base .non
  | str x => exact .base (.str x)
  | lst h => exact .base (.lst h)
  | tup h => exact .base (.tup h)
  | dct h => exact .base (.dT h)
theorem Kd.kit {H : Hp} {v : V} {T : String} (h : Kd H v T) : (∃ i b, kitB T "int" = some i ∧ kitB T "bool" = some b ∧ (i && !b) = decide (T = "int")) ∧ kitB T "tuple" = some (decide (T = "tuple")) ∧ kitB T "list" = some (decide (T = "list")) ∧ kitB T "bool" = some (decide (T = "bool")) := by
  cases h with
  | int n => exact ⟨⟨true, false, by decide +kernel, by decide +kernel, by decide +kernel⟩, by decide +kernel, by decide +kernel, by decide +kernel⟩
  | bl b => exact ⟨⟨true, true, by decide +kernel, by decide +kernel, by decide +kernel⟩, by decide +kernel, by decide +kernel, by decide +kernel⟩
  | non => exact ⟨⟨false, false, by decide +kernel, by decide +kernel, by decide +kernel⟩, by decide +kernel, by decide +kernel, by decide +kernel⟩
  | str x => exact ⟨⟨false, false, by decide +kernel, by decide +kernel, by decide +kernel⟩, by decide +kernel, by decide +kernel, by decide +kernel⟩
  | lst h => exact ⟨⟨false, false, by decide +kernel, by decide +kernel, by decide +kernel⟩, by decide +kernel, by decide +kernel, by decide +kernel⟩
  | tup h => exact ⟨⟨false, false, by decide +kernel, by decide +kernel, by decide +kernel⟩, by decide +kernel, by decide +kernel, by decide +kernel⟩
  | dct h => exact ⟨⟨false, false, by decide +kernel, by decide +kernel, by decide +kernel⟩, by decide +kernel, by decide +kernel, by decide +kernel⟩
theorem kd_num {K : PySem.W.Frag} {H : Hp} {v : V} {T : String} {Q : VK} {E : XK} (h : Kd H v T) (q : Q (.bl (decide (T = "int"))) H) : SpIsNumber K [v] H Q E := by
  obtain ⟨⟨i, b, h1, h2, h3⟩, _⟩ := h.kit
  refine .mk h.ty h1 h2 ?_
  rw [h3]
  exact q
inductive BadS (H : Hp) : V → Prop where
  | low {n : Int} (h : n < 1) : BadS H (.int n)
  | kd {v : V} {T : String} (h : Kd H v T) (hn : T ≠ "int") : BadS H v
theorem BadS.mono {H H' : Hp} {v : V} (h : BadS H v) (sm : Same H H') : BadS H' v := by
  cases h with
  | low h => exact .low h
  | kd h hn => exact .kd (h.mono sm) hn
/-- the first that is no size -/
inductive BadL (H : Hp) : List V → Prop where
  | here {v : V} {xs : List V} (h : BadS H v) : BadL H (v :: xs)
  | next {n : Int} {xs : List V} (h0 : 0 < n) (h : BadL H xs) : BadL H (.int n :: xs)
theorem BadL.mono {H H' : Hp} {xs : List V} (h : BadL H xs) (sm : Same H H') : BadL H' xs := by
  induction h with
  | here h => exact .here (h.mono sm)
  | next h0 _ ih => exact .next h0 ih
inductive SpCheckX (K : PySem.W.Frag) : Sp where
  | mk {a : Addr} {xs : List V} {H : Hp} {Q : VK} {E : XK} (hS : H a = some (.lst xs)) (hb : BadL H xs) (q : E (.ref (er K .size)) none H) : SpCheckX K [.ref a] H Q E
/-- n sizes, one of them bad; m more things -/
inductive SpSz (K : PySem.W.Frag) (n m : Nat) : Sp where
  | mk {xs ys : List V} {H : Hp} {Q : VK} {E : XK} (hx : xs.length = n) (hy : ys.length = m) (hb : BadL H xs) (q : ∀ H', Same H H' → E (.ref (er K .size)) none H') : SpSz K n m (xs ++ ys) H Q E
theorem pss_no {X : Cx} {ss : List Stmt} : PSs X ss (fun _ _ _ => False) := ⟨fun _ _ _ _ _ _ h => h.elim⟩
inductive BadI (a : Addr) (xs : List V) (H : Hp) (i : Nat) : L2.St → Hp → Prop where
  | mk {y : Option V} (h : BadL H (xs.drop i)) : BadI a xs H i [some (.ref a), y] H
theorem BadL.ne {H : Hp} {xs : List V} (h : BadL H xs) : xs ≠ [] := by
  cases h <;> intro z <;> cases z
section
variable {P : Program} {w : World} {K : PySem.W.Frag} {mg : Str → Option Value} {base : Heap}
theorem HX_check_sizes (p : Pl K mg "check_sizes" s_check_sizes) (GE : ErG K mg) (h_is_number : Has P w K mg base CX0 1 "is_number" ["thing"] (SpIsNumber K)) : Has P w K mg base (CXN P w) 2 "check_sizes" ["some"] (SpCheckX K) := by
  refine p.mkX sc_check_sizes (fun _ _ _ _ _ _ us hl => match us, hl with | [_], _ => rfl) (fun vs H Q E h => ?_) (fun f cdv A outer s H vs Q E hr h => ?_)
  · cases h; rfl
  · obtain @⟨a, xs, _, _, _, hS, hb, q⟩ := h
    refine ⟨_, (pss_one (ps_for (passes_of rfl) (by rfl) (pi_list (pv 0)) (pg_name (i := 1) sc_check_sizes.nd rfl (Or.inl rfl)) (pss_one (ps_if (PW.pt (pw_or (pt_not (pt_val (pe_fn h_is_number (hr.mono (by decide)) pass0 (pa_cons (pv 1) pa_nil)))) (pw_or1 (pt_cmpR op_lt (pv 1) pe_int (nomark _))))) (pss_one (L2N.ps_raise rfl (L2N.takes_of rfl rfl rfl rfl) (pmk_err (e := .size) GE rfl))) pss_nil)))), ?_⟩
    refine ⟨_, rfl, a, rfl, ⟨_, sqL hS⟩, for_list (K := K) (a := a) (xs := xs) (fun i σ H' => BadI a xs H i σ H') (.mk hb) ?_ ?_ ?_⟩
    · rintro i σ H' _ ⟨_⟩
      exact sqL hS
    · rintro i y σ _ hi ⟨h⟩
      have hlt := (List.getElem?_eq_some_iff.mp hi).1
      have ed : xs.drop i = y :: xs.drop (i + 1) := by
        rw [List.drop_eq_getElem_cons hlt, (List.getElem?_eq_some_iff.mp hi).2]
      rw [ed] at h
      cases h with
      | here hb =>
        cases hb with
        | low hn =>
          refine ⟨_, rfl, num_int ⟨_, rfl, iteF ⟨_, rfl, _, _, rfl, rfl, _, rfl, ?_⟩⟩⟩
          exact iteP hn q
        | kd hk hn =>
          refine ⟨_, rfl, kd_num hk ⟨_, rfl, ?_⟩⟩
          rw [decide_eq_false hn]
          exact iteT (iteT q)
      | @next n _ h0 h =>
        refine ⟨_, rfl, num_int ⟨_, rfl, iteF ⟨_, rfl, _, _, rfl, rfl, _, rfl, ?_⟩⟩⟩
        exact iteN (show ¬ n < 1 by omega) (.mk h)
    · rintro σ _ ⟨h⟩
      rw [List.drop_length] at h
      exact absurd rfl h.ne
theorem HX_told (p : Pl K mg "told" s_told) (hx_check_sizes : Has P w K mg base (CXN P w) 2 "check_sizes" ["some"] (SpCheckX K)) : Has P w K mg base (CXN P w) 3 "told" ["length", "width", "first", "second"] (SpSz K 4 0) := by
  refine p.mkX sc_told (fun _ _ _ _ _ _ us hl => match us, hl with | [_, _, _, _], _ => rfl) (fun vs H Q E h => ?_) (fun f cdv A outer s H vs Q E hr h => ?_)
  · cases h with
    | mk hx hy => rw [List.length_append, hx, hy]; rfl
  · obtain @⟨xs, ys, _, _, _, hx, hy, hb, q⟩ := h
    refine ⟨_, (pss_cons (ps_expr (pe_fn hx_check_sizes (hr.mono (by decide)) (L2N.passes_call (L2N.takes_of rfl rfl rfl rfl) (fun _ _ _ _ h => h)) (pa_cons (pe_lst (pa_cons (pv 0) (pa_cons (pv 1) (pa_cons (pv 2) (pa_cons (pv 3) pa_nil))))) pa_nil)))
      pss_no), ?_⟩
    match xs, ys, hx, hy with
    | [x0, x1, x2, x3], [], _, _ =>
      walk_at "rd"
      intro l hl
      generalize hH1 : upd H l _ = H1
      obtain ⟨sm1, up1⟩ : Same H H1 ∧ H1 l = some (.lst [x0, x1, x2, x3]) := newH hH1 hl
      clear hH1
      exact .mk up1 (hb.mono sm1) (q _ sm1)
theorem HXS_check_laid (p : Pl K mg "check_laid" s_check_laid) (hx_check_sizes : Has P w K mg base (CXN P w) 2 "check_sizes" ["some"] (SpCheckX K)) : Has P w K mg base (CXN P w) 3 "check_laid" ["length", "width", "first", "second"] (SpSz K 4 0) := by
  refine p.mkX sc_check_laid (fun _ _ _ _ _ _ us hl => match us, hl with | [_, _, _, _], _ => rfl) (fun vs H Q E h => ?_) (fun f cdv A outer s H vs Q E hr h => ?_)
  · cases h with
    | mk hx hy => rw [List.length_append, hx, hy]; rfl
  · obtain @⟨xs, ys, _, _, _, hx, hy, hb, q⟩ := h
    refine ⟨_, (pss_cons (ps_expr (pe_fn hx_check_sizes (hr.mono (by decide)) (L2N.passes_call (L2N.takes_of rfl rfl rfl rfl) (fun _ _ _ _ h => h)) (pa_cons (pe_lst (pa_cons (pv 0) (pa_cons (pv 1) (pa_cons (pv 2) (pa_cons (pv 3) pa_nil))))) pa_nil)))
      pss_no), ?_⟩
    match xs, ys, hx, hy with
    | [x0, x1, x2, x3], [], _, _ =>
      walk_at "rd"
      intro l hl
      generalize hH1 : upd H l _ = H1
      obtain ⟨sm1, up1⟩ : Same H H1 ∧ H1 l = some (.lst [x0, x1, x2, x3]) := newH hH1 hl
      clear hH1
      exact .mk up1 (hb.mono sm1) (q _ sm1)
theorem HXS_judged (p : Pl K mg "judged" s_judged) (hx_check_sizes : Has P w K mg base (CXN P w) 2 "check_sizes" ["some"] (SpCheckX K)) : Has P w K mg base (CXN P w) 3 "judged" ["length", "width", "first", "second", "bricks"] (SpSz K 4 1) := by
  refine p.mkX sc_judged (fun _ _ _ _ _ _ us hl => match us, hl with | [_, _, _, _, _], _ => rfl) (fun vs H Q E h => ?_) (fun f cdv A outer s H vs Q E hr h => ?_)
  · cases h with
    | mk hx hy => rw [List.length_append, hx, hy]; rfl
  · obtain @⟨xs, ys, _, _, _, hx, hy, hb, q⟩ := h
    refine ⟨_, (pss_cons (ps_expr (pe_fn hx_check_sizes (hr.mono (by decide)) (L2N.passes_call (L2N.takes_of rfl rfl rfl rfl) (fun _ _ _ _ h => h)) (pa_cons (pe_lst (pa_cons (pv 0) (pa_cons (pv 1) (pa_cons (pv 2) (pa_cons (pv 3) pa_nil))))) pa_nil)))
      pss_no), ?_⟩
    match xs, ys, hx, hy with
    | [x0, x1, x2, x3], [y0], _, _ =>
      walk_at "rd"
      intro l hl
      generalize hH1 : upd H l _ = H1
      obtain ⟨sm1, up1⟩ : Same H H1 ∧ H1 l = some (.lst [x0, x1, x2, x3]) := newH hH1 hl
      clear hH1
      exact .mk up1 (hb.mono sm1) (q _ sm1)
theorem HXS_sum_of (p : Pl K mg "sum_of" s_sum_of) (hx_check_sizes : Has P w K mg base (CXN P w) 2 "check_sizes" ["some"] (SpCheckX K)) : Has P w K mg base (CXN P w) 3 "sum_of" ["size", "first", "second"] (SpSz K 3 0) := by
  refine p.mkX sc_sum_of (fun _ _ _ _ _ _ us hl => match us, hl with | [_, _, _], _ => rfl) (fun vs H Q E h => ?_) (fun f cdv A outer s H vs Q E hr h => ?_)
  · cases h with
    | mk hx hy => rw [List.length_append, hx, hy]; rfl
  · obtain @⟨xs, ys, _, _, _, hx, hy, hb, q⟩ := h
    refine ⟨_, (pss_cons (ps_expr (pe_fn hx_check_sizes (hr.mono (by decide)) (L2N.passes_call (L2N.takes_of rfl rfl rfl rfl) (fun _ _ _ _ h => h)) (pa_cons (pe_lst (pa_cons (pv 0) (pa_cons (pv 1) (pa_cons (pv 2) pa_nil)))) pa_nil)))
      pss_no), ?_⟩
    match xs, ys, hx, hy with
    | [x0, x1, x2], [], _, _ =>
      walk_at "rd"
      intro l hl
      generalize hH1 : upd H l _ = H1
      obtain ⟨sm1, up1⟩ : Same H H1 ∧ H1 l = some (.lst [x0, x1, x2]) := newH hH1 hl
      clear hH1
      exact .mk up1 (hb.mono sm1) (q _ sm1)
theorem HXS_alike (p : Pl K mg "alike" s_alike) (hx_check_sizes : Has P w K mg base (CXN P w) 2 "check_sizes" ["some"] (SpCheckX K)) : Has P w K mg base (CXN P w) 3 "alike" ["length", "width", "size", "colour"] (SpSz K 3 1) := by
  refine p.mkX sc_alike (fun _ _ _ _ _ _ us hl => match us, hl with | [_, _, _, _], _ => rfl) (fun vs H Q E h => ?_) (fun f cdv A outer s H vs Q E hr h => ?_)
  · cases h with
    | mk hx hy => rw [List.length_append, hx, hy]; rfl
  · obtain @⟨xs, ys, _, _, _, hx, hy, hb, q⟩ := h
    refine ⟨_, (pss_cons (ps_expr (pe_fn hx_check_sizes (hr.mono (by decide)) (L2N.passes_call (L2N.takes_of rfl rfl rfl rfl) (fun _ _ _ _ h => h)) (pa_cons (pe_lst (pa_cons (pv 0) (pa_cons (pv 1) (pa_cons (pv 2) pa_nil)))) pa_nil)))
      pss_no), ?_⟩
    match xs, ys, hx, hy with
    | [x0, x1, x2], [y0], _, _ =>
      walk_at "rd"
      intro l hl
      generalize hH1 : upd H l _ = H1
      obtain ⟨sm1, up1⟩ : Same H H1 ∧ H1 l = some (.lst [x0, x1, x2]) := newH hH1 hl
      clear hH1
      exact .mk up1 (hb.mono sm1) (q _ sm1)
theorem HXS_lying (p : Pl K mg "lying" s_lying) (hx_check_laid : Has P w K mg base (CXN P w) 3 "check_laid" ["length", "width", "first", "second"] (SpSz K 4 0)) : Has P w K mg base (CXN P w) 4 "lying" ["length", "width", "first", "second"] (SpSz K 4 0) := by
  refine p.mkX sc_lying (fun _ _ _ _ _ _ us hl => match us, hl with | [_, _, _, _], _ => rfl) (fun vs H Q E h => ?_) (fun f cdv A outer s H vs Q E hr h => ?_)
  · cases h with
    | mk hx hy => rw [List.length_append, hx, hy]; rfl
  · obtain @⟨xs, ys, _, _, _, hx, hy, hb, q⟩ := h
    refine ⟨_, (pss_cons (ps_expr (pe_fn hx_check_laid (hr.mono (by decide)) (L2N.passes_call (L2N.takes_of rfl rfl rfl rfl) (fun _ _ _ _ h => h)) (pa_cons (pv 0) (pa_cons (pv 1) (pa_cons (pv 2) (pa_cons (pv 3) pa_nil))))))
      pss_no), ?_⟩
    match xs, ys, hx, hy with
    | [x0, x1, x2, x3], [], _, _ =>
      walk_at "rd"
      exact .mk (xs := [x0, x1, x2, x3]) (ys := []) rfl rfl hb q
theorem HXS_standing (p : Pl K mg "standing" s_standing) (hx_lying : Has P w K mg base (CXN P w) 4 "lying" ["length", "width", "first", "second"] (SpSz K 4 0)) : Has P w K mg base (CXN P w) 5 "standing" ["length", "width", "first", "second"] (SpSz K 4 0) := by
  refine p.mkX sc_standing (fun _ _ _ _ _ _ us hl => match us, hl with | [_, _, _, _], _ => rfl) (fun vs H Q E h => ?_) (fun f cdv A outer s H vs Q E hr h => ?_)
  · cases h with
    | mk hx hy => rw [List.length_append, hx, hy]; rfl
  · obtain @⟨xs, ys, _, _, _, hx, hy, hb, q⟩ := h
    refine ⟨_, (pss_cons (ps_set (i := 4) sc_standing.nd rfl (Or.inl rfl) (pe_fn hx_lying (hr.mono (by decide)) (L2N.passes_call (L2N.takes_of rfl rfl rfl rfl) (fun _ _ _ _ h => h)) (pa_cons (pv 0) (pa_cons (pv 1) (pa_cons (pv 2) (pa_cons (pv 3) pa_nil))))))
      pss_no), ?_⟩
    match xs, ys, hx, hy with
    | [x0, x1, x2, x3], [], _, _ =>
      walk_at "rd"
      exact .mk (xs := [x0, x1, x2, x3]) (ys := []) rfl rfl hb q
theorem HXS_brick_on (p : Pl K mg "brick_on" s_brick_on) (hx_check_laid : Has P w K mg base (CXN P w) 3 "check_laid" ["length", "width", "first", "second"] (SpSz K 4 0)) : Has P w K mg base (CXN P w) 4 "brick_on" ["length", "width", "first", "second", "cell"] (SpSz K 4 1) := by
  refine p.mkX sc_brick_on (fun _ _ _ _ _ _ us hl => match us, hl with | [_, _, _, _, _], _ => rfl) (fun vs H Q E h => ?_) (fun f cdv A outer s H vs Q E hr h => ?_)
  · cases h with
    | mk hx hy => rw [List.length_append, hx, hy]; rfl
  · obtain @⟨xs, ys, _, _, _, hx, hy, hb, q⟩ := h
    refine ⟨_, (pss_cons (ps_expr (pe_fn hx_check_laid (hr.mono (by decide)) (L2N.passes_call (L2N.takes_of rfl rfl rfl rfl) (fun _ _ _ _ h => h)) (pa_cons (pv 0) (pa_cons (pv 1) (pa_cons (pv 2) (pa_cons (pv 3) pa_nil))))))
      pss_no), ?_⟩
    match xs, ys, hx, hy with
    | [x0, x1, x2, x3], [y0], _, _ =>
      walk_at "rd"
      exact .mk (xs := [x0, x1, x2, x3]) (ys := []) rfl rfl hb q
end
end BF

/-! ### what are no cells, colours, bricks, and too great floors are refused -/
namespace BF
open PySem PySem.Spec PyProof.Rows L2
inductive BadC (L W : Int) (H : Hp) : V → Prop where
  | kd {v : V} {T : String} (h : Kd H v T) (hn : T ≠ "tuple") : BadC L W H v
  | len {a : Addr} {xs : List V} (h : H a = some (.tup xs)) (hl : xs.length ≠ 2) : BadC L W H (.ref a)
  | fst {a : Addr} {x y : V} {T : String} (h : H a = some (.tup [x, y])) (k : Kd H x T) (hn : T ≠ "int") : BadC L W H (.ref a)
  | snd {a : Addr} {n : Int} {y : V} {T : String} (h : H a = some (.tup [.int n, y])) (k : Kd H y T) (hn : T ≠ "int") : BadC L W H (.ref a)
  | out {a : Addr} {n m : Int} (h : H a = some (.tup [.int n, .int m])) (ho : ¬ ((0 ≤ n ∧ n < L) ∧ 0 ≤ m ∧ m < W)) : BadC L W H (.ref a)
theorem BadC.mono {L W : Int} {H H' : Hp} {v : V} (h : BadC L W H v) (sm : Same H H') : BadC L W H' v := by
  cases h with
  | kd h hn => exact .kd (h.mono sm) hn
  | len h hl => exact .len (sm _ _ h) hl
  | fst h k hn => exact .fst (sm _ _ h) (k.mono sm) hn
  | snd h k hn => exact .snd (sm _ _ h) (k.mono sm) hn
  | out h ho => exact .out (sm _ _ h) ho
inductive SpIsCellN : Sp where
  | mk {L W : Int} {v : V} {H : Hp} {Q : VK} {E : XK} (hb : BadC L W H v) (q : Q (.bl false) H) : SpIsCellN [.int L, .int W, v] H Q E
inductive SpBrickC (K : PySem.W.Frag) : Sp where
  | mk {L W f s : Int} {v : V} {H : Hp} {Q : VK} {E : XK} (hL : Sz L) (hW : Sz W) (hf : Sz f) (hs : Sz s) (fr : Free L W f s) (hb : BadC L W H v) (q : ∀ H', Same H H' → E (.ref (er K .cell)) none H') : SpBrickC K [.int L, .int W, .int f, .int s, v] H Q E
inductive BadK (s : Int) (H : Hp) : V → Prop where
  | kd {v : V} {T : String} (h : Kd H v T) (hn : T ≠ "int") : BadK s H v
  | out {n : Int} (ho : ¬ (0 ≤ n ∧ n < s)) : BadK s H (.int n)
theorem BadK.mono {s : Int} {H H' : Hp} {v : V} (h : BadK s H v) (sm : Same H H') : BadK s H' v := by
  cases h with
  | kd h hn => exact .kd (h.mono sm) hn
  | out ho => exact .out ho
inductive SpColX (K : PySem.W.Frag) : Sp where
  | mk {L W s : Int} {v : V} {H : Hp} {Q : VK} {E : XK} (hL : 0 < L) (hW : 0 < W) (hs : 0 < s) (hb : BadK s H v) (q : ∀ H', Same H H' → E (.ref (er K .colour)) none H') : SpColX K [.int L, .int W, .int s, v] H Q E
/-- a thing, whether it is a brick -/
inductive BrK (H : Hp) : V → Bool → Prop where
  | good {a : Addr} {x y : Int} {l : Bool} (h : H a = some (.tup [.int x, .int y, .bl l])) : BrK H (.ref a) true
  | kd {v : V} {T : String} (h : Kd H v T) (hn : T ≠ "tuple") : BrK H v false
  | len {a : Addr} {xs : List V} (h : H a = some (.tup xs)) (hl : xs.length ≠ 3) : BrK H (.ref a) false
  | trd {a : Addr} {x y z : V} {T : String} (h : H a = some (.tup [x, y, z])) (k : Kd H z T) (hn : T ≠ "bool") : BrK H (.ref a) false
  | fst {a : Addr} {x y : V} {l : Bool} {T : String} (h : H a = some (.tup [x, y, .bl l])) (k : Kd H x T) (hn : T ≠ "int") : BrK H (.ref a) false
  | snd {a : Addr} {n : Int} {y : V} {l : Bool} {T : String} (h : H a = some (.tup [.int n, y, .bl l])) (k : Kd H y T) (hn : T ≠ "int") : BrK H (.ref a) false
theorem BrK.mono {H H' : Hp} {v : V} {b : Bool} (h : BrK H v b) (sm : Same H H') : BrK H' v b := by
  cases h with
  | good h => exact .good (sm _ _ h)
  | kd h hn => exact .kd (h.mono sm) hn
  | len h hl => exact .len (sm _ _ h) hl
  | trd h k hn => exact .trd (sm _ _ h) (k.mono sm) hn
  | fst h k hn => exact .fst (sm _ _ h) (k.mono sm) hn
  | snd h k hn => exact .snd (sm _ _ h) (k.mono sm) hn
inductive SpIsBrickG : Sp where
  | mk {v : V} {b : Bool} {H : Hp} {Q : VK} {E : XK} (hb : BrK H v b) (q : Q (.bl b) H) : SpIsBrickG [v] H Q E
/-- things each a brick or none, one of them none -/
def BrL (H : Hp) (xs : List V) (bs : List Bool) : Prop := xs.length = bs.length ∧ ∀ (i : Nat) (v : V) (b : Bool), xs[i]? = some v → bs[i]? = some b → BrK H v b
theorem BrL.mono {H H' : Hp} {xs : List V} {bs : List Bool} (h : BrL H xs bs) (sm : Same H H') : BrL H' xs bs := ⟨h.1, fun i v b h1 h2 => (h.2 i v b h1 h2).mono sm⟩
inductive BadB (H : Hp) : V → Prop where
  | kd {v : V} {T : String} (h : Kd H v T) (hn : T ≠ "list") : BadB H v
  | lst {a : Addr} {xs : List V} {bs : List Bool} (h : H a = some (.lst xs)) (hl : xs.length ≤ 1000) (hb : BrL H xs bs) (ha : bs.all id = false) : BadB H (.ref a)
theorem BadB.mono' {H H' : Hp} {v : V} (h : BadB H v) (sm : Same H H') : BadB H' v := by
  cases h with
  | kd h hn => exact .kd (h.mono sm) hn
  | lst h hl hb ha => exact .lst (sm _ _ h) hl (hb.mono sm) ha
theorem same_mut2 {H H' : Hp} {F : Addr} {o : HO} (sm : Same H H') (n : H F = none) : Same H (upd H' F o) := fun b u e => by
  rw [upd_ne (ne_of_none e n)]
  exact sm b u e
inductive SpBrX (K : PySem.W.Frag) : Sp where
  | mk {L W f s : Int} {v : V} {H : Hp} {Q : VK} {E : XK} (hL : 0 < L) (hW : 0 < W) (hm : L * W ≤ 400) (hf : 0 < f) (hs : 0 < s) (hb : BadB H v) (q : ∀ H', Same H H' → E (.ref (er K .bricks)) none H') : SpBrX K [.int L, .int W, .int f, .int s, v] H Q E
inductive SpGrX (K : PySem.W.Frag) : Sp where
  | mk {L W f s : Int} {v : V} {H : Hp} {Q : VK} {E : XK} (hL : Sz L) (hW : Sz W) (hm : 400 < L * W) (hf : 0 < f) (hs : 0 < s) (q : ∀ H', Same H H' → E (.ref (er K .great)) none H') : SpGrX K [.int L, .int W, .int f, .int s, v] H Q E
section
variable {P : Program} {w : World} {K : PySem.W.Frag} {mg : Str → Option Value} {base : Heap}
theorem HN_is_cell (p : Pl K mg "is_cell" s_is_cell) (B : Bi mg) (h_is_number : Has P w K mg base CX0 1 "is_number" ["thing"] (SpIsNumber K)) : Has P w K mg base CX0 2 "is_cell" ["length", "width", "thing"] SpIsCellN := by
  refine p.mk0 sc_is_cell (fun _ _ _ _ _ _ us hl => match us, hl with | [_, _, _], _ => rfl) (fun vs H Q E h => ?_) (fun f cdv A outer s H vs Q E hr h => ?_)
  · cases h; rfl
  · obtain @⟨L, W, v, _, _, _, hb, q⟩ := h
    refine ⟨_, (pss_cons (ps_if (PW.pt (pw_or (pt_not (pt_val (pe_callB (r := rIsi K) call_isi (by rfl) B.isinstance (by decide +kernel) (pa_cons (pv 2) (pa_cons (pe_bltn (v := .ty "tuple") (by rfl) B.tuple (by decide +kernel) rfl) pa_nil))))) (pw_or (pt_cmpR op_ne (pe_callB (r := rLen2 K) call_len_seq (by rfl) B.len PySem.boot_len (pa_cons (pv 2) pa_nil)) pe_int (nomark _)) (pw_or (pt_not (pt_val (pe_fn h_is_number (hr.mono (by decide)) pass0 (pa_cons (pe_ix (r := rIxT K) ix_tup (pv 2) pe_int (fun _ _ => rfl)) pa_nil)))) (pw_or1 (pt_not (pt_val (pe_fn h_is_number (hr.mono (by decide)) pass0 (pa_cons (pe_ix (r := rIxT K) ix_tup (pv 2) pe_int (fun _ _ => rfl)) pa_nil))))))))) (pss_one (ps_ret pe_bl)) pss_nil)
      (pss_one (ps_ret (pe_and (pe_chain op_le op_lt pe_int (pe_ix (r := rIxT K) ix_tup (pv 2) pe_int (fun _ _ => rfl)) (pv 0)) (pe_one (pe_chain op_le op_lt pe_int (pe_ix (r := rIxT K) ix_tup (pv 2) pe_int (fun _ _ => rfl)) (pv 1))))))), ?_⟩
    cases hb with
    | kd h hn =>
      refine ⟨_, rfl, v, _, _, _, _, rfl, .ty "tuple", h.ty, kit_ty h.kit.2.1, _, rfl, ?_⟩
      rw [decide_eq_false hn]
      exact iteT (iteT q)
    | @len a xs h hl =>
      refine ⟨_, rfl, _, _, _, _, true, rfl, .ty "tuple", .base (.tup h), kit_ty (by decide +kernel), true, rfl, iteF ?_⟩
      refine ⟨_, rfl, a, _, rfl, .inr (sqT h), rfl, _, rfl, iteNe (fun _ => iteT q) (fun z => absurd (by omega) hl)⟩
    | @fst a x y T h k hn =>
      refine ⟨_, rfl, _, _, _, _, true, rfl, .ty "tuple", .base (.tup h), kit_ty (by decide +kernel), true, rfl, iteF ?_⟩
      refine ⟨_, rfl, a, _, rfl, .inr (sqT h), rfl, _, rfl, iteNe (fun z => absurd rfl z) (fun _ => ?_)⟩
      refine ⟨_, rfl, a, _, 0, _, rfl, rfl, sqT h, rfl, kd_num k ⟨_, rfl, ?_⟩⟩
      rw [decide_eq_false hn]
      exact iteT (iteT q)
    | @snd a n y T h k hn =>
      refine ⟨_, rfl, _, _, _, _, true, rfl, .ty "tuple", .base (.tup h), kit_ty (by decide +kernel), true, rfl, iteF ?_⟩
      refine ⟨_, rfl, a, _, rfl, .inr (sqT h), rfl, _, rfl, iteNe (fun z => absurd rfl z) (fun _ => ?_)⟩
      refine ⟨_, rfl, a, _, 0, _, rfl, rfl, sqT h, rfl, num_int ⟨true, rfl, iteF ?_⟩⟩
      refine ⟨_, rfl, a, _, 1, _, rfl, rfl, sqT h, rfl, kd_num k ⟨_, rfl, ?_⟩⟩
      rw [decide_eq_false hn]
      exact iteT q
    | @out a n m h ho =>
      refine ⟨_, rfl, _, _, _, _, true, rfl, .ty "tuple", .base (.tup h), kit_ty (by decide +kernel), true, rfl, iteF ?_⟩
      refine ⟨_, rfl, a, _, rfl, .inr (sqT h), rfl, _, rfl, iteNe (fun z => absurd rfl z) (fun _ => ?_)⟩
      refine ⟨_, rfl, a, _, 0, _, rfl, rfl, sqT h, rfl, num_int ⟨true, rfl, iteF ?_⟩⟩
      refine ⟨_, rfl, a, _, 1, _, rfl, rfl, sqT h, rfl, num_int ⟨true, rfl, iteF ?_⟩⟩
      refine ⟨_, rfl, a, _, 0, _, rfl, rfl, sqT h, rfl, ?_⟩
      walk_at "rd"
      refine iteD (fun c1 => ?_) (fun _ => ⟨_, rfl, iteF q⟩)
      walk_at "rd"
      refine iteD (fun c2 => ?_) (fun _ => q)
      refine ⟨_, rfl, a, _, 1, _, rfl, rfl, sqT h, rfl, ?_⟩
      walk_at "rd"
      refine iteD (fun c3 => ?_) (fun _ => q)
      walk_at "rd"
      show Q (.bl (decide (m < W))) H
      rw [decide_eq_false (show ¬ m < W from fun c4 => ho ⟨⟨c1, c2⟩, c3, c4⟩)]
      exact q
theorem HC_brick_on (p : Pl K mg "brick_on" s_brick_on) (GE : ErG K mg) (h_check_laid : Has P w K mg base CX0 4 "check_laid" ["length", "width", "first", "second"] SpLaid) (h_is_cell : Has P w K mg base CX0 2 "is_cell" ["length", "width", "thing"] SpIsCellN) :
    Has P w K mg base (CXN P w) 5 "brick_on" ["length", "width", "first", "second", "cell"] (SpBrickC K) := by
  refine p.mkX sc_brick_on (fun _ _ _ _ _ _ us hl => match us, hl with | [_, _, _, _, _], _ => rfl) (fun vs H Q E h => ?_) (fun f cdv A outer s H vs Q E hr h => ?_)
  · cases h; rfl
  · obtain @⟨L, W, fi, se, v, _, _, _, hL, hW, hf, hs, fr, hb, q⟩ := h
    refine ⟨_, (pss_cons (ps_expr (pe_fn h_check_laid (hr.mono (by decide)) pass0 (pa_cons (pv 0) (pa_cons (pv 1) (pa_cons (pv 2) (pa_cons (pv 3) pa_nil))))))
      (pss_cons (ps_if (pt_not (pt_val (pe_fn h_is_cell (hr.mono (by decide)) pass0 (pa_cons (pv 0) (pa_cons (pv 1) (pa_cons (pv 4) pa_nil)))))) (pss_one (L2N.ps_raise rfl (L2N.takes_of rfl rfl rfl rfl) (pmk_err (e := .cell) GE rfl))) pss_nil)
      pss_no)), ?_⟩
    walk_at "rd"
    refine .mk hL hW hf hs fr fun H1 sm1 => ?_
    walk_at "rd"
    exact .mk (hb.mono sm1) ⟨_, rfl, iteT (q _ sm1)⟩
theorem HC_alike (p : Pl K mg "alike" s_alike) (GE : ErG K mg) (h_check_sizes : Has P w K mg base CX0 2 "check_sizes" ["some"] (SpCheckSizes K)) (h_is_number : Has P w K mg base CX0 1 "is_number" ["thing"] (SpIsNumber K)) :
    Has P w K mg base (CXN P w) 3 "alike" ["length", "width", "size", "colour"] (SpColX K) := by
  refine p.mkX sc_alike (fun _ _ _ _ _ _ us hl => match us, hl with | [_, _, _, _], _ => rfl) (fun vs H Q E h => ?_) (fun f cdv A outer s H vs Q E hr h => ?_)
  · cases h; rfl
  · obtain @⟨L, W, se, v, _, _, _, hL, hW, hs, hb, q⟩ := h
    refine ⟨_, (pss_cons (ps_expr (pe_fn h_check_sizes (hr.mono (by decide)) pass0 (pa_cons (pe_lst (pa_cons (pv 0) (pa_cons (pv 1) (pa_cons (pv 2) pa_nil)))) pa_nil)))
      (pss_cons (ps_if (PW.pt (pw_or (pt_not (pt_val (pe_fn h_is_number (hr.mono (by decide)) pass0 (pa_cons (pv 3) pa_nil)))) (pw_or1 (pt_not (pt_chain op_le op_lt pe_int (pv 3) (pv 2)))))) (pss_one (L2N.ps_raise rfl (L2N.takes_of rfl rfl rfl rfl) (pmk_err (e := .colour) GE rfl))) pss_nil)
      pss_no)), ?_⟩
    walk_at "rd"
    intro l hl
    generalize hH1 : upd H l _ = H1
    obtain ⟨sm1, up1⟩ : Same H H1 ∧ H1 l = some (.lst ([L, W, se].map V.int)) := newH hH1 hl
    clear hH1
    refine .mk (ns := [L, W, se]) (sqL up1) (fun n hn => ?_) ?_
    · have e : n = L ∨ n = W ∨ n = se := by simpa using hn
      rcases e with rfl | rfl | rfl <;> assumption
    cases hb.mono sm1 with
    | kd h hn =>
      refine ⟨_, rfl, kd_num h ⟨_, rfl, ?_⟩⟩
      rw [decide_eq_false hn]
      exact iteT (iteT (q _ sm1))
    | @out n ho =>
      refine ⟨_, rfl, num_int ⟨_, rfl, iteF ?_⟩⟩
      walk_at "rd"
      refine iteD (fun c1 => ?_) (fun _ => ⟨_, rfl, iteT (q _ sm1)⟩)
      walk_at "rd"
      refine iteNN (show ¬ n < se from fun c2 => ho ⟨c1, c2⟩) (q _ sm1)
theorem HG_is_brick (p : Pl K mg "is_brick" s_is_brick) (B : Bi mg) (h_is_number : Has P w K mg base CX0 1 "is_number" ["thing"] (SpIsNumber K)) : Has P w K mg base CX0 2 "is_brick" ["thing"] SpIsBrickG := by
  refine p.mk0 sc_is_brick (fun _ _ _ _ _ _ us hl => match us, hl with | [_], _ => rfl) (fun vs H Q E h => ?_) (fun f cdv A outer s H vs Q E hr h => ?_)
  · cases h; rfl
  · obtain @⟨v, b, _, _, _, hb, q⟩ := h
    refine ⟨_, (pss_cons (ps_if (PW.pt (pw_or (pt_not (pt_val (pe_callB (r := rIsi K) call_isi (by rfl) B.isinstance (by decide +kernel) (pa_cons (pv 0) (pa_cons (pe_bltn (v := .ty "tuple") (by rfl) B.tuple (by decide +kernel) rfl) pa_nil))))) (pw_or (pt_cmpR op_ne (pe_callB (r := rLen2 K) call_len_seq (by rfl) B.len PySem.boot_len (pa_cons (pv 0) pa_nil)) pe_int (nomark _)) (pw_or1 (pt_not (pt_val (pe_callB (r := rIsi K) call_isi (by rfl) B.isinstance (by decide +kernel) (pa_cons (pe_ix (r := rIxT K) ix_tup (pv 0) pe_int (fun _ _ => rfl)) (pa_cons (pe_bltn (v := .ty "bool") (by rfl) B.bool (by decide +kernel) rfl) pa_nil))))))))) (pss_one (ps_ret pe_bl)) pss_nil)
      (pss_one (ps_ret (pe_and (pe_fn h_is_number (hr.mono (by decide)) pass0 (pa_cons (pe_ix (r := rIxT K) ix_tup (pv 0) pe_int (fun _ _ => rfl)) pa_nil)) (pe_one (pe_fn h_is_number (hr.mono (by decide)) pass0 (pa_cons (pe_ix (r := rIxT K) ix_tup (pv 0) pe_int (fun _ _ => rfl)) pa_nil))))))), ?_⟩
    cases hb with
    | @good o x y l ho =>
      refine ⟨_, rfl, _, _, _, _, true, rfl, .ty "tuple", .base (.tup ho), kit_ty (by decide +kernel), true, rfl, iteF ?_⟩
      refine ⟨_, rfl, o, _, rfl, .inr (sqT ho), rfl, _, rfl, iteNe (fun z => absurd rfl z) (fun _ => ?_)⟩
      refine ⟨_, rfl, o, _, 2, _, rfl, rfl, sqT ho, rfl, _, _, _, _, true, rfl, .ty "bool", .base (.bl l), kit_ty (by decide +kernel), true, rfl, iteF ?_⟩
      refine ⟨_, rfl, o, _, 0, _, rfl, rfl, sqT ho, rfl, num_int ⟨true, rfl, iteT ?_⟩⟩
      exact ⟨_, rfl, o, _, 1, _, rfl, rfl, sqT ho, rfl, num_int q⟩
    | kd h hn =>
      refine ⟨_, rfl, v, _, _, _, _, rfl, .ty "tuple", h.ty, kit_ty h.kit.2.1, _, rfl, ?_⟩
      rw [decide_eq_false hn]
      exact iteT (iteT q)
    | @len a xs h hl =>
      refine ⟨_, rfl, _, _, _, _, true, rfl, .ty "tuple", .base (.tup h), kit_ty (by decide +kernel), true, rfl, iteF ?_⟩
      refine ⟨_, rfl, a, _, rfl, .inr (sqT h), rfl, _, rfl, iteNe (fun _ => iteT q) (fun z => absurd (by omega) hl)⟩
    | @trd a x y z T h k hn =>
      refine ⟨_, rfl, _, _, _, _, true, rfl, .ty "tuple", .base (.tup h), kit_ty (by decide +kernel), true, rfl, iteF ?_⟩
      refine ⟨_, rfl, a, _, rfl, .inr (sqT h), rfl, _, rfl, iteNe (fun z => absurd rfl z) (fun _ => ?_)⟩
      refine ⟨_, rfl, a, _, 2, _, rfl, rfl, sqT h, rfl, z, _, _, _, _, rfl, .ty "bool", k.ty, kit_ty k.kit.2.2.2, _, rfl, ?_⟩
      rw [decide_eq_false hn]
      exact iteT q
    | @fst a x y l T h k hn =>
      refine ⟨_, rfl, _, _, _, _, true, rfl, .ty "tuple", .base (.tup h), kit_ty (by decide +kernel), true, rfl, iteF ?_⟩
      refine ⟨_, rfl, a, _, rfl, .inr (sqT h), rfl, _, rfl, iteNe (fun z => absurd rfl z) (fun _ => ?_)⟩
      refine ⟨_, rfl, a, _, 2, _, rfl, rfl, sqT h, rfl, _, _, _, _, true, rfl, .ty "bool", .base (.bl l), kit_ty (by decide +kernel), true, rfl, iteF ?_⟩
      refine ⟨_, rfl, a, _, 0, _, rfl, rfl, sqT h, rfl, kd_num k ⟨_, rfl, ?_⟩⟩
      rw [decide_eq_false hn]
      exact iteF q
    | @snd a n y l T h k hn =>
      refine ⟨_, rfl, _, _, _, _, true, rfl, .ty "tuple", .base (.tup h), kit_ty (by decide +kernel), true, rfl, iteF ?_⟩
      refine ⟨_, rfl, a, _, rfl, .inr (sqT h), rfl, _, rfl, iteNe (fun z => absurd rfl z) (fun _ => ?_)⟩
      refine ⟨_, rfl, a, _, 2, _, rfl, rfl, sqT h, rfl, _, _, _, _, true, rfl, .ty "bool", .base (.bl l), kit_ty (by decide +kernel), true, rfl, iteF ?_⟩
      refine ⟨_, rfl, a, _, 0, _, rfl, rfl, sqT h, rfl, num_int ⟨true, rfl, iteT ?_⟩⟩
      refine ⟨_, rfl, a, _, 1, _, rfl, rfl, sqT h, rfl, kd_num k ?_⟩
      rw [decide_eq_false hn]
      exact q
theorem HB_judged (p : Pl K mg "judged" s_judged) (B : Bi mg) (GE : ErG K mg) (M_MOST : ∃ t, mg "MOST" = some (.int 400 t)) (h_check_sizes : Has P w K mg base CX0 2 "check_sizes" ["some"] (SpCheckSizes K)) (h_is_brick : Has P w K mg base CX0 2 "is_brick" ["thing"] SpIsBrickG) :
    Has P w K mg base (CXN P w) 3 "judged" ["length", "width", "first", "second", "bricks"] (SpBrX K) := by
  refine p.mkX sc_judged (fun _ _ _ _ _ _ us hl => match us, hl with | [_, _, _, _, _], _ => rfl) (fun vs H Q E h => ?_) (fun f cdv A outer s H vs Q E hr h => ?_)
  · cases h; rfl
  · obtain @⟨L, W, fi, se, v, _, _, _, hL, hW, hm, hf, hs, hb, q⟩ := h
    refine ⟨_, (pss_cons (ps_expr (pe_fn h_check_sizes (hr.mono (by decide)) pass0 (pa_cons (pe_lst (pa_cons (pv 0) (pa_cons (pv 1) (pa_cons (pv 2) (pa_cons (pv 3) pa_nil))))) pa_nil)))
      (pss_cons (ps_if (pt_cmpR op_gt (pe_op op_mulX (pv 0) (pv 1)) (pe_const (by rfl) M_MOST) (nomark _)) (pss_one (L2N.ps_raise rfl (L2N.takes_of rfl rfl rfl rfl) (pmk_err (e := .great) GE rfl))) pss_nil)
      (pss_cons (ps_if (PW.pt (pw_or (pt_not (pt_val (pe_callB (r := rIsi K) call_isi (by rfl) B.isinstance (by decide +kernel) (pa_cons (pv 4) (pa_cons (pe_bltn (v := .ty "list") (by rfl) B.list (by decide +kernel) rfl) pa_nil))))) (pw_or1 (pt_not (pt_val (pe_callB (cr_all rfl) (by rfl) B.all (by decide +kernel) (pa_cons (pe_lc (own := [("brick", 6)]) (by rfl) sc_judged.nd (pi_list (pv 4)) (blkOk_by (own := [("brick", 6)]) (N := ["length", "width", "first", "second", "bricks", "count", "brick", "along", "up", "many"]) (sc := defScope s_judged) (by decide +kernel)) (fun _ _ _ _ _ => (pg_name (i := 6) sc_judged.nd rfl (Or.inl rfl))) (fun _ _ _ _ _ => pts_nil) (fun _ _ _ _ _ => (pe_fn h_is_brick (hr.mono (by decide)) pass0 (pa_cons (pv 6) pa_nil)))) pa_nil))))))) (pss_one (L2N.ps_raise rfl (L2N.takes_of rfl rfl rfl rfl) (pmk_err (e := .bricks) GE rfl))) pss_nil)
      pss_no))), ?_⟩
    have hL2 : L ≤ 400 := by
      have := Int.mul_le_mul_of_nonneg_left (show (1 : Int) ≤ W by omega) (show 0 ≤ L by omega)
      omega
    have hW2 : W ≤ 400 := by
      have := Int.mul_le_mul_of_nonneg_right (show (1 : Int) ≤ L by omega) (show 0 ≤ W by omega)
      omega
    have bL : Bn 20 L := bnl (by omega)
    have bW : Bn 20 W := bnl (by omega)
    walk_at "rd"
    intro l hl
    generalize hH1 : upd H l _ = H1
    obtain ⟨sm1, up1⟩ : Same H H1 ∧ H1 l = some (.lst ([L, W, fi, se].map V.int)) := newH hH1 hl
    clear hH1
    refine .mk (ns := [L, W, fi, se]) (sqL up1) (fun n hn => ?_) ?_
    · have e : n = L ∨ n = W ∨ n = fi ∨ n = se := by simpa using hn
      rcases e with rfl | rfl | rfl | rfl <;> assumption
    walk_at "rd"
    refine iteN (show ¬ (400 : Int) < L * W by omega) ?_
    cases hb.mono' sm1 with
    | kd h hn =>
      refine ⟨_, rfl, v, _, _, _, _, rfl, .ty "list", h.ty, kit_ty h.kit.2.2.1, _, rfl, ?_⟩
      rw [decide_eq_false hn]
      exact iteT (iteT (q _ sm1))
    | @lst a xs bs h hl hbl ha =>
      refine ⟨_, rfl, _, _, _, _, true, rfl, .ty "list", .base (.lst h), kit_ty (by decide +kernel), true, rfl, iteF ?_⟩
      refine ⟨_, rfl, a, rfl, ⟨_, sqL h⟩, fun D hD => ?_⟩
      refine lc_list (K := K) (a := a) (xs := xs) (fun i H' => Same H1 H' ∧ H' D = some (.lst ((bs.take i).map V.bl))) ⟨same_upd hD, by rw [upd_same]; rfl⟩ (fun i H' _ ⟨sm, _⟩ => sqL (sm _ _ h)) ?_ ?_
      · rintro i x H' hi ⟨sm, eD⟩
        have hlt := (List.getElem?_eq_some_iff.mp hi).1
        have hlb : i < bs.length := by rw [← hbl.1]; exact hlt
        have hbi : bs[i]? = some bs[i] := List.getElem?_eq_getElem hlb
        refine ⟨rfl, lc_yes ?_⟩
        walk_at "rd"
        refine .mk ((hbl.2 i x _ hi hbi).mono sm) ⟨_, eD, ?_, same_mut2 sm hD, ?_⟩
        · rw [List.length_map, List.length_take]
          exact Nat.lt_of_le_of_lt (show min i bs.length ≤ 1000 by omega) (by decide)
        · rw [upd_same, List.take_add_one, hbi, List.map_append]
          rfl
      rintro H2 ⟨sm2, eD⟩
      rw [hbl.1, List.take_length] at eD
      refine ⟨D, bs, rfl, sqL eD, ?_⟩
      rw [ha]
      exact ⟨_, rfl, iteT (q _ (sm1.trans sm2))⟩
theorem HG_judged (p : Pl K mg "judged" s_judged) (GE : ErG K mg) (M_MOST : ∃ t, mg "MOST" = some (.int 400 t)) (h_check_sizes : Has P w K mg base CX0 2 "check_sizes" ["some"] (SpCheckSizes K)) :
    Has P w K mg base (CXN P w) 3 "judged" ["length", "width", "first", "second", "bricks"] (SpGrX K) := by
  refine p.mkX sc_judged (fun _ _ _ _ _ _ us hl => match us, hl with | [_, _, _, _, _], _ => rfl) (fun vs H Q E h => ?_) (fun f cdv A outer s H vs Q E hr h => ?_)
  · cases h; rfl
  · obtain @⟨L, W, fi, se, v, _, _, _, hL, hW, hm, hf, hs, q⟩ := h
    refine ⟨_, (pss_cons (ps_expr (pe_fn h_check_sizes (hr.mono (by decide)) pass0 (pa_cons (pe_lst (pa_cons (pv 0) (pa_cons (pv 1) (pa_cons (pv 2) (pa_cons (pv 3) pa_nil))))) pa_nil)))
      (pss_cons (ps_if (pt_cmpR op_gt (pe_op op_mulX (pv 0) (pv 1)) (pe_const (by rfl) M_MOST) (nomark _)) (pss_one (L2N.ps_raise rfl (L2N.takes_of rfl rfl rfl rfl) (pmk_err (e := .great) GE rfl))) pss_nil)
      pss_no)), ?_⟩
    have pL := hL.pos
    have pW := hW.pos
    walk_at "rd"
    intro l hl
    generalize hH1 : upd H l _ = H1
    obtain ⟨sm1, up1⟩ : Same H H1 ∧ H1 l = some (.lst ([L, W, fi, se].map V.int)) := newH hH1 hl
    clear hH1
    refine .mk (ns := [L, W, fi, se]) (sqL up1) (fun n hn => ?_) ?_
    · have e : n = L ∨ n = W ∨ n = fi ∨ n = se := by simpa using hn
      rcases e with rfl | rfl | rfl | rfl <;> assumption
    walk_at "rd"
    exact iteP hm (q _ sm1)
end
end BF

/-! ### floors that can't be laid are refused -/
namespace BF
open PySem PySem.Spec PyProof.Rows L2
inductive SpLaidX (K : PySem.W.Frag) : Sp where
  | mk {L W f s : Int} {H : Hp} {Q : VK} {E : XK} (hL : Sz L) (hW : Sz W) (hf : Sz f) (hs : Sz s) (fr : ¬ Free L W f s) (q : ∀ H', Same H H' → E (.ref (er K .barred)) none H') : SpLaidX K [.int L, .int W, .int f, .int s] H Q E
inductive SpBrickX (K : PySem.W.Frag) : Sp where
  | mk {L W f s : Int} {v : V} {H : Hp} {Q : VK} {E : XK} (hL : Sz L) (hW : Sz W) (hf : Sz f) (hs : Sz s) (fr : ¬ Free L W f s) (q : ∀ H', Same H H' → E (.ref (er K .barred)) none H') : SpBrickX K [.int L, .int W, .int f, .int s, v] H Q E
theorem shp_two (xs ys : List Int) : SeqAt.shaped (.tuple [.list (xs.map .int), .list (ys.map .int)]) = true := (shp_tuple (n := 2) fun d hd => by
  have z : d = .list (xs.map .int) ∨ d = .list (ys.map .int) := by simpa using hd
  rcases z with rfl | rfl
  · exact shp_list (n := 1) fun d hd => by
      obtain ⟨i, _, rfl⟩ := List.mem_map.mp hd
      exact shp_int i
  · exact shp_list (n := 1) fun d hd => by
      obtain ⟨i, _, rfl⟩ := List.mem_map.mp hd
      exact shp_int i).ok (by decide)
theorem two_neR {xs ys : List Int} (h : ¬ (xs = [] ∧ ys = [])) : (!PyData.eqv (.tuple [.list (xs.map .int), .list (ys.map .int)]) (.tuple [.list [], .list []])) = true := by
  cases xs with
  | cons x xs => rfl
  | nil =>
    cases ys with
    | cons y ys => rfl
    | nil => exact absurd ⟨rfl, rfl⟩ h
section
variable {P : Program} {w : World} {K : PySem.W.Frag} {mg : Str → Option Value} {base : Heap}
theorem HX_check_laid (p : Pl K mg "check_laid" s_check_laid) (GE : ErG K mg) (h_check_sizes : Has P w K mg base CX0 2 "check_sizes" ["some"] (SpCheckSizes K)) (h_what_bars : Has P w K mg base CX0 3 "what_bars" ["length", "width", "first", "second"] SpBars) :
    Has P w K mg base (CXN P w) 4 "check_laid" ["length", "width", "first", "second"] (SpLaidX K) := by
  refine p.mkX sc_check_laid (fun _ _ _ _ _ _ us hl => match us, hl with | [_, _, _, _], _ => rfl) (fun vs H Q E h => ?_) (fun f cdv A outer s H vs Q E hr h => ?_)
  · cases h; rfl
  · obtain @⟨L, W, fi, se, _, _, _, hL, hW, hf, hs, fr, q⟩ := h
    refine ⟨_, (pss_cons (ps_expr (pe_fn h_check_sizes (hr.mono (by decide)) pass0 (pa_cons (pe_lst (pa_cons (pv 0) (pa_cons (pv 1) (pa_cons (pv 2) (pa_cons (pv 3) pa_nil))))) pa_nil)))
      (pss_one (ps_if (pt_cmpR (r := rNeD K) (op_neD hr.units) (pe_fn h_what_bars (hr.mono (by decide)) pass0 (pa_cons (pv 0) (pa_cons (pv 1) (pa_cons (pv 2) (pa_cons (pv 3) pa_nil))))) (pe_tup (pa_cons (pe_lst pa_nil) (pa_cons (pe_lst pa_nil) pa_nil))) (nomark _)) (pss_one (L2N.ps_raise rfl (L2N.takes_of rfl rfl rfl rfl) (pmk_err (e := .barred) GE rfl))) pss_nil))), ?_⟩
    walk_at "rd"
    intro l1 hl1
    generalize hH1 : upd H l1 _ = H1
    obtain ⟨sm1, up1⟩ : Same H H1 ∧ H1 l1 = some (.lst ([L, W, fi, se].map V.int)) := newH hH1 hl1
    clear hH1
    refine .mk (ns := [L, W, fi, se]) (sqL up1) ?_ ?_
    · intro n hn
      have e : n = L ∨ n = W ∨ n = fi ∨ n = se := by simpa using hn
      rcases e with rfl | rfl | rfl | rfl
      · exact hL.pos
      · exact hW.pos
      · exact hf.pos
      · exact hs.pos
    walk_at "rd"
    refine .mk hL hW hf hs fun t p1 p2 H2 sm2 ht hp1 hp2 => ?_
    walk_at "rd"
    intro l3 hl3
    generalize hH3 : upd H2 l3 _ = H3
    obtain ⟨sm3, up3⟩ : Same H2 H3 ∧ H3 l3 = some (.lst []) := newH hH3 hl3
    clear hH3
    walk_at "rd"
    intro l4 hl4
    generalize hH4 : upd H3 l4 _ = H4
    obtain ⟨sm4, up4⟩ : Same H3 H4 ∧ H4 l4 = some (.lst []) := newH hH4 hl4
    clear hH4
    walk_at "rd"
    intro t5 ht5
    generalize hH5 : upd H4 t5 _ = H5
    obtain ⟨sm5, up5⟩ : Same H4 H5 ∧ H5 t5 = some (.tup [.ref l3, .ref l4]) := newH hH5 ht5
    clear hH5
    have s45 := sm4.trans sm5
    have s25 := sm3.trans s45
    refine ⟨.tuple [.list ((strL L W fi se).map .int), .list ((shoL L W fi se).map .int)], .tuple [.list [], .list []], .tup (sqT (s25 _ _ ht)) (.cons (.lst (sqL (s25 _ _ hp1)) (dp_ints _)) (.cons (.lst (sqL (s25 _ _ hp2)) (dp_ints _)) .nil)), .tup (sqT up5) (.cons (.lst (sqL (s45 _ _ up3)) .nil) (.cons (.lst (sqL (sm5 _ _ up4)) .nil) .nil)), shp_two _ _, rfl, ?_⟩
    rw [two_neR fr]
    exact ⟨_, rfl, iteT (q _ (sm1.trans (sm2.trans s25)))⟩
theorem HX_brick_on (p : Pl K mg "brick_on" s_brick_on) (GE : ErG K mg) (hx_check_laid : Has P w K mg base (CXN P w) 4 "check_laid" ["length", "width", "first", "second"] (SpLaidX K)) (h_is_cell : Has P w K mg base CX0 2 "is_cell" ["length", "width", "thing"] SpIsCell) (h_plan : Has P w K mg base CX0 3 "plan" ["length", "width", "first", "second"] SpPlan) :
    Has P w K mg base (CXN P w) 5 "brick_on" ["length", "width", "first", "second", "cell"] (SpBrickX K) := by
  refine p.mkX sc_brick_on (fun _ _ _ _ _ _ us hl => match us, hl with | [_, _, _, _, _], _ => rfl) (fun vs H Q E h => ?_) (fun f cdv A outer s H vs Q E hr h => ?_)
  · cases h; rfl
  · obtain @⟨L, W, fi, se, v, _, _, _, hL, hW, hf, hs, fr, q⟩ := h
    refine ⟨_, (pss_cons (ps_expr (pe_fn hx_check_laid (hr.mono (by decide)) (L2N.passes_call (L2N.takes_of rfl rfl rfl rfl) (fun _ _ _ _ h => h)) (pa_cons (pv 0) (pa_cons (pv 1) (pa_cons (pv 2) (pa_cons (pv 3) pa_nil))))))
      (pss_cons (ps_if (pt_not (pt_val (pe_fn h_is_cell (hr.mono (by decide)) pass0 (pa_cons (pv 0) (pa_cons (pv 1) (pa_cons (pv 4) pa_nil)))))) (pss_one (L2N.ps_raise rfl (L2N.takes_of rfl rfl rfl rfl) (pmk_err (e := .cell) GE rfl))) pss_nil)
      (pss_cons (ps_asg (pe_fn h_plan (hr.mono (by decide)) pass0 (pa_cons (pv 0) (pa_cons (pv 1) (pa_cons (pv 2) (pa_cons (pv 3) pa_nil))))) (pg_tup (by rfl) (pgs_cons (pg_name (i := 5) sc_brick_on.nd rfl (Or.inl rfl)) (pgs_cons (pg_name (i := 6) sc_brick_on.nd rfl (Or.inl rfl)) pgs_nil))))
      (pss_cons (ps_if (PW.pt (pw_and (pt_cmpR op_lt (pe_ix (r := rIxT K) ix_tup (pv 4) pe_int (fun _ _ => rfl)) (pv 5) (nomark _)) (pw_and1 (pt_cmpR op_lt (pe_ix (r := rIxT K) ix_tup (pv 4) pe_int (fun _ _ => rfl)) (pv 6) (nomark _))))) (pss_one (ps_ret (pe_tup (pa_cons (pe_tup (pa_cons (pe_op op_mulX (pe_op op_fdivW (pe_ix (r := rIxT K) ix_tup (pv 4) pe_int (fun _ _ => rfl)) (pv 2)) (pv 2)) (pa_cons (pe_op op_mulX (pe_op op_fdivW (pe_ix (r := rIxT K) ix_tup (pv 4) pe_int (fun _ _ => rfl)) (pv 3)) (pv 3)) pa_nil))) (pa_cons pe_bl pa_nil))))) pss_nil)
      (pss_cons (ps_par (i := 7) (j := 8) (by rfl) sc_brick_on.nd rfl rfl (by decide) rfl rfl (pa_cons (pe_ifExp (pt_cmpR op_eq (pv 6) (pv 1) (nomark _)) (pv 5) pe_int) (pa_cons (pe_ifExp (pt_cmpR op_eq (pv 5) (pv 0) (nomark _)) (pv 6) pe_int) pa_nil)) (by rfl))
      (pss_cons (ps_set (i := 9) sc_brick_on.nd rfl (Or.inl rfl) (pe_tup (pa_cons (pe_op op_add (pv 7) (pe_op op_mulX (pe_op op_fdivW (pe_op op_sub (pe_ix (r := rIxT K) ix_tup (pv 4) pe_int (fun _ _ => rfl)) (pv 7)) (pv 3)) (pv 3))) (pa_cons (pe_op op_add (pv 8) (pe_op op_mulX (pe_op op_fdivW (pe_op op_sub (pe_ix (r := rIxT K) ix_tup (pv 4) pe_int (fun _ _ => rfl)) (pv 8)) (pv 2)) (pv 2))) pa_nil))))
      (pss_one (ps_ret (pe_tup (pa_cons (pv 9) (pa_cons (pe_cmpR op_eq (pv 2) (pv 3) (nomark _)) pa_nil))))))))))), ?_⟩
    walk_at "rd"
    exact .mk hL hW hf hs fr q
theorem HX_lying (p : Pl K mg "lying" s_lying) (hx_check_laid : Has P w K mg base (CXN P w) 4 "check_laid" ["length", "width", "first", "second"] (SpLaidX K)) (h_plan : Has P w K mg base CX0 3 "plan" ["length", "width", "first", "second"] SpPlan) :
    Has P w K mg base (CXN P w) 5 "lying" ["length", "width", "first", "second"] (SpLaidX K) := by
  refine p.mkX sc_lying (fun _ _ _ _ _ _ us hl => match us, hl with | [_, _, _, _], _ => rfl) (fun vs H Q E h => ?_) (fun f cdv A outer s H vs Q E hr h => ?_)
  · cases h; rfl
  · obtain @⟨L, W, fi, se, _, _, _, hL, hW, hf, hs, fr, q⟩ := h
    refine ⟨_, (pss_cons (ps_expr (pe_fn hx_check_laid (hr.mono (by decide)) (L2N.passes_call (L2N.takes_of rfl rfl rfl rfl) (fun _ _ _ _ h => h)) (pa_cons (pv 0) (pa_cons (pv 1) (pa_cons (pv 2) (pa_cons (pv 3) pa_nil))))))
      (pss_cons (ps_asg (pe_fn h_plan (hr.mono (by decide)) pass0 (pa_cons (pv 0) (pa_cons (pv 1) (pa_cons (pv 2) (pa_cons (pv 3) pa_nil))))) (pg_tup (by rfl) (pgs_cons (pg_name (i := 4) sc_lying.nd rfl (Or.inl rfl)) (pgs_cons (pg_name (i := 5) sc_lying.nd rfl (Or.inl rfl)) pgs_nil))))
      (pss_cons (ps_if (pt_cmpR op_eq (pv 2) (pv 3) (nomark _)) (pss_one (ps_ret (pe_op op_fdivW (pe_op op_mulX (pv 0) (pv 1)) (pe_op op_mulX (pv 2) (pv 3))))) pss_nil)
      (pss_one (ps_ret (pe_op op_fdivW (pe_op op_mulX (pv 4) (pv 5)) (pe_op op_mulX (pv 2) (pv 3)))))))), ?_⟩
    walk_at "rd"
    exact .mk hL hW hf hs fr q
theorem HX_standing (p : Pl K mg "standing" s_standing) (hx_lying : Has P w K mg base (CXN P w) 5 "lying" ["length", "width", "first", "second"] (SpLaidX K)) : Has P w K mg base (CXN P w) 6 "standing" ["length", "width", "first", "second"] (SpLaidX K) := by
  refine p.mkX sc_standing (fun _ _ _ _ _ _ us hl => match us, hl with | [_, _, _, _], _ => rfl) (fun vs H Q E h => ?_) (fun f cdv A outer s H vs Q E hr h => ?_)
  · cases h; rfl
  · obtain @⟨L, W, fi, se, _, _, _, hL, hW, hf, hs, fr, q⟩ := h
    refine ⟨_, (pss_cons (ps_set (i := 4) sc_standing.nd rfl (Or.inl rfl) (pe_fn hx_lying (hr.mono (by decide)) (L2N.passes_call (L2N.takes_of rfl rfl rfl rfl) (fun _ _ _ _ h => h)) (pa_cons (pv 0) (pa_cons (pv 1) (pa_cons (pv 2) (pa_cons (pv 3) pa_nil))))))
      (pss_one (ps_ret (pe_op op_sub (pe_op op_fdivW (pe_op op_mulX (pv 0) (pv 1)) (pe_op op_mulX (pv 2) (pv 3))) (pv 4))))), ?_⟩
    walk_at "rd"
    exact .mk hL hW hf hs fr q
end
end BF

/-! ### k08: a lambda handed to _law_refused -/
namespace BF
open PySem PySem.Spec PyProof.Rows L2 LamX
theorem flying_imp {B : Heap} {l : List Env} {a : Addr} {Z Z' : Obj → Prop} {h : Heap} (f : HandSPX.FlyingZ B l a Z h) (i : ∀ o, Z o → Z' o) : HandSPX.FlyingZ B l a Z' h := by
  obtain ⟨h1, h2, h3, oe, vs, T, oT, ts, e1, z, r⟩ := f
  exact ⟨h1, h2, h3, oe, vs, T, oT, ts, e1, i _ z, r⟩
theorem cxn_cx {P : Program} {w : World} {outer : List Env} {H : Hp} {s : Shared} {E : XK} {u : Value} {s' : Shared} (h : L2N.CX P w outer H s E u s') : L2.CX P w outer H s E u s' := by
  obtain ⟨a, B, H', cls, d, e, fl, r⟩ := h
  exact ⟨a, B, H', cls, d, e, flying_imp fl fun _ z => z.zc, r⟩
/-- what a callee lets out leaves the lambda -/
theorem passL {X : Cx} {A : Around} {outer : List Env} {s : Shared} {H : Hp} {E : XK} {scope : Scope} {f c' : Addr} : Passes (CXN X.prog X.w) (lamCx X A outer s H E scope f c') E :=
  fun pins σ H' s1 e s' I c => L2.passes_call (X := lamCx X A outer s H E scope f c') (L2.takes_of rfl rfl rfl rfl) (fun _ _ _ _ h => h) pins σ H' s1 e s' I (cxn_cx c)
theorem ps_tryL {X : Cx} {x n : Str} {c : Value} {i : Nat} {body suite : List Stmt} {b₀ : Stmt} {np pos pos' : Pos} {tb : WX → TS} {ts : Addr → Value → Option Addr → TS} {Wout : WX} (hs : X.stack = X.env :: X.outer) (hf : X.env.frame = some X.env.locals) (hN : X.N.Nodup) (hi : X.N[i]? = some n) (hln : X.env.kindOf n = some .local) (hc : Names X x c) (tk : L2.Takes X Wout)
    (hb : ∀ (W : WX) (pn : List (Addr × Obj)) (xe : Value → Shared → Prop), L2.Takes (X.tr pn xe) W → PassesOwn (model X.prog X.w) X.A X.env xe → PSs (X.tr pn xe) body (tb W))
    (hsu : ∀ (a : Addr) (oe : Obj) (cls : Value) (d : Option Addr) (pn : List (Addr × Obj)), Zc cls d oe → (∃ vs, oe.data = .fields vs) → PSs (X.suite a ((a, oe) :: pn)) (b₀ :: suite) (ts a cls d)) :
    PS X (.Try body [.ExceptHandler (some (.Name x np)) (some n) (b₀ :: suite) pos'] [] [] pos) (tTryN X.K c i ts Wout tb) := L2.ps_try_as hs hf hN hi hln hc tk hb hsu
theorem call_isXc {X : Cx} {a : Addr} {oe : Obj} {cls : Value} {d : Option Addr} {pn : List (Addr × Obj)} {e : Er} {mg : Str → Option Value} (G : ErG X.K mg) (hi : IsEr X.K cls d e) (hz : Zc cls d oe) (hf : ∃ vs, oe.data = .fields vs) : CallR (X.suite a ((a, oe) :: pn)) (.builtin "isinstance") (rIsX X.K e a) := by
  obtain ⟨rfl, rfl⟩ := hi
  intro pins s σ H xs us Q I r h
  obtain ⟨y, rfl, q⟩ := h
  exact call_isE (G.f e).C hz hf pins s σ H _ us Q I r ⟨.ref (er X.K y), .ref (er X.K y), _, rfl, fun u hu => hu, (G.f e).kit y (mem_er y), q⟩
def Er.num : Er → Int
  | .size => 0
  | .cell => 1
  | .colour => 2
  | .bricks => 3
  | .barred => 4
  | .great => 5
  | .floor => 100
def dueL8 (e : Er) : List Bool := [decide (Er.size = e) || decide (Er.size = Er.floor), decide (Er.cell = e) || decide (Er.cell = Er.floor), decide (Er.colour = e) || decide (Er.colour = Er.floor), decide (Er.bricks = e) || decide (Er.bricks = Er.floor), decide (Er.barred = e) || decide (Er.barred = Er.floor), decide (Er.great = e) || decide (Er.great = Er.floor)]
def dueR8 (e : Er) (n : Nat) : List Bool := (List.range n).map fun j : Nat => decide (V.int (j : Int) = V.int e.num)
theorem due_eq8 (e : Er) : dueL8 e = dueR8 e 6 := by cases e <;> decide
theorem dp_bls {K : PySem.W.Frag} {H : Hp} : ∀ bs : List Bool, DpAll K H (bs.map V.bl) (bs.map PyData.bool)
  | [] => .nil
  | b :: bs => .cons (.bl b) (dp_bls bs)
theorem shp_bls (bs : List Bool) : SeqAt.shaped (.list (bs.map .bool)) = true := (shp_list (n := 1) fun d hd => by
  obtain ⟨b, _, rfl⟩ := List.mem_map.mp hd
  exact shp_bool b).ok (by decide)
theorem shp_c (bs : List Bool) : PyData.canLay0 (.list (bs.map .bool)) = true := (shp_list (n := 1) fun d hd => by
  obtain ⟨b, _, rfl⟩ := List.mem_map.mp hd
  exact shp_bool b).c
theorem try_in {K : PySem.W.Frag} {c : Value} {i : Nat} {ts : Addr → Value → Option Addr → TS} {Wo : WX} {tb : WX → TS} {U : TS} {D : Ends} {σ : L2.St} {H : Hp} (h : tb (wAs K c i ts Wo { D with nx := U D }) { D with nx := U D } σ H) : tSeq (tTryN K c i ts Wo tb) U D σ H := h
theorem set_try {j : Nat} {v : V} {K : PySem.W.Frag} {c : Value} {i : Nat} {ts : Addr → Value → Option Addr → TS} {Wo : WX} {tb : WX → TS} {U : TS} {D : Ends} {r : VK} {σ : L2.St} {H : Hp} (h : tb (wAs K c i ts Wo { D with nx := U D }) { D with nx := U D } (σ.set j (some v)) H) : gName j v σ H (Ends.nx { nx := tSeq (tTryN K c i ts Wo tb) U D, rt := r }) := h
/-- what _law_refused makes of the lambda: refused by the class of the count n -/
def rWish (K : PySem.W.Frag) (n : Int) (Q : VK) : XK := fun cls d H' => ∃ e : Er, IsEr K cls d e ∧ e.num = n ∧ ∀ H2, Same H' H2 → Q (.bl true) H2
def tAct (f c' : Addr) (q : Str) (tl : XK → Hp → VK → Prop) (W : WX) : TE := fun σ H Q => ∃ Ech : XK, (∀ cls d H', Ech cls d H' → W cls d σ H') ∧ σ[0]? = some (some (.ref f)) ∧ H c' = some (CodeO c' q) ∧ tl Ech H Q
section
variable {P : Program} {w : World} {K : PySem.W.Frag} {mg : Str → Option Value} {base : Heap}
theorem ref_body {g f c' : Addr} {cdg : Value} {A : Around} {outer : List Env} {s : Shared} {H : Hp} {q : Str} {n : Int} {Q : VK} {tl : XK → Hp → VK → Prop} {E : XK} (B : Bi mg) (GE : ErG K mg) (hr : Room 0 (A.deeper (envOfC "_law_refused" (defScope s__law_refused) s.heap.objs.size g cdg)))
    (act : ∀ (W : WX) (pn : List (Addr × Obj)) (xe : Value → Shared → Prop) (p1 p2 : Pos), L2.Takes ((cxOf CX0 P w K mg base ["_law_ask", "_law_due", "_law_found", "error", "_law_one"] "_law_refused" (defScope s__law_refused) g cdg A outer s H E).tr pn xe) W →
      PE ((cxOf CX0 P w K mg base ["_law_ask", "_law_due", "_law_found", "error", "_law_one"] "_law_refused" (defScope s__law_refused) g cdg A outer s H E).tr pn xe) (.Call (.Name "_law_ask" p1) [] [] p2) (tAct f c' q tl W))
    (hc : H c' = some (CodeO c' q)) (h : ∀ H1, Same H H1 → ∀ Q', tl (rWish K n Q) H1 Q') :
    ∃ t, PSs (cxOf CX0 P w K mg base ["_law_ask", "_law_due", "_law_found", "error", "_law_one"] "_law_refused" (defScope s__law_refused) g cdg A outer s H E).nox (defBody s__law_refused) t ∧ t { nx := fun _ H' => Q .non H', rt := Q } (L2.start ["_law_ask", "_law_due", "_law_found", "error", "_law_one"] [.ref f, .int n]) H := by
  refine ⟨_, (pss_cons (ps_set (i := 2) sc__law_refused.nd rfl (Or.inl rfl) (pe_lst pa_nil))
      (pss_cons (ps_tryL (i := 3) rfl rfl sc__law_refused.nd rfl rfl ⟨rfl, by decide, .inl (GE.g .floor)⟩ LamX.takes0 (fun W pn xe tk _ => (pss_one (ps_expr (act W pn xe _ _ tk)))) (fun a oe cls d pn hz hf => pss_any (Ok := IsEr K cls d) (fun e hi => (pss_cons (ps_set (i := 2) sc__law_refused.nd rfl (Or.inl rfl) (pe_lst (pa_cons (pe_callB (r := rIsX K e a) (call_isXc GE hi hz hf) (by rfl) B.isinstance (by decide +kernel) (pa_cons (pv 3) (pa_cons (pe_glob (v := .ref (er _ .size)) (by rfl) (GE.g .size) rfl) pa_nil))) (pa_cons (pe_callB (r := rIsX K e a) (call_isXc GE hi hz hf) (by rfl) B.isinstance (by decide +kernel) (pa_cons (pv 3) (pa_cons (pe_glob (v := .ref (er _ .cell)) (by rfl) (GE.g .cell) rfl) pa_nil))) (pa_cons (pe_callB (r := rIsX K e a) (call_isXc GE hi hz hf) (by rfl) B.isinstance (by decide +kernel) (pa_cons (pv 3) (pa_cons (pe_glob (v := .ref (er _ .colour)) (by rfl) (GE.g .colour) rfl) pa_nil))) pa_nil)))))
      (pss_cons (ps_set (i := 2) sc__law_refused.nd rfl (Or.inl rfl) (pe_op op_cat (pv 2) (pe_lst (pa_cons (pe_callB (r := rIsX K e a) (call_isXc GE hi hz hf) (by rfl) B.isinstance (by decide +kernel) (pa_cons (pv 3) (pa_cons (pe_glob (v := .ref (er _ .bricks)) (by rfl) (GE.g .bricks) rfl) pa_nil))) (pa_cons (pe_callB (r := rIsX K e a) (call_isXc GE hi hz hf) (by rfl) B.isinstance (by decide +kernel) (pa_cons (pv 3) (pa_cons (pe_glob (v := .ref (er _ .barred)) (by rfl) (GE.g .barred) rfl) pa_nil))) pa_nil)))))
      (pss_one (ps_set (i := 2) sc__law_refused.nd rfl (Or.inl rfl) (pe_op op_cat (pv 2) (pe_lst (pa_cons (pe_callB (r := rIsX K e a) (call_isXc GE hi hz hf) (by rfl) B.isinstance (by decide +kernel) (pa_cons (pv 3) (pa_cons (pe_glob (v := .ref (er _ .great)) (by rfl) (GE.g .great) rfl) pa_nil))) pa_nil))))))))))
      (pss_one (ps_ret (pe_cmpR (r := rEqD K) (op_eqD hr.units) (pv 2) (pe_lc (own := [("_law_one", 4)]) (by rfl) sc__law_refused.nd (pi_range1 (by rfl) B.range (pa_cons pe_int pa_nil)) (blkOk_by (own := [("_law_one", 4)]) (N := ["_law_ask", "_law_due", "_law_found", "error", "_law_one"]) (sc := defScope s__law_refused) (by decide +kernel)) (fun _ _ _ _ _ => (pg_name (i := 4) sc__law_refused.nd rfl (Or.inl rfl))) (fun _ _ _ _ _ => pts_nil) (fun _ _ _ _ _ => (pe_cmpR op_eq (pv 4) (pv 1) (nomark _)))) (nomark _)))))), ?_⟩
  walk_at "rd"
  intro l1 hl1
  generalize hH1 : upd H l1 _ = H1
  obtain ⟨sm1, up1⟩ := newH hH1 hl1
  clear hH1
  refine set_try ?_
  generalize hW : wAs _ _ _ _ _ _ = W
  have key : ∀ cls d H2, rWish K n Q cls d H2 → W cls d [some (.ref f), some (.int n), some (.ref l1), none, none] H2 := by
    rintro _ _ H2 ⟨e, ⟨rfl, rfl⟩, rfl, q⟩
    rw [← hW]
    refine ⟨true, (GE.f e).ex, fun _ a ha => ⟨e, ⟨rfl, rfl⟩, ?_⟩, fun z => nomatch z⟩
    walk_at "rd"
    intro l3 hl3
    generalize hH3 : upd H2 l3 _ = H3
    obtain ⟨sm3, up3⟩ := newH hH3 hl3
    clear hH3
    walk_at "rd"
    intro l4 hl4
    generalize hH4 : upd H3 l4 _ = H4
    obtain ⟨sm4, up4⟩ := newH hH4 hl4
    clear hH4
    refine ⟨l3, l4, _, _, rfl, rfl, sm4 _ _ up3, up4, size4 (by simp), fun l5 hl5 => ?_⟩
    generalize hH5 : upd H4 l5 _ = H5
    obtain ⟨sm5, up5⟩ := newH hH5 hl5
    clear hH5
    walk_at "rd"
    intro l6 hl6
    generalize hH6 : upd H5 l6 _ = H6
    obtain ⟨sm6, up6⟩ := newH hH6 hl6
    clear hH6
    refine ⟨l5, l6, _, _, rfl, rfl, sm6 _ _ up5, up6, size4 (by simp), fun l7 hl7 => ?_⟩
    generalize hH7 : upd H6 l7 _ = H7
    obtain ⟨sm7, up7⟩ : Same H6 H7 ∧ H7 l7 = some (.lst ((dueL8 e).map V.bl)) := newH hH7 hl7
    clear hH7
    walk_at "rd"
    intro D hD
    refine lc_range (lo := 0) (n := 6) (fun j H' => Same H7 H' ∧ H' D = some (.lst ((dueR8 e j).map V.bl))) ⟨same_upd hD, upd_same⟩ ?_ ?_
    · rintro j H8 hj ⟨sm8, eD⟩
      have e0 : (0 : Int) + (j : Int) = j := by omega
      refine ⟨rfl, lc_yes ?_⟩
      walk_at "rd"
      refine ⟨_, eD, ?_, same_mut2 sm8 hD, ?_⟩
      · unfold dueR8
        rw [List.length_map, List.length_map, List.length_range]
        exact Nat.lt_trans hj (by decide)
      · unfold dueR8
        rw [upd_same, List.range_succ, List.map_append, List.map_append, e0]
        rfl
    rintro H8 ⟨sm8, eD⟩
    rw [← due_eq8] at eD
    refine ⟨_, _, .lst (sqL (sm8 _ _ up7)) (dp_bls _), .lst (sqL eD) (dp_bls _), shp_bls _, shp_bls _, ?_⟩
    rw [SeqAt.eqv_refl _ (shp_c (dueL8 e))]
    exact q _ (sm3.trans (sm4.trans (sm5.trans (sm6.trans (sm7.trans sm8)))))
  clear hW
  exact ⟨_, key, rfl, sm1 _ _ hc, h _ sm1 _⟩
end
section
variable {X : Cx} {pins : List (Addr × Obj)} {σ : L2.St} {H : Hp} {s : Shared}
/-- _law_ask(): the lambda runs, what it lets out is taken at these very slots -/
theorem pe_actS {f c' g : Addr} {cdg pm ctv : Value} {params : Arguments} {body : Expr} {scope : Scope} {k : Nat} {pn : List (Addr × Obj)} {xe : Value → Shared → Prop} {W : WX} {t : XK → TE} {p1 p2 : Pos}
    (I : Inv X pins σ H s) (L : LamS X.env.scope scope) (hf : s.heap.get? f = some (PySem.W.kla_obj "<lambda>" (X.env.qual ++ "<lambda>") params body scope (cloFrom X.env.cells scope.names []) pm c' ctv)) (hfn : H f = none) (hfr : f ∉ frs X.stack)
    (hbind : bindArgs (PySem.W.kla_fn "<lambda>" (X.env.qual ++ "<lambda>") params body scope (cloFrom X.env.cells scope.names []) pm (.ref c') ctv) ⟨[], []⟩ = pure [])
    (tk : L2.Takes ((cxOf CX0 X.prog X.w X.K X.mg X.base ["_law_ask", "_law_due", "_law_found", "error", "_law_one"] "_law_refused" (defScope s__law_refused) g cdg X.A X.stack s H E0).tr pn xe) W)
    (hr : Room (k + 1) (X.A.deeper (envOfC "_law_refused" (defScope s__law_refused) s.heap.objs.size g cdg)))
    (hbody : ∀ (A : Around) (outer : List Env) (s : Shared) (H : Hp) (E : XK), Room k (A.deeper (lamEnv X scope s.heap.objs.size f c')) → PE (lamCx X A outer s H E scope f c') body (t E)) :
    PE ((cxOf CX0 X.prog X.w X.K X.mg X.base ["_law_ask", "_law_due", "_law_found", "error", "_law_one"] "_law_refused" (defScope s__law_refused) g cdg X.A X.stack s H E0).tr pn xe) (.Call (.Name "_law_ask" p1) [] [] p2) (tAct f c' (X.env.qual ++ "<lambda>") (fun E H' Q' => t E σ H' Q') W) := by
  refine ⟨fun pinsZ sZ σZ HZ Q IZ ⟨E, hW, hs, hc, ht⟩ => ?_⟩
  refine wpAny_Call_Name_kw (thn ((pv (X := (cxOf CX0 X.prog X.w X.K X.mg X.base ["_law_ask", "_law_due", "_law_found", "error", "_law_one"] "_law_refused" (defScope s__law_refused) g cdg X.A X.stack s H E0).tr pn xe) 0 (x := "_law_ask") (pos := p1)).run pinsZ sZ σZ HZ (fun v H1 => v = .ref f ∧ H1 = HZ) IZ ⟨.ref f, hs, rfl, rfl⟩) fun u s1 ⟨v, H1, I1, r1, q1⟩ => ?_)
  obtain ⟨rfl, rfl⟩ := q1
  obtain rfl : u = Value.ref f := r1
  have of1 := I1.base.keep f _ hf hfn hfr (fun z => nomatch (show f ∈ ([] : List Addr) from z))
  refine PySem.W.callWith_F0 ⟨_, _, _, _, of1⟩ ?_
  obtain ⟨⟨oc, vs, tk', hoc, hdc, hvc⟩, _, _⟩ := I1.hok c' _ hc
  have rc : codeAny (model X.prog X.w) (X.A.deeper (envOfC "_law_refused" (defScope s__law_refused) s.heap.objs.size g cdg)) (.call (.ref f) ⟨[], []⟩) (CR (L2.CX X.prog X.w) (envOfC "_law_refused" (defScope s__law_refused) s.heap.objs.size g cdg :: X.stack) X.prog X.w H1 s1 Q E) s1 := by
    refine PySem.W.kla_callFunE hr.depth of1 rfl L.co L.gen rfl ⟨c', oc, vs, tk', rfl, hoc, hdc, hvc⟩ ?_
    rw [hbind]
    refine wpAny_pure (wpAny_newFunctionEnv (fun y hy => (L.own y hy).2) (fun y hy => absurd hy (by simp)) (fun h₁ hns hsb => ⟨I1.nolimit.fresh _ hsb, ?_⟩) L.kind)
    show codeAny _ _ (.expr body (lamEnv X scope s1.heap.objs.size f c')) _ _
    have J := lam_start2 (A := X.A.deeper (envOfC "_law_refused" (defScope s__law_refused) s.heap.objs.size g cdg)) (outer := envOfC "_law_refused" (defScope s__law_refused) s.heap.objs.size g cdg :: X.stack) (E := E) (f := f) (c' := c') (tk := s1.toks + ([] : List (Str × Value)).length) I L I1.env0 hr.hd I1.base hns
      (fun b o e => hsb.extBut b o (Nat.ne_of_lt (Heap.lt_size e)) (Heap.get?_push_of_some _ e))
    exact PySem.W.kla_codeExpr (wpAny_mono ((hbody _ _ s1 H1 E (hr.deeper _)).run [] _ _ H1 Q J ht) (fun v s' ⟨w', H', J', rv, q⟩ => ⟨w', H', J'.os, J'.bare, J'.base, J'.hok, rv, q⟩) fun e s' hq => hq)
  refine wpAny_call (codeAny_mono rc fun r s' hq => ?_)
  cases r with
  | error e => exact tk e s' (L2.XE.of_call I1 (fun cls d H' h => hW cls d H' h) hq)
  | ok fl =>
    cases fl with
    | ret u => exact I1.after hq
    | _ => exact False.elim hq
end
inductive tRef (T : List (Addr × Str)) (K : PySem.W.Frag) (n : Int) (t : XK → TE) (σ : L2.St) (H : Hp) (Q : VK) : Prop where
  | mk (hT : Tabs T H) (h : ∀ H1, ExtN H H1 → Tabs T H1 → ∀ H2, Same H1 H2 → ∀ Q', t (rWish K n Q) σ H2 Q') : tRef T K n t σ H Q
/-- _law_refused(lambda: body, n) -/
theorem pe_refused {X : Cx} {T : List (Addr × Str)} {c P : Addr} {k : Nat} {params : Arguments} {body : Expr} {scope : Scope} {t : XK → TE} {n : Int} {j : Nat} {p p2 lpos pos : Pos} (pr : Pl X.K X.mg "_law_refused" s__law_refused) (B : Bi X.mg) (GE : ErG X.K X.mg)
    (TB : TabB X.base X.mg c P) (hcode : X.env.code = .ref c) (hmT : (P, X.env.qual ++ "<lambda>") ∈ T) (hu : ∀ p ∈ T, p.1 = P → p.2 = X.env.qual ++ "<lambda>") (hr : Room (k + 2) X.A) (L : LamS X.env.scope scope) (hdef : defaultsOf params X.env = ([], []))
    (hbind : ∀ (q : Str) (cl : List (Str × Addr)) (pm cv ctv : Value), bindArgs (PySem.W.kla_fn "<lambda>" q params body scope cl pm cv ctv) ⟨[], []⟩ = pure [])
    (hbody : ∀ (A : Around) (outer : List Env) (s : Shared) (H : Hp) (E : XK) (f c' : Addr), Room k (A.deeper (lamEnv X scope s.heap.objs.size f c')) → PE (lamCx X A outer s H E scope f c') body (t E)) (hg : Gl X "_law_refused" := by rfl) :
    PE X (.Call (.Name "_law_refused" p) [.Lambda params body scope lpos, .Constant (.int n) j p2] [] pos) (tRef T X.K n t) := by
  refine ⟨fun pins s σ H Q I h => ?_⟩
  obtain ⟨hT, h⟩ := h
  obtain ⟨g, fd, F, hm⟩ := pr
  obtain ⟨oc, od, dV, kV, doc, pm, an, cdv, ct, osl, rfl, lk, hcd, _, _⟩ := F.ex
  refine wpAny_Call_Name_kw (ld_glob I hg hm ?_ (by decide))
  refine PySem.W.callWith_K (h₀ := X.base) I.ok.mod.kin F.kp ?_ (by rfl) (by rfl)
  show wpAny _ _ (spliced ((false, eval (.Lambda params body scope lpos) X.env) :: backTo pos (starEach [.Constant (.int n) j p2] X.env))) _ _ s
  refine Calls.spliced_cons (lam_make2 I TB hcode hmT hu hT hdef (L.has I.ok) fun f c' pm' ctv H1 s' I1 eN T1 hf hfn hfr hco => ?_)
  show wpAny _ _ (spliced ((false, eval (.Constant (.int n) j p2) X.env) :: backTo pos (starEach [] X.env))) _ _ s'
  refine Calls.spliced_cons (wpAny_Constant_int ?_)
  have I2 := I1.tok (s'.toks + 1)
  refine Calls.spliced_nil ⟨I2.kIn, ?_⟩
  obtain ⟨s2, hs2⟩ : ∃ s2 : Shared, s2 = { s' with toks := s'.toks + 1 } := ⟨_, rfl⟩
  have hf2 : s2.heap.get? f = some (PySem.W.kla_obj "<lambda>" (X.env.qual ++ "<lambda>") params body scope (cloFrom X.env.cells scope.names []) pm' c' ctv) := by rw [hs2]; exact hf
  rw [← hs2] at I2 ⊢
  have rc : ∀ u : Value, L2.RelV (.int n) u → codeAny (model X.prog X.w) X.A (.call (.ref g) ⟨[.ref f, u], []⟩) (CR CX0 X.stack X.prog X.w H1 s2 Q E0) s2 := fun u ru => by
    refine run_ofS (N := ["_law_ask", "_law_due", "_law_found", "error", "_law_one"]) (ps := ["_law_ask", "_law_due"]) (us := [.ref f, u]) (vs := [.ref f, .int n]) lk hcd sc__law_refused hr I2.env0 (F.bindsA (ps := ["_law_ask", "_law_due"]) (fun _ _ _ _ _ _ us hl => match us, hl with | [_, _], _ => rfl) s2 [.ref f, u] rfl) (.cons rfl (.cons ru .nil)) rfl fun hr' => ?_
    obtain ⟨t', ht', hq'⟩ := ref_body (f := f) (c' := c') (q := X.env.qual ++ "<lambda>") (n := n) (Q := Q) (tl := fun E H' Q' => t E σ H' Q') (E := E0) B GE (hr'.mono (Nat.zero_le _))
      (fun W pn xe p1 p2 tk => pe_actS I2 L hf2 hfn hfr (hbind _ _ _ _ _) tk hr' (fun A outer s H E hr2 => hbody A outer s H E f c' hr2)) hco (fun H2 sm Q' => h H1 eN T1 H2 sm Q')
    exact ⟨t', ht'.nox, hq'⟩
  refine wpAny_call (codeAny_mono (rc _ ⟨_, rfl⟩) fun r s2 hq => ?_)
  cases r with
  | error e => exact (show False from hq).elim
  | ok fl =>
    cases fl with
    | ret u => exact I2.after hq
    | next => exact False.elim hq
    | brk => exact False.elim hq
    | cont => exact False.elim hq
end BF

/-! ### k08: tables of the lambdas, sizes refused -/
namespace BF
open PySem PySem.Spec PyProof.Rows L2 LamX
/-- a def whose code object is at c -/
def PlC (K : PySem.W.Frag) (mg : Str → Option Value) (x : Str) (st : Stmt) (c : Addr) : Prop := ∃ f fd, FnP K x x st f fd ∧ mg x = some (.ref f) ∧ fd.code = .ref c
theorem PlC.mk0 {P : Program} {w : World} {K : PySem.W.Frag} {mg : Str → Option Value} {base : Heap} {x : Str} {st : Stmt} {N ps : List Str} {k : Nat} {sp : Sp} {c : Addr} (p : PlC K mg x st c) (S : FnScope N ps (defScope st))
    (hb : ∀ (kV doc pm : Value) (an : Option Addr) (cdv ct : Value) (us : List Value), us.length = ps.length → bindArgs (PySem.W.fnOf x x (defArgs st) (defBody st) (defScope st) .none kV doc pm an cdv ct) ⟨us, []⟩ = pure (ps.zip us))
    (len : ∀ vs H Q E, sp vs H Q E → vs.length = ps.length)
    (body : ∀ (f : Addr) (A : Around) (outer : List Env) (s : Shared) (H : Hp) (vs : List V) (Q : VK) (E : XK), Room k (A.deeper (envOfC x (defScope st) s.heap.objs.size f (.ref c))) → sp vs H Q E →
      ∃ t, PSs (cxOf CX0 P w K mg base N x (defScope st) f (.ref c) A outer s H E).nox (defBody st) t ∧ t { nx := fun _ H' => Q .non H', rt := Q } (start N vs) H) : Has P w K mg base CX0 (k + 1) x ps sp := by
  obtain ⟨f, fd, F, g, hc⟩ := p
  have Fb := F.bindsN hb
  have kp := F.kp
  obtain ⟨oc, od, dV, kV, doc, pm, an, cdv, ct, osl, rfl, lk, hcd, _, _⟩ := F.ex
  obtain rfl : cdv = .ref c := hc
  refine ⟨f, _, fn_of lk hcd S len fun A outer s H vs Q E hr hsp => ?_, g, kp, Fb, oc, od, osl, lk⟩
  obtain ⟨t, a, b⟩ := body f A outer s H vs Q E hr hsp
  exact ⟨t, a.nox, b⟩
abbrev cB (K : PySem.W.Frag) : Addr × Addr := He.cT K ("_law_bad_right", none)
abbrev cS (K : PySem.W.Frag) : Addr × Addr := He.cT K ("_law_sizes_refused", none)
abbrev qB : Str := ("_law_bad_right" ++ ".<locals>.") ++ "<lambda>"
abbrev qS : Str := ("_law_sizes_refused" ++ ".<locals>.") ++ "<lambda>"
def tabs (K : PySem.W.Frag) : List (Addr × Str) := [((cB K).2, qB), ((cS K).2, qS)]
theorem tabs_B {K : PySem.W.Frag} (ne : (cB K).2 ≠ (cS K).2) : ∀ p ∈ tabs K, p.1 = (cB K).2 → p.2 = qB := fun p hp e => by
  have z : p = ((cB K).2, qB) ∨ p = ((cS K).2, qS) := by simpa [tabs] using hp
  rcases z with rfl | rfl
  · rfl
  · exact absurd e.symm ne
theorem tabs_S {K : PySem.W.Frag} (ne : (cB K).2 ≠ (cS K).2) : ∀ p ∈ tabs K, p.1 = (cS K).2 → p.2 = qS := fun p hp e => by
  have z : p = ((cB K).2, qB) ∨ p = ((cS K).2, qS) := by simpa [tabs] using hp
  rcases z with rfl | rfl
  · exact absurd e ne
  · rfl
theorem memB {K : PySem.W.Frag} : ((cB K).2, qB) ∈ tabs K := .head _
theorem memS {K : PySem.W.Frag} : ((cS K).2, qS) ∈ tabs K := .tail _ (.head _)
theorem ExtN.lst {H H' : Hp} {a : Addr} {xs : List V} (e : ExtN H H') (h : H a = some (.lst xs)) : H' a = some (.lst xs) := e _ _ h (fun _ z => nomatch z)
theorem ExtN.tup {H H' : Hp} {a : Addr} {xs : List V} (e : ExtN H H') (h : H a = some (.tup xs)) : H' a = some (.tup xs) := e _ _ h (fun _ z => nomatch z)
theorem Kd.monoN {H H' : Hp} {v : V} {T : String} (h : Kd H v T) (sm : ExtN H H') : Kd H' v T := by
  cases h with
  | int n => exact .int n
  | bl b => exact .bl b
  | non => exact .non
  | str x => exact .str x
  | lst h => exact .lst (sm _ _ h (fun _ z => nomatch z))
  | tup h => exact .tup (sm _ _ h (fun _ z => nomatch z))
  | dct h => exact .dct (sm _ _ h (fun _ z => nomatch z))
theorem BadS.monoN {H H' : Hp} {v : V} (h : BadS H v) (sm : ExtN H H') : BadS H' v := by
  cases h with
  | low h => exact .low h
  | kd h hn => exact .kd (h.monoN sm) hn
theorem BadL.monoN {H H' : Hp} {xs : List V} (h : BadL H xs) (sm : ExtN H H') : BadL H' xs := by
  induction h with
  | here h => exact .here (h.monoN sm)
  | next h0 _ ih => exact .next h0 ih
theorem ref_in {T : List (Addr × Str)} {K : PySem.W.Frag} {n : Int} {t : XK → TE} {σ : L2.St} {H : Hp} {Q : VK} (e : Er) (hn : e.num = n) (hT : Tabs T H) (h : ∀ H1, ExtN H H1 → ∀ (Q' : VK) (E : XK), (∀ H', Same H1 H' → E (.ref (er K e)) none H') → t E σ H1 Q')
    (q : ∀ H', ExtN H H' → Tabs T H' → Q (.bl true) H') : tRef T K n t σ H Q :=
  ⟨hT, fun H1 e1 T1 H2 sm2 Q' => h H2 (e1.trans (ExtN.of sm2)) Q' _ fun H' sm' => ⟨e, ⟨rfl, rfl⟩, hn, fun H3 sm3 =>
    q H3 (e1.trans (ExtN.of (sm2.trans (sm'.trans sm3)))) (T1.ext (sm2.trans (sm'.trans sm3)))⟩⟩
inductive SpSizesR (K : PySem.W.Frag) : Sp where
  | mk {v0 v1 v2 v3 : V} {H : Hp} {Q : VK} {E : XK} (hb : BadL H [v0, v1, v2, v3]) (hT : Tabs (tabs K) H) (q : ∀ H', ExtN H H' → Tabs (tabs K) H' → Q (.bl true) H') : SpSizesR K [v0, v1, v2, v3] H Q E
section
variable {P : Program} {w : World} {K : PySem.W.Frag} {mg : Str → Option Value} {base : Heap}
theorem H__law_sizes_refused (p : PlC K mg "_law_sizes_refused" s__law_sizes_refused (cS K).1) (pr : Pl K mg "_law_refused" s__law_refused) (B : Bi mg) (GE : ErG K mg) (TB : TabB base mg (cS K).1 (cS K).2) (ne : (cB K).2 ≠ (cS K).2)
    (hx_told : Has P w K mg base (CXN P w) 3 "told" ["length", "width", "first", "second"] (SpSz K 4 0)) (hx_brick_on : Has P w K mg base (CXN P w) 4 "brick_on" ["length", "width", "first", "second", "cell"] (SpSz K 4 1))
    (hx_lying : Has P w K mg base (CXN P w) 4 "lying" ["length", "width", "first", "second"] (SpSz K 4 0)) (hx_standing : Has P w K mg base (CXN P w) 5 "standing" ["length", "width", "first", "second"] (SpSz K 4 0))
    (hx_judged : Has P w K mg base (CXN P w) 3 "judged" ["length", "width", "first", "second", "bricks"] (SpSz K 4 1)) : Has P w K mg base CX0 8 "_law_sizes_refused" ["_law_length", "_law_width", "_law_first", "_law_second"] (SpSizesR K) := by
  refine p.mk0 sc__law_sizes_refused (fun _ _ _ _ _ _ us hl => match us, hl with | [_, _, _, _], _ => rfl) (fun vs H Q E h => ?_) (fun f A outer s H vs Q E hr h => ?_)
  · cases h; rfl
  · obtain @⟨v0, v1, v2, v3, _, _, _, hb, hT, q⟩ := h
    have hmT := memS (K := K)
    have hu := tabs_S ne
    refine ⟨_, (pss_cons (ps_if (pt_not (pt_val (pe_refused (k := 5) pr B GE TB rfl hmT hu (hr.mono (by decide)) (lamS_by (sc := defScope s__law_sizes_refused) (by decide +kernel)) rfl (fun _ _ _ _ _ => rfl) (fun _ _ _ _ _ _ _ hr => pe_fn hx_told (hr.mono (by decide)) passL (pa_cons (pv 0) (pa_cons (pv 1) (pa_cons (pv 2) (pa_cons (pv 3) pa_nil)))))))) (pss_one (ps_ret pe_bl)) pss_nil)
      (pss_cons (ps_if (pt_not (pt_val (pe_refused (k := 5) pr B GE TB rfl hmT hu (hr.mono (by decide)) (lamS_by (sc := defScope s__law_sizes_refused) (by decide +kernel)) rfl (fun _ _ _ _ _ => rfl) (fun _ _ _ _ _ _ _ hr => pe_fn hx_brick_on (hr.mono (by decide)) passL (pa_cons (pv 0) (pa_cons (pv 1) (pa_cons (pv 2) (pa_cons (pv 3) (pa_cons pe_non pa_nil))))))))) (pss_one (ps_ret pe_bl)) pss_nil)
      (pss_cons (ps_if (pt_not (pt_val (pe_refused (k := 5) pr B GE TB rfl hmT hu (hr.mono (by decide)) (lamS_by (sc := defScope s__law_sizes_refused) (by decide +kernel)) rfl (fun _ _ _ _ _ => rfl) (fun _ _ _ _ _ _ _ hr => pe_fn hx_lying (hr.mono (by decide)) passL (pa_cons (pv 0) (pa_cons (pv 1) (pa_cons (pv 2) (pa_cons (pv 3) pa_nil)))))))) (pss_one (ps_ret pe_bl)) pss_nil)
      (pss_cons (ps_if (pt_not (pt_val (pe_refused (k := 5) pr B GE TB rfl hmT hu (hr.mono (by decide)) (lamS_by (sc := defScope s__law_sizes_refused) (by decide +kernel)) rfl (fun _ _ _ _ _ => rfl) (fun _ _ _ _ _ _ _ hr => pe_fn hx_standing (hr.mono (by decide)) passL (pa_cons (pv 0) (pa_cons (pv 1) (pa_cons (pv 2) (pa_cons (pv 3) pa_nil)))))))) (pss_one (ps_ret pe_bl)) pss_nil)
      (pss_one (ps_ret (pe_refused (k := 5) pr B GE TB rfl hmT hu (hr.mono (by decide)) (lamS_by (sc := defScope s__law_sizes_refused) (by decide +kernel)) rfl (fun _ _ _ _ _ => rfl) (fun _ _ _ _ _ _ _ hr => pe_fn hx_judged (hr.mono (by decide)) passL (pa_cons (pv 0) (pa_cons (pv 1) (pa_cons (pv 2) (pa_cons (pv 3) (pa_cons pe_non pa_nil))))))))))))), ?_⟩
    refine ref_in .size rfl hT (fun H1 e1 Q' E' hE => ?_) (fun H1 e1 T1 => ⟨true, rfl, iteF ?_⟩)
    · walk_at "rd"
      exact .mk (xs := [v0, v1, v2, v3]) (ys := []) rfl rfl (hb.monoN e1) hE
    refine ref_in .size rfl T1 (fun H2 e2 Q' E' hE => ?_) (fun H2 e2 T2 => ⟨true, rfl, iteF ?_⟩)
    · walk_at "rd"
      exact .mk (xs := [v0, v1, v2, v3]) (ys := [.non]) rfl rfl (hb.monoN (e1.trans e2)) hE
    have e2 := e1.trans e2
    refine ref_in .size rfl T2 (fun H3 e3 Q' E' hE => ?_) (fun H3 e3 T3 => ⟨true, rfl, iteF ?_⟩)
    · walk_at "rd"
      exact .mk (xs := [v0, v1, v2, v3]) (ys := []) rfl rfl (hb.monoN (e2.trans e3)) hE
    have e3 := e2.trans e3
    refine ref_in .size rfl T3 (fun H4 e4 Q' E' hE => ?_) (fun H4 e4 T4 => ⟨true, rfl, iteF ?_⟩)
    · walk_at "rd"
      exact .mk (xs := [v0, v1, v2, v3]) (ys := []) rfl rfl (hb.monoN (e3.trans e4)) hE
    have e4 := e3.trans e4
    refine ref_in .size rfl T4 (fun H5 e5 Q' E' hE => ?_) (fun H5 e5 T5 => q _ (e4.trans e5) T5)
    walk_at "rd"
    exact .mk (xs := [v0, v1, v2, v3]) (ys := [.non]) rfl rfl (hb.monoN (e4.trans e5)) hE
end
end BF

/-! ### k08: one bad brick at a drawn place, and the last -/
namespace BF
open PySem PySem.Spec PyProof.Rows L2
theorem cut_take (ps : List (Addr × Brick)) (a : Nat) : cutV (refs ps) none (some (a : Int)) = refs (ps.take a) := by
  unfold cutV refs
  rw [HT.sIx_none, HT.sIx_nat, List.drop_zero, Nat.sub_zero, List.length_map, ← List.map_take, ← List.take_eq_take_min]
theorem cut_drop (ps : List (Addr × Brick)) (a : Nat) : cutV (refs ps) (some (a : Int)) none = refs (ps.drop a) := by
  unfold cutV refs
  rw [HT.sIx_none, HT.sIx_nat, List.length_map, ← List.map_drop, ← List.map_take]
  congr 1
  rcases Nat.le_total a ps.length with h | h
  · rw [Nat.min_eq_left h]
    exact List.take_of_length_le (by rw [List.length_drop]; exact Nat.le_refl _)
  · rw [Nat.min_eq_right h, List.drop_of_length_le h, List.drop_of_length_le (Nat.le_refl _)]
    exact List.take_nil
theorem BrL.app {H : Hp} {xs ys : List V} {bs cs : List Bool} (h1 : BrL H xs bs) (h2 : BrL H ys cs) : BrL H (xs ++ ys) (bs ++ cs) := by
  refine ⟨by rw [List.length_append, List.length_append, h1.1, h2.1], fun i v b e1 e2 => ?_⟩
  by_cases hi : i < xs.length
  · rw [List.getElem?_append_left hi] at e1
    rw [List.getElem?_append_left (by rw [← h1.1]; exact hi)] at e2
    exact h1.2 i v b e1 e2
  · rw [List.getElem?_append_right (by omega)] at e1
    rw [List.getElem?_append_right (by rw [← h1.1]; omega), ← h1.1] at e2
    exact h2.2 _ v b e1 e2
theorem BrL.one {H : Hp} {v : V} {b : Bool} (h : BrK H v b) : BrL H [v] [b] := by
  refine ⟨rfl, fun i x c e1 e2 => ?_⟩
  cases i with
  | zero =>
    cases e1
    cases e2
    exact h
  | succ i => cases e1
theorem BrL.good {H : Hp} {ps : List (Addr × Brick)} (h : BrT H ps) : BrL H (refs ps) (ps.map fun _ => true) := by
  refine ⟨by rw [refs_len, List.length_map], fun i v b e1 e2 => ?_⟩
  unfold refs at e1
  rw [List.getElem?_map] at e1 e2
  cases e : ps[i]? with
  | none => rw [e] at e1; cases e1
  | some p =>
    rw [e] at e1 e2
    cases e1
    cases e2
    exact .good (h p (List.mem_of_getElem? e))
theorem BrT.take {H : Hp} {ps : List (Addr × Brick)} (h : BrT H ps) (n : Nat) : BrT H (ps.take n) := fun p hp => h p (List.mem_of_mem_take hp)
theorem BrT.drop {H : Hp} {ps : List (Addr × Brick)} (h : BrT H ps) (n : Nat) : BrT H (ps.drop n) := fun p hp => h p (List.mem_of_mem_drop hp)
theorem spoil_bad {H : Hp} {ps : List (Addr × Brick)} {y : V} {a : Addr} {n m : Nat} (h : BrT H ps) (hy : BrK H y false) (hl : ps.length ≤ 100) (ha : H a = some (.lst (refs (ps.take n) ++ [y] ++ refs (ps.drop m)))) : BadB H (.ref a) := by
  refine .lst ha ?_ ((BrL.good (h.take n)).app (.one hy) |>.app (BrL.good (h.drop m))) ?_
  · rw [List.length_append, List.length_append, refs_len, refs_len, List.length_take, List.length_drop]
    simp only [List.length_cons, List.length_nil]
    omega
  · rw [List.all_append, List.all_append]
    simp
inductive Spo (ps : List (Addr × Brick)) (ys : List V) (n : Nat) (D : Addr) (H : Hp) : V → Prop where
  | mk {b : Addr} {y : V} (hn : b ≠ D) (hy : y ∈ ys) (h : H b = some (.lst (refs (ps.take n) ++ [y] ++ refs (ps.drop (n + 1))))) : Spo ps ys n D H (.ref b)
theorem Spo.mono {ps : List (Addr × Brick)} {ys : List V} {n : Nat} {D : Addr} {H H' : Hp} {v : V} (h : Spo ps ys n D H v) (sm : Same H H') : Spo ps ys n D H' v := by
  obtain ⟨hn, hy, h⟩ := h
  exact .mk hn hy (sm _ _ h)
theorem Spo.upd {ps : List (Addr × Brick)} {ys : List V} {n : Nat} {D : Addr} {H : Hp} {v : V} {u : HO} (h : Spo ps ys n D H v) : Spo ps ys n D (upd H D u) v := by
  obtain ⟨hn, hy, h⟩ := h
  exact .mk hn hy (by rw [upd_ne hn]; exact h)
inductive SpSpoil (K : PySem.W.Frag) : Sp where
  | mk {g o : Addr} {ps : List (Addr × Brick)} {ys : List V} {m : Int} {H : Hp} {Q : VK} {E : XK} (hm : Bn 100 m) (hg : H g = some (.lst (refs ps))) (hp : BrT H ps) (hl : ps.length = 100) (ho : H o = some (.lst ys)) (hy : ∀ y ∈ ys, BrK H y false) (hyl : ys.length ≤ 20)
      (q : ∀ H' l zs, Same H H' → H' l = some (.lst zs) → zs.length ≤ 40 → (∀ z ∈ zs, BadB H' z) → Q (.ref l) H') : SpSpoil K [.ref g, .int m, .ref o] H Q E
inductive SpoI (g o : Addr) (m : Int) (n : Nat) (H : Hp) (i : Nat) : L2.St → Hp → Prop where
  | mk {F : Addr} {zs : List V} {a b : Option V} {H' : Hp} (sm : Same H H') (hF : H' F = some (.lst zs)) (hl : zs.length = i * n) (hz : ∀ z ∈ zs, BadB H' z) : SpoI g o m n H i [some (.ref g), some (.int m), some (.ref o), some (.ref F), a, b] H'
theorem two_sorted {ns : List Int} {a b : Int} (hm : ∀ k, k ∈ ns ↔ decide (k ∈ [a, b]) = true) : ∀ k ∈ ns, k = a ∨ k = b := fun k hk => by
  have z := of_decide_eq_true ((hm k).mp hk)
  simpa using z
section
variable {P : Program} {w : World} {K : PySem.W.Frag} {mg : Str → Option Value} {base : Heap}
theorem H__law_spoiled (p : Pl K mg "_law_spoiled" s__law_spoiled) (B : Bi mg) : Has P w K mg base CX0 1 "_law_spoiled" ["_law_good", "_law_more", "_law_odd"] (SpSpoil K) := by
  refine p.mk0 sc__law_spoiled (fun _ _ _ _ _ _ us hl => match us, hl with | [_, _, _], _ => rfl) (fun vs H Q E h => ?_) (fun f cdv A outer s H vs Q E hr h => ?_)
  · cases h; rfl
  · obtain @⟨g, o, ps, ys, m, _, _, _, hm, hg, hp, hl, ho, hy, hyl, q⟩ := h
    refine ⟨_, (pss_cons (ps_set (i := 3) sc__law_spoiled.nd rfl (Or.inl rfl) (pe_lst pa_nil))
      (pss_cons (ps_for PassesOwn.never (by rfl) (pi_list (pe_callB (cr_sortedSet rfl) (by rfl) B.sorted (by decide +kernel) (pa_cons (pe_callTy (cr_setOfI rfl) (by rfl) B.set (by decide +kernel) (pa_cons (pe_lst (pa_cons (pe_op op_mod (pv 1) (pe_callB (r := rLen2 K) call_len_seq (by rfl) B.len PySem.boot_len (pa_cons (pv 0) pa_nil))) (pa_cons (pe_op op_sub (pe_callB (r := rLen2 K) call_len_seq (by rfl) B.len PySem.boot_len (pa_cons (pv 0) pa_nil)) pe_int) pa_nil))) pa_nil)) pa_nil))) (pg_name (i := 4) sc__law_spoiled.nd rfl (Or.inr rfl)) (pss_one (ps_set (i := 3) sc__law_spoiled.nd rfl (Or.inl rfl) (pe_op op_cat (pv 3) (pe_lc (own := [("_law_bad", 5)]) (by rfl) sc__law_spoiled.nd (pi_list (pv 2)) (blkOk_by (own := [("_law_bad", 5)]) (N := ["_law_good", "_law_more", "_law_odd", "_law_found", "_law_at", "_law_bad"]) (sc := defScope s__law_spoiled) (by decide +kernel)) (fun _ _ _ _ _ => (pg_name (i := 5) sc__law_spoiled.nd rfl (Or.inl rfl))) (fun _ _ _ _ _ => pts_nil) (fun _ _ _ _ _ => (pe_op op_cat (pe_op op_cat (pe_slice (r := rSlL K) sl_list (pv 0) po_none (po_some (pv 4))) (pe_lst (pa_cons (pv 5) pa_nil))) (pe_slice (r := rSlL K) sl_list (pv 0) (po_some (pe_op op_add (pv 4) pe_int)) po_none))))))))
      (pss_one (ps_ret (pv 3))))), ?_⟩
    walk_at "rd"
    intro l1 hl1
    generalize hH1 : upd H l1 _ = H1
    obtain ⟨sm1, up1⟩ : Same H H1 ∧ H1 l1 = some (.lst []) := newH hH1 hl1
    clear hH1
    have hg1 := sm1 _ _ hg
    have hlr : ((refs ps).length : Int) = 100 := by rw [refs_len, hl]; rfl
    walk_at "rd"
    refine ⟨g, _, rfl, .inl (sqL hg1), ?_⟩
    rw [hlr]
    walk_at "rd"
    refine ⟨g, _, rfl, .inl (sqL hg1), ?_⟩
    rw [hlr]
    walk_at "rd"
    intro l2 hl2
    generalize hH2 : upd H1 l2 _ = H2
    obtain ⟨sm2, up2⟩ : Same H1 H2 ∧ H2 l2 = some (.lst ([m % 100, 99].map V.int)) := newH hH2 hl2
    clear hH2
    refine ⟨l2, [m % 100, 99], rfl, sqL up2, (show 2 ≤ 1000 by decide), fun a c ha hc => ?_⟩
    generalize hH3 : upd H2 a _ = H3
    obtain ⟨sm3, up3⟩ := newH hH3 ha
    clear hH3
    have hc2 : c ≤ 2 := hc
    refine ⟨a, _, c, rfl, up3, by omega, fun ns p3 _ hmem hnl hp3 => ?_⟩
    generalize hH4 : upd H3 p3 _ = H4
    obtain ⟨sm4, up4⟩ := newH hH4 hp3
    clear hH4
    have hns := two_sorted hmem
    have s14 : Same H1 H4 := sm2.trans (sm3.trans sm4)
    have s04 : Same H H4 := sm1.trans s14
    refine ⟨p3, rfl, ⟨_, sqL up4⟩, for_list (K := K) (a := p3) (xs := ns.map V.int) (fun i σ H' => SpoI g o m ys.length H4 i σ H') (.mk (Same.refl _) (s14 _ _ up1) (by rw [Nat.zero_mul]; rfl) (fun _ z => nomatch z)) ?_ ?_ ?_⟩
    · rintro i σ H' _ ⟨sm, _⟩
      exact sqL (sm _ _ up4)
    · rintro i y σ H5 hi ⟨sm5, hF, hzl, hz⟩
      rw [List.getElem?_map] at hi
      obtain ⟨k, hk, rfl⟩ := Option.map_eq_some_iff.mp hi
      have hlt := (List.getElem?_eq_some_iff.mp hk).1
      obtain ⟨n, rfl, hn⟩ : ∃ n : Nat, k = (n : Int) ∧ n < 100 := by
        rcases hns k (List.mem_of_getElem? hk) with e | e
        · exact ⟨(m % 100).toNat, by omega, by omega⟩
        · exact ⟨99, e, by omega⟩
      rename_i F zs a0 b0
      have s05 := s04.trans sm5
      have hg5 := s05 _ _ hg
      walk_at "rd"
      refine ⟨⟨_, sqL (s05 _ _ ho)⟩, fun D hD => ?_⟩
      refine lc_list (K := K) (a := o) (xs := ys) (fun j H' => Same H5 H' ∧ ∃ ws, H' D = some (.lst ws) ∧ ws.length = j ∧ ∀ z ∈ ws, Spo ps ys n D H' z) ⟨same_upd hD, [], upd_same, rfl, fun _ z => nomatch z⟩ (fun j H' _ ⟨sm, _⟩ => sqL (sm _ _ (s05 _ _ ho))) ?_ ?_
      · rintro j y H6 hj ⟨sm6, ws, eD, hwl, hw⟩
        have hjl := (List.getElem?_eq_some_iff.mp hj).1
        have s06 := s05.trans sm6
        have hg6 := s06 _ _ hg
        refine ⟨rfl, lc_yes ?_⟩
        walk_at "rd"
        refine ⟨g, _, rfl, sqL hg6, fun p1 hp1 => ?_⟩
        generalize hH7 : upd H6 p1 _ = H7
        obtain ⟨sm7, up7⟩ : Same H6 H7 ∧ H7 p1 = some (.lst (refs (ps.take n))) := by rw [← cut_take]; exact newH hH7 hp1
        clear hH7
        walk_at "rd"
        intro p2 hp2
        generalize hH8 : upd H7 p2 _ = H8
        obtain ⟨sm8, up8⟩ : Same H7 H8 ∧ H8 p2 = some (.lst [y]) := newH hH8 hp2
        clear hH8
        refine ⟨p1, p2, _, _, rfl, rfl, sm8 _ _ up7, up8, size4 (by rw [refs_len, List.length_take]; simp only [List.length_cons, List.length_nil]; omega), fun p3 hp3 => ?_⟩
        generalize hH9 : upd H8 p3 _ = H9
        obtain ⟨sm9, up9⟩ := newH hH9 hp3
        clear hH9
        have s69 : Same H6 H9 := sm7.trans (sm8.trans sm9)
        walk_at "rd"
        refine ⟨g, _, rfl, sqL (s69 _ _ hg6), fun p4 hp4 => ?_⟩
        generalize hHa : upd H9 p4 _ = Ha
        obtain ⟨sma, upa⟩ : Same H9 Ha ∧ Ha p4 = some (.lst (refs (ps.drop (n + 1)))) := by rw [← cut_drop]; exact newH hHa hp4
        clear hHa
        refine ⟨p3, p4, _, _, rfl, rfl, sma _ _ up9, upa, size4 (by simp only [List.length_append, refs_len, List.length_take, List.length_drop, List.length_cons, List.length_nil]; omega), fun p5 hp5 => ?_⟩
        generalize hHb : upd Ha p5 _ = Hb
        obtain ⟨smb, upb⟩ := newH hHb hp5
        clear hHb
        have s6a : Same H6 Ha := s69.trans sma
        have s6b : Same H6 Hb := s6a.trans smb
        have n5 : p5 ≠ D := fun e => by
          have z := s6a _ _ eD
          rw [← e, hp5] at z
          cases z
        refine ⟨ws, s6b _ _ eD, Nat.lt_of_lt_of_le (show ws.length < 100 by omega) (by rw [sizeLine_eq]; decide), same_mut2 (sm6.trans s6b) hD, ws ++ [.ref p5], upd_same, by rw [List.length_append, hwl]; rfl, fun z hz => ?_⟩
        rcases List.mem_append.mp hz with hz | hz
        · exact ((hw z hz).mono s6b).upd
        · rw [List.mem_singleton] at hz
          subst hz
          exact (Spo.mk n5 (List.mem_of_getElem? hj) upb).upd
      rintro H6 ⟨sm6, ws, eD, hwl, hw⟩
      have s06 := s05.trans sm6
      refine ⟨F, D, _, _, rfl, rfl, sm6 _ _ hF, eD, size4 ?_, fun F2 hF2 => ?_⟩
      · rw [hzl, hwl]
        have : i * ys.length ≤ 2 * 20 := Nat.mul_le_mul (by omega) hyl
        omega
      generalize hH7 : upd H6 F2 _ = H7
      obtain ⟨sm7, up7⟩ := newH hH7 hF2
      clear hH7
      have s67 := sm6.trans sm7
      refine .mk (sm5.trans s67) up7 (by rw [List.length_append, hzl, hwl, Nat.succ_mul]) fun z hz' => ?_
      rcases List.mem_append.mp hz' with hz' | hz'
      · exact (hz z hz').mono' s67
      · obtain ⟨_, hy2, hb2⟩ := hw z hz'
        exact spoil_bad ((hp.mono s06).mono sm7) (((hy _ hy2).mono s06).mono sm7) (by omega) (sm7 _ _ hb2)
    · rintro σ H5 ⟨sm5, hF, hzl, hz⟩
      refine ⟨_, rfl, q _ _ _ (s04.trans sm5) hF ?_ hz⟩
      rw [hzl, List.length_map, hnl]
      exact Nat.le_trans (Nat.mul_le_mul hc2 hyl) (by decide)
end
end BF

/-! ### k08: what are no sizes, colours, cells, bricks (printed by k08c.py) -/
namespace BF
open PySem PySem.Spec PyProof.Rows L2 LamX
theorem all_nil {P : V → Prop} : ∀ v ∈ ([] : List V), P v := fun v h => nomatch h
theorem all_cons {P : V → Prop} {x : V} {xs : List V} (h : P x) (t : ∀ v ∈ xs, P v) : ∀ v ∈ x :: xs, P v := fun v hv => by
  rcases List.mem_cons.mp hv with e | z
  · rw [e]
    exact h
  · exact t v z
theorem all_app {P : V → Prop} {xs ys : List V} (h : ∀ v ∈ xs, P v) (t : ∀ v ∈ ys, P v) : ∀ v ∈ xs ++ ys, P v := fun v hv => by
  rcases List.mem_append.mp hv with z | z
  · exact h v z
  · exact t v z
/-- one more brick in a comprehension's list -/
theorem lc_brickV {H2 H3 : Hp} {D p4 : Addr} {ds : List (Addr × Brick)} {b : Brick} {l : List Brick} (hD : H2 D = none) (sm3 : Same H2 H3) (eD : H3 D = some (.lst (refs ds))) (hds : BrT H3 ds) (hp4 : H3 p4 = none) (hn : ds.length < 1000) (hl : vals ds ++ [b] = l) :
    ∃ acc, (upd H3 p4 (.tup b.vs)) D = some (.lst acc) ∧ acc.length < sizeLine ∧ Same H2 (upd (upd H3 p4 (.tup b.vs)) D (.lst (acc ++ [.ref p4]))) ∧ ∃ es, (upd (upd H3 p4 (.tup b.vs)) D (.lst (acc ++ [.ref p4]))) D = some (.lst (refs es)) ∧ BrT (upd (upd H3 p4 (.tup b.vs)) D (.lst (acc ++ [.ref p4]))) es ∧ vals es = l := by
  have e4 := same_upd (o := .tup b.vs) hp4 _ _ eD
  refine ⟨refs ds, e4, ?_, same_mut (sm3.trans (same_upd hp4)) hD, ds ++ [(p4, b)], ?_, ?_, ?_⟩
  · rw [refs_len]
    exact Nat.lt_trans hn (by decide)
  · rw [upd_same, refs_app]
    rfl
  · exact ((hds.mono (same_upd hp4)).app (.one upd_same)).lst e4
  · rw [vals_app, ← hl]
    rfl
theorem sz_big {x : Int} (h0 : 0 < x) (h : x < 2000000000000000000000000000000000000000000000000000000000000) : Sz x := by
  refine ⟨h0, Bn.mono (n := 210) ⟨?_⟩ (by decide)⟩
  have l : (2000000000000000000000000000000000000000000000000000000000000 : Nat) < 2 ^ 210 := by decide
  omega
theorem free_4623 : Free 4 6 2 3 := free_of (m := 2) (n := 0) (u := 3) (v := 0) (by decide) (by decide) (.inl (by decide)) (.inr (by decide)) ⟨by decide, by decide, by decide⟩ ⟨by decide, by decide, by decide⟩
theorem nfree_5523 : ¬ Free 5 5 2 3 := fun h => absurd h.1 (by decide)
theorem nfree_3322 : ¬ Free 3 3 2 2 := fun h => absurd h.1 (by decide)
theorem BadC.monoN {L W : Int} {H H' : Hp} {v : V} (h : BadC L W H v) (sm : ExtN H H') : BadC L W H' v := by
  cases h with
  | kd h hn => exact .kd (h.monoN sm) hn
  | len h hl => exact .len (sm _ _ h (fun _ z => nomatch z)) hl
  | fst h k hn => exact .fst (sm _ _ h (fun _ z => nomatch z)) (k.monoN sm) hn
  | snd h k hn => exact .snd (sm _ _ h (fun _ z => nomatch z)) (k.monoN sm) hn
  | out h ho => exact .out (sm _ _ h (fun _ z => nomatch z)) ho
theorem BadK.monoN {s : Int} {H H' : Hp} {v : V} (h : BadK s H v) (sm : ExtN H H') : BadK s H' v := by
  cases h with
  | kd h hn => exact .kd (h.monoN sm) hn
  | out ho => exact .out ho
theorem BrK.monoN {H H' : Hp} {v : V} {b : Bool} (h : BrK H v b) (sm : ExtN H H') : BrK H' v b := by
  cases h with
  | good h => exact .good (sm _ _ h (fun _ z => nomatch z))
  | kd h hn => exact .kd (h.monoN sm) hn
  | len h hl => exact .len (sm _ _ h (fun _ z => nomatch z)) hl
  | trd h k hn => exact .trd (sm _ _ h (fun _ z => nomatch z)) (k.monoN sm) hn
  | fst h k hn => exact .fst (sm _ _ h (fun _ z => nomatch z)) (k.monoN sm) hn
  | snd h k hn => exact .snd (sm _ _ h (fun _ z => nomatch z)) (k.monoN sm) hn
theorem BadB.monoN {H H' : Hp} {v : V} (h : BadB H v) (sm : ExtN H H') : BadB H' v := by
  cases h with
  | kd h hn => exact .kd (h.monoN sm) hn
  | lst h hl hb ha => exact .lst (sm _ _ h (fun _ z => nomatch z)) hl ⟨hb.1, fun i v b e1 e2 => (hb.2 i v b e1 e2).monoN sm⟩ ha
theorem BrT.monoN {H H' : Hp} {ps : List (Addr × Brick)} (h : BrT H ps) (sm : ExtN H H') : BrT H' ps := fun p hp => sm _ _ (h p hp) (fun _ z => nomatch z)
/-- four values, one of them no size -/
inductive FourB (H : Hp) : V → Prop where
  | mk {t : Addr} {v0 v1 v2 v3 : V} (h : H t = some (.tup [v0, v1, v2, v3])) (hb : BadL H [v0, v1, v2, v3]) : FourB H (.ref t)
theorem FourB.monoN {H H' : Hp} {v : V} (h : FourB H v) (sm : ExtN H H') : FourB H' v := by
  obtain ⟨h, hb⟩ := h
  exact .mk (sm _ _ h (fun _ z => nomatch z)) (hb.monoN sm)
inductive SpBad (K : PySem.W.Frag) : Sp where
  | mk {m : Int} {H : Hp} {Q : VK} {E : XK} (h0 : 0 ≤ m) (h1 : m < 1000000) (hT : Tabs (tabs K) H) (q : ∀ H', Q (.bl true) H') : SpBad K [.int m] H Q E
/-- the loops: what was made before stays, but for the tables -/
inductive BaI (K : PySem.W.Frag) (m : Int) (H : Hp) (y3 y4 : Option V) : L2.St → Hp → Prop where
  | mk {H' : Hp} {y1 y2 : Option V} (e : ExtN H H') (T : Tabs (tabs K) H') : BaI K m H y3 y4 [some (.int m), y1, y2, y3, y4, none] H'
inductive BaJ (K : PySem.W.Frag) (m : Int) (v : V) (H : Hp) : L2.St → Hp → Prop where
  | mk {H' : Hp} {y2 : Option V} (e : ExtN H H') (T : Tabs (tabs K) H') : BaJ K m v H [some (.int m), some v, y2, none, none, none] H'
section
variable {P : Program} {w : World} {K : PySem.W.Frag} {mg : Str → Option Value} {base : Heap}
theorem H__law_bad_right (p : PlC K mg "_law_bad_right" s__law_bad_right (cB K).1) (pr : Pl K mg "_law_refused" s__law_refused) (B : Bi mg) (G : ClG K mg) (GE : ErG K mg) (TB : TabB base mg (cB K).1 (cB K).2) (ne : (cB K).2 ≠ (cS K).2)
    (h__law_sizes_refused : Has P w K mg base CX0 8 "_law_sizes_refused" ["_law_length", "_law_width", "_law_first", "_law_second"] (SpSizesR K))
    (h__law_spoiled : Has P w K mg base CX0 1 "_law_spoiled" ["_law_good", "_law_more", "_law_odd"] (SpSpoil K))
    (hx_sum_of : Has P w K mg base (CXN P w) 3 "sum_of" ["size", "first", "second"] (SpSz K 3 0)) (hx_alike : Has P w K mg base (CXN P w) 3 "alike" ["length", "width", "size", "colour"] (SpSz K 3 1))
    (hk_alike : Has P w K mg base (CXN P w) 3 "alike" ["length", "width", "size", "colour"] (SpColX K)) (hc_brick_on : Has P w K mg base (CXN P w) 5 "brick_on" ["length", "width", "first", "second", "cell"] (SpBrickC K))
    (hb_brick_on : Has P w K mg base (CXN P w) 5 "brick_on" ["length", "width", "first", "second", "cell"] (SpBrickX K)) (hb_lying : Has P w K mg base (CXN P w) 5 "lying" ["length", "width", "first", "second"] (SpLaidX K))
    (hb_standing : Has P w K mg base (CXN P w) 6 "standing" ["length", "width", "first", "second"] (SpLaidX K)) (hg_judged : Has P w K mg base (CXN P w) 3 "judged" ["length", "width", "first", "second", "bricks"] (SpGrX K))
    (hb_judged : Has P w K mg base (CXN P w) 3 "judged" ["length", "width", "first", "second", "bricks"] (SpBrX K)) (h_judged : Has P w K mg base CX0 3 "judged" ["length", "width", "first", "second", "bricks"] (SpJudged K)) :
    Has P w K mg base CX0 9 "_law_bad_right" ["_law_more"] (SpBad K) := by
  refine p.mk0 sc__law_bad_right (fun _ _ _ _ _ _ us hl => match us, hl with | [_], _ => rfl) (fun vs H Q E h => ?_) (fun f A outer s H vs Q E hr h => ?_)
  · cases h; rfl
  · obtain @⟨m, _, _, _, h0, h1, hT, q⟩ := h
    have hmT := memB (K := K)
    have hu := tabs_B ne
    have z1 : ∀ x : Int, 0 < x → x < 1000 → Sz x := fun x a b => sz_big a (Int.lt_trans b (by decide))
    refine ⟨_, (pss_cons (ps_for PassesOwn.never (by rfl) (pi_tup (pe_tup (pa_cons pe_non (pa_cons pe_str (pa_cons pe_bl (pa_cons pe_bl (pa_cons (pe_lst (pa_cons pe_int pa_nil)) (pa_cons pe_int (pa_cons (pe_un un_neg pe_int) (pa_cons (pe_un un_neg (pe_op op_pow pe_int pe_int)) pa_nil)))))))))) (pg_name (i := 1) sc__law_bad_right.nd rfl (Or.inr rfl)) (pss_cons (ps_for PassesOwn.never (by rfl) (pi_tup (pe_tup (pa_cons (pe_tup (pa_cons (pv 1) (pa_cons pe_int (pa_cons pe_int (pa_cons pe_int pa_nil))))) (pa_cons (pe_tup (pa_cons pe_int (pa_cons (pv 1) (pa_cons pe_int (pa_cons pe_int pa_nil))))) (pa_cons (pe_tup (pa_cons pe_int (pa_cons pe_int (pa_cons (pv 1) (pa_cons pe_int pa_nil))))) (pa_cons (pe_tup (pa_cons pe_int (pa_cons pe_int (pa_cons pe_int (pa_cons (pv 1) pa_nil))))) pa_nil)))))) (pg_name (i := 2) sc__law_bad_right.nd rfl (Or.inl rfl)) (pss_one (ps_if (pt_not (pt_val (pe_fn h__law_sizes_refused (hr.mono (by decide)) pass0 (pa_cons (pe_ix (r := rIxT K) ix_tup (pv 2) pe_int (fun _ _ => rfl)) (pa_cons (pe_ix (r := rIxT K) ix_tup (pv 2) pe_int (fun _ _ => rfl)) (pa_cons (pe_ix (r := rIxT K) ix_tup (pv 2) pe_int (fun _ _ => rfl)) (pa_cons (pe_ix (r := rIxT K) ix_tup (pv 2) pe_int (fun _ _ => rfl)) pa_nil))))))) (pss_one (ps_ret pe_bl)) pss_nil)))
      (pss_cons (ps_if (pt_not (pt_val (pe_refused (k := 6) pr B GE TB rfl hmT hu (hr.mono (by decide)) (lamS_by (sc := defScope s__law_bad_right) (by decide +kernel)) rfl (fun _ _ _ _ _ => rfl) (fun _ _ _ _ _ _ _ hr => pe_fn hx_sum_of (hr.mono (by decide)) passL (pa_cons (pv 1) (pa_cons pe_int (pa_cons pe_int pa_nil))))))) (pss_one (ps_ret pe_bl)) pss_nil)
      (pss_cons (ps_if (pt_not (pt_val (pe_refused (k := 6) pr B GE TB rfl hmT hu (hr.mono (by decide)) (lamS_by (sc := defScope s__law_bad_right) (by decide +kernel)) rfl (fun _ _ _ _ _ => rfl) (fun _ _ _ _ _ _ _ hr => pe_fn hx_sum_of (hr.mono (by decide)) passL (pa_cons pe_int (pa_cons pe_int (pa_cons (pv 1) pa_nil))))))) (pss_one (ps_ret pe_bl)) pss_nil)
      (pss_one (ps_if (pt_not (pt_val (pe_refused (k := 6) pr B GE TB rfl hmT hu (hr.mono (by decide)) (lamS_by (sc := defScope s__law_bad_right) (by decide +kernel)) rfl (fun _ _ _ _ _ => rfl) (fun _ _ _ _ _ _ _ hr => pe_fn hx_alike (hr.mono (by decide)) passL (pa_cons pe_int (pa_cons pe_int (pa_cons (pv 1) (pa_cons pe_non pa_nil)))))))) (pss_one (ps_ret pe_bl)) pss_nil))))))
      (pss_cons (ps_for PassesOwn.never (by rfl) (pi_tup (pe_tup (pa_cons pe_non (pa_cons pe_str (pa_cons pe_bl (pa_cons (pe_lst (pa_cons pe_int pa_nil)) (pa_cons (pe_un un_neg pe_int) (pa_cons pe_int (pa_cons (pe_op op_add pe_int (pv 0)) (pa_cons (pe_op op_pow pe_int pe_int) pa_nil)))))))))) (pg_name (i := 1) sc__law_bad_right.nd rfl (Or.inr rfl)) (pss_one (ps_if (pt_not (pt_val (pe_refused (k := 6) pr B GE TB rfl hmT hu (hr.mono (by decide)) (lamS_by (sc := defScope s__law_bad_right) (by decide +kernel)) rfl (fun _ _ _ _ _ => rfl) (fun _ _ _ _ _ _ _ hr => pe_fn hk_alike (hr.mono (by decide)) passL (pa_cons pe_int (pa_cons pe_int (pa_cons pe_int (pa_cons (pv 1) pa_nil)))))))) (pss_one (ps_ret pe_bl)) pss_nil)))
      (pss_cons (ps_for PassesOwn.never (by rfl) (pi_tup (pe_tup (pa_cons pe_non (pa_cons (pe_tup (pa_cons pe_int pa_nil)) (pa_cons (pe_lst (pa_cons pe_int (pa_cons pe_int pa_nil))) (pa_cons (pe_tup (pa_cons pe_int (pa_cons pe_int pa_nil))) (pa_cons (pe_tup (pa_cons pe_int (pa_cons pe_int pa_nil))) (pa_cons (pe_tup (pa_cons (pe_un un_neg pe_int) (pa_cons pe_int pa_nil))) (pa_cons (pe_tup (pa_cons pe_bl (pa_cons pe_int pa_nil))) (pa_cons (pe_tup (pa_cons pe_int (pa_cons pe_int (pa_cons pe_int pa_nil)))) (pa_cons (pe_tup (pa_cons pe_int (pa_cons (pe_op op_pow pe_int pe_int) pa_nil))) (pa_cons pe_str pa_nil)))))))))))) (pg_name (i := 1) sc__law_bad_right.nd rfl (Or.inr rfl)) (pss_one (ps_if (pt_not (pt_val (pe_refused (k := 6) pr B GE TB rfl hmT hu (hr.mono (by decide)) (lamS_by (sc := defScope s__law_bad_right) (by decide +kernel)) rfl (fun _ _ _ _ _ => rfl) (fun _ _ _ _ _ _ _ hr => pe_fn hc_brick_on (hr.mono (by decide)) passL (pa_cons pe_int (pa_cons pe_int (pa_cons pe_int (pa_cons pe_int (pa_cons (pv 1) pa_nil))))))))) (pss_one (ps_ret pe_bl)) pss_nil)))
      (pss_cons (ps_if (pt_not (pt_val (pe_refused (k := 6) pr B GE TB rfl hmT hu (hr.mono (by decide)) (lamS_by (sc := defScope s__law_bad_right) (by decide +kernel)) rfl (fun _ _ _ _ _ => rfl) (fun _ _ _ _ _ _ _ hr => pe_fn hb_brick_on (hr.mono (by decide)) passL (pa_cons pe_int (pa_cons pe_int (pa_cons pe_int (pa_cons pe_int (pa_cons pe_non pa_nil))))))))) (pss_one (ps_ret pe_bl)) pss_nil)
      (pss_cons (ps_if (pt_not (pt_val (pe_refused (k := 6) pr B GE TB rfl hmT hu (hr.mono (by decide)) (lamS_by (sc := defScope s__law_bad_right) (by decide +kernel)) rfl (fun _ _ _ _ _ => rfl) (fun _ _ _ _ _ _ _ hr => pe_fn hb_lying (hr.mono (by decide)) passL (pa_cons pe_int (pa_cons pe_int (pa_cons pe_int (pa_cons pe_int pa_nil)))))))) (pss_one (ps_ret pe_bl)) pss_nil)
      (pss_cons (ps_if (pt_not (pt_val (pe_refused (k := 6) pr B GE TB rfl hmT hu (hr.mono (by decide)) (lamS_by (sc := defScope s__law_bad_right) (by decide +kernel)) rfl (fun _ _ _ _ _ => rfl) (fun _ _ _ _ _ _ _ hr => pe_fn hb_standing (hr.mono (by decide)) passL (pa_cons pe_int (pa_cons pe_int (pa_cons pe_int (pa_cons pe_int pa_nil)))))))) (pss_one (ps_ret pe_bl)) pss_nil)
      (pss_cons (ps_if (pt_not (pt_val (pe_refused (k := 6) pr B GE TB rfl hmT hu (hr.mono (by decide)) (lamS_by (sc := defScope s__law_bad_right) (by decide +kernel)) rfl (fun _ _ _ _ _ => rfl) (fun _ _ _ _ _ _ _ hr => pe_fn hg_judged (hr.mono (by decide)) passL (pa_cons pe_int (pa_cons pe_int (pa_cons pe_int (pa_cons pe_int (pa_cons pe_non pa_nil))))))))) (pss_one (ps_ret pe_bl)) pss_nil)
      (pss_cons (ps_setLc (i := 3) (own := [("_law_at", 5)]) (by rfl) sc__law_bad_right.nd rfl rfl (sw_true rfl rfl rfl (by decide +kernel)) (pi_range1 (by rfl) B.range (pa_cons pe_int pa_nil)) (blkOk_by (own := [("_law_at", 5)]) (N := ["_law_more", "_law_bad", "_law_asks", "_law_good", "_law_odd", "_law_at"]) (sc := defScope s__law_bad_right) (by decide +kernel)) (fun _ _ _ _ _ => (pg_name (i := 5) sc__law_bad_right.nd rfl (Or.inl rfl))) (fun _ _ _ _ _ => pts_nil) (fun _ _ _ _ _ => (pe_tup (pa_cons (pe_op op_mod (pv 5) pe_int) (pa_cons (pe_op op_mulX (pe_op op_fdivW (pv 5) pe_int) pe_int) (pa_cons pe_bl pa_nil))))))
      (pss_cons (ps_set (i := 4) sc__law_bad_right.nd rfl (Or.inl rfl) (pe_lst (pa_cons pe_non (pa_cons (pe_tup (pa_cons pe_int (pa_cons pe_int pa_nil))) (pa_cons (pe_lst (pa_cons pe_int (pa_cons pe_int (pa_cons pe_bl pa_nil)))) (pa_cons (pe_tup (pa_cons pe_int (pa_cons pe_int (pa_cons pe_int pa_nil)))) (pa_cons (pe_tup (pa_cons pe_int (pa_cons pe_int (pa_cons pe_non pa_nil)))) (pa_cons (pe_tup (pa_cons pe_bl (pa_cons pe_int (pa_cons pe_bl pa_nil)))) (pa_cons (pe_tup (pa_cons pe_int (pa_cons pe_str (pa_cons pe_bl pa_nil)))) pa_nil)))))))))
      (pss_cons (ps_set (i := 4) sc__law_bad_right.nd rfl (Or.inl rfl) (pe_op op_cat (pv 4) (pe_lst (pa_cons (pe_tup (pa_cons pe_int (pa_cons pe_int (pa_cons pe_bl (pa_cons pe_int pa_nil))))) (pa_cons (pe_tup (pa_cons pe_non (pa_cons pe_int (pa_cons pe_bl pa_nil)))) pa_nil)))))
      (pss_cons (ps_for PassesOwn.never (by rfl) (pi_list (pe_op op_cat (pe_fn h__law_spoiled (hr.mono (by decide)) pass0 (pa_cons (pv 3) (pa_cons (pv 0) (pa_cons (pv 4) pa_nil)))) (pe_lst (pa_cons pe_non (pa_cons (pe_tup pa_nil) (pa_cons pe_str (pa_cons pe_int (pa_cons (pe_callTy call_tuple_of (by rfl) B.tuple (by decide +kernel) (pa_cons (pv 3) pa_nil)) pa_nil)))))))) (pg_name (i := 1) sc__law_bad_right.nd rfl (Or.inr rfl)) (pss_one (ps_if (pt_not (pt_val (pe_refused (k := 6) pr B GE TB rfl hmT hu (hr.mono (by decide)) (lamS_by (sc := defScope s__law_bad_right) (by decide +kernel)) rfl (fun _ _ _ _ _ => rfl) (fun _ _ _ _ _ _ _ hr => pe_fn hb_judged (hr.mono (by decide)) passL (pa_cons pe_int (pa_cons pe_int (pa_cons pe_int (pa_cons pe_int (pa_cons (pv 1) pa_nil))))))))) (pss_one (ps_ret pe_bl)) pss_nil)))
      (pss_one (ps_ret (pe_callB (r := rIsi K) call_isi (by rfl) B.isinstance (by decide +kernel) (pa_cons (pe_fn h_judged (hr.mono (by decide)) pass0 (pa_cons pe_int (pa_cons pe_int (pa_cons pe_int (pa_cons pe_int (pa_cons (pv 3) pa_nil)))))) (pa_cons (pe_glob (v := .ref (cl _ .full)) (by rfl) (G.g .full (by decide)) rfl) pa_nil)))))))))))))))), ?_⟩
    walk_at "rd"
    intro l1 hl1
    generalize hH1 : upd H l1 _ = H1
    obtain ⟨sm1, up_l1⟩ := newH hH1 hl1
    clear hH1
    walk_at "rd"
    intro t1 ht1
    generalize hH2 : upd H1 t1 _ = H2
    obtain ⟨sm2, up_t1⟩ : Same H1 H2 ∧ H2 t1 = some (.tup [.non, .str "1", .bl true, .bl false, .ref l1, .int 0, .int (-1), .int (-(10 ^ 50))]) := newH hH2 ht1
    clear hH2
    have b1 : ∀ v ∈ ([.non, .str "1", .bl true, .bl false, .ref l1, .int 0, .int (-1), .int (-(10 ^ 50))] : List V), BadS H2 v := (all_cons (.kd .non (by decide)) (all_cons (.kd (.str _) (by decide)) (all_cons (.kd (.bl _) (by decide)) (all_cons (.kd (.bl _) (by decide)) (all_cons (.kd (.lst ((sm2) _ _ up_l1)) (by decide)) (all_cons (.low (by decide)) (all_cons (.low (by decide)) (all_cons (.low (by decide +kernel)) all_nil))))))))
    have s1 : Same H H2 := (sm1.trans (sm2))
    have T1 : Tabs (tabs K) H2 := hT.ext s1
    refine ⟨t1, rfl, ⟨_, sqT up_t1⟩, for_tup (K := K) (a := t1) (xs := [.non, .str "1", .bl true, .bl false, .ref l1, .int 0, .int (-1), .int (-(10 ^ 50))]) (fun i σ H' => BaI K m H2 none none σ H') (.mk (ExtN.refl _) T1) (fun i σ H' _ h => by obtain ⟨e, _⟩ := h; exact sqT (ExtN.tup e up_t1)) ?_ ?_⟩
    · rintro i v σ Ha hi ⟨ea, Ta⟩
      have hb := (b1 v (List.mem_of_getElem? hi)).monoN ea
      walk_at "rd"
      intro a1 ha1
      generalize hH4 : upd Ha a1 _ = H4
      obtain ⟨sm4, up_a1⟩ := newH hH4 ha1
      clear hH4
      walk_at "rd"
      intro a2 ha2
      generalize hH5 : upd H4 a2 _ = H5
      obtain ⟨sm5, up_a2⟩ := newH hH5 ha2
      clear hH5
      walk_at "rd"
      intro a3 ha3
      generalize hH6 : upd H5 a3 _ = H6
      obtain ⟨sm6, up_a3⟩ := newH hH6 ha3
      clear hH6
      walk_at "rd"
      intro a4 ha4
      generalize hH7 : upd H6 a4 _ = H7
      obtain ⟨sm7, up_a4⟩ := newH hH7 ha4
      clear hH7
      walk_at "rd"
      intro a5 ha5
      generalize hH8 : upd H7 a5 _ = H8
      obtain ⟨sm8, up_a5⟩ := newH hH8 ha5
      clear hH8
      have sa : Same Ha H8 := (sm4.trans (sm5.trans (sm6.trans (sm7.trans (sm8)))))
      have hb1 := hb.mono sa
      have b2 : ∀ x ∈ ([.ref a1, .ref a2, .ref a3, .ref a4] : List V), FourB H8 x := (all_cons (.mk ((sm5.trans (sm6.trans (sm7.trans (sm8)))) _ _ up_a1) (.here hb1)) (all_cons (.mk ((sm6.trans (sm7.trans (sm8))) _ _ up_a2) (.next (by decide) (.here hb1))) (all_cons (.mk ((sm7.trans (sm8)) _ _ up_a3) (.next (by decide) (.next (by decide) (.here hb1)))) (all_cons (.mk ((sm8) _ _ up_a4) (.next (by decide) (.next (by decide) (.next (by decide) (.here hb1))))) all_nil))))
      refine ⟨a5, rfl, ⟨_, sqT up_a5⟩, for_tup (K := K) (a := a5) (xs := _) (fun i σ H' => BaJ K m v H8 σ H') (.mk (ExtN.refl _) (Ta.ext sa)) (fun i σ H' _ h => by obtain ⟨e, _⟩ := h; exact sqT (ExtN.tup e up_a5)) ?_ ?_⟩
      · rintro i x σ Hd hi ⟨ed, Td⟩
        obtain @⟨t, v0, v1, v2, v3, ht, hbl⟩ := (b2 x (List.mem_of_getElem? hi)).monoN ed
        refine ⟨_, rfl, t, _, 0, _, rfl, rfl, sqT ht, rfl, ?_⟩
        refine ⟨_, rfl, t, _, 1, _, rfl, rfl, sqT ht, rfl, ?_⟩
        refine ⟨_, rfl, t, _, 2, _, rfl, rfl, sqT ht, rfl, ?_⟩
        refine ⟨_, rfl, t, _, 3, _, rfl, rfl, sqT ht, rfl, ?_⟩
        exact .mk hbl Td fun He ee Te => ⟨true, rfl, iteF (.mk (ed.trans ee) Te)⟩
      rintro σ Hd ⟨ed, Td⟩
      have ead := (ExtN.of sa).trans ed
      have hbd := hb.monoN ead
      refine ref_in .size rfl Td (fun H1 e1 Q' E' hE => ?_) (fun Hf ef Tf => ⟨true, rfl, iteF ?_⟩)
      · walk_at "rd"
        exact .mk (xs := [v, .int 1, .int 1]) (ys := []) rfl rfl (.here (hbd.monoN e1)) hE
      refine ref_in .size rfl Tf (fun H1 e1 Q' E' hE => ?_) (fun Hg eg Tg => ⟨true, rfl, iteF ?_⟩)
      · walk_at "rd"
        exact .mk (xs := [.int 5, .int 2, v]) (ys := []) rfl rfl (.next (by decide) (.next (by decide) (.here ((hbd.monoN ef).monoN e1)))) hE
      refine ref_in .size rfl Tg (fun H1 e1 Q' E' hE => ?_) (fun Hi ei Ti => ⟨true, rfl, iteF (.mk (ea.trans (ead.trans (ef.trans (eg.trans ei)))) Ti)⟩)
      walk_at "rd"
      exact .mk (xs := [.int 4, .int 4, v]) (ys := [.non]) rfl rfl (.next (by decide) (.next (by decide) (.here (((hbd.monoN ef).monoN eg).monoN e1)))) hE
    rintro σ Hb ⟨_, Tb⟩
    walk_at "rd"
    intro l2 hl2
    generalize hH10 : upd Hb l2 _ = H10
    obtain ⟨sm10, up_l2⟩ := newH hH10 hl2
    clear hH10
    walk_at "rd"
    intro t2 ht2
    generalize hH11 : upd H10 t2 _ = H11
    obtain ⟨sm11, up_t2⟩ : Same H10 H11 ∧ H11 t2 = some (.tup [.non, .str "0", .bl true, .ref l2, .int (-1), .int 3, .int (3 + m), .int (10 ^ 50)]) := newH hH11 ht2
    clear hH11
    have b2 : ∀ v ∈ ([.non, .str "0", .bl true, .ref l2, .int (-1), .int 3, .int (3 + m), .int (10 ^ 50)] : List V), BadK 3 H11 v := (all_cons (.kd .non (by decide)) (all_cons (.kd (.str _) (by decide)) (all_cons (.kd (.bl _) (by decide)) (all_cons (.kd (.lst ((sm11) _ _ up_l2)) (by decide)) (all_cons (.out (by decide)) (all_cons (.out (by decide)) (all_cons (.out (by omega)) (all_cons (.out (by decide +kernel)) all_nil))))))))
    have T2 : Tabs (tabs K) H11 := Tb.ext (sm10.trans (sm11))
    refine ⟨t2, rfl, ⟨_, sqT up_t2⟩, for_tup (K := K) (a := t2) (xs := [.non, .str "0", .bl true, .ref l2, .int (-1), .int 3, .int (3 + m), .int (10 ^ 50)]) (fun i σ H' => BaI K m H11 none none σ H') (.mk (ExtN.refl _) T2) (fun i σ H' _ h => by obtain ⟨e, _⟩ := h; exact sqT (ExtN.tup e up_t2)) ?_ ?_⟩
    · rintro i v σ Ha hi ⟨ea, Ta⟩
      have hb := (b2 v (List.mem_of_getElem? hi)).monoN ea
      refine ref_in .colour rfl Ta (fun H1 e1 Q' E' hE => ?_) (fun Hi ei Ti => ⟨true, rfl, iteF (.mk (ea.trans ei) Ti)⟩)
      walk_at "rd"
      exact .mk (by decide) (by decide) (by decide) (hb.monoN e1) hE
    rintro σ Hc ⟨_, Tc⟩
    walk_at "rd"
    intro c1 hc1
    generalize hH13 : upd Hc c1 _ = H13
    obtain ⟨sm13, up_c1⟩ := newH hH13 hc1
    clear hH13
    walk_at "rd"
    intro c2 hc2
    generalize hH14 : upd H13 c2 _ = H14
    obtain ⟨sm14, up_c2⟩ := newH hH14 hc2
    clear hH14
    walk_at "rd"
    intro c3 hc3
    generalize hH15 : upd H14 c3 _ = H15
    obtain ⟨sm15, up_c3⟩ := newH hH15 hc3
    clear hH15
    walk_at "rd"
    intro c4 hc4
    generalize hH16 : upd H15 c4 _ = H16
    obtain ⟨sm16, up_c4⟩ := newH hH16 hc4
    clear hH16
    walk_at "rd"
    intro c5 hc5
    generalize hH17 : upd H16 c5 _ = H17
    obtain ⟨sm17, up_c5⟩ := newH hH17 hc5
    clear hH17
    walk_at "rd"
    intro c6 hc6
    generalize hH18 : upd H17 c6 _ = H18
    obtain ⟨sm18, up_c6⟩ := newH hH18 hc6
    clear hH18
    walk_at "rd"
    intro c7 hc7
    generalize hH19 : upd H18 c7 _ = H19
    obtain ⟨sm19, up_c7⟩ := newH hH19 hc7
    clear hH19
    walk_at "rd"
    intro c8 hc8
    generalize hH20 : upd H19 c8 _ = H20
    obtain ⟨sm20, up_c8⟩ := newH hH20 hc8
    clear hH20
    walk_at "rd"
    intro t3 ht3
    generalize hH21 : upd H20 t3 _ = H21
    obtain ⟨sm21, up_t3⟩ : Same H20 H21 ∧ H21 t3 = some (.tup [.non, .ref c1, .ref c2, .ref c3, .ref c4, .ref c5, .ref c6, .ref c7, .ref c8, .str "00"]) := newH hH21 ht3
    clear hH21
    have b3 : ∀ v ∈ ([.non, .ref c1, .ref c2, .ref c3, .ref c4, .ref c5, .ref c6, .ref c7, .ref c8, .str "00"] : List V), BadC 4 6 H21 v := (all_cons (.kd .non (by decide)) (all_cons (.len ((sm14.trans (sm15.trans (sm16.trans (sm17.trans (sm18.trans (sm19.trans (sm20.trans (sm21)))))))) _ _ up_c1) (by decide)) (all_cons (.kd (.lst ((sm15.trans (sm16.trans (sm17.trans (sm18.trans (sm19.trans (sm20.trans (sm21))))))) _ _ up_c2)) (by decide)) (all_cons (.out ((sm16.trans (sm17.trans (sm18.trans (sm19.trans (sm20.trans (sm21)))))) _ _ up_c3) (by decide)) (all_cons (.out ((sm17.trans (sm18.trans (sm19.trans (sm20.trans (sm21))))) _ _ up_c4) (by decide)) (all_cons (.out ((sm18.trans (sm19.trans (sm20.trans (sm21)))) _ _ up_c5) (by decide)) (all_cons (.fst ((sm19.trans (sm20.trans (sm21))) _ _ up_c6) (.bl _) (by decide)) (all_cons (.len ((sm20.trans (sm21)) _ _ up_c7) (by decide)) (all_cons (.out ((sm21) _ _ up_c8) (by decide +kernel)) (all_cons (.kd (.str _) (by decide)) all_nil))))))))))
    have T3 : Tabs (tabs K) H21 := Tc.ext (sm13.trans (sm14.trans (sm15.trans (sm16.trans (sm17.trans (sm18.trans (sm19.trans (sm20.trans (sm21)))))))))
    refine ⟨t3, rfl, ⟨_, sqT up_t3⟩, for_tup (K := K) (a := t3) (xs := [.non, .ref c1, .ref c2, .ref c3, .ref c4, .ref c5, .ref c6, .ref c7, .ref c8, .str "00"]) (fun i σ H' => BaI K m H21 none none σ H') (.mk (ExtN.refl _) T3) (fun i σ H' _ h => by obtain ⟨e, _⟩ := h; exact sqT (ExtN.tup e up_t3)) ?_ ?_⟩
    · rintro i v σ Ha hi ⟨ea, Ta⟩
      have hb := (b3 v (List.mem_of_getElem? hi)).monoN ea
      refine ref_in .cell rfl Ta (fun H1 e1 Q' E' hE => ?_) (fun Hi ei Ti => ⟨true, rfl, iteF (.mk (ea.trans ei) Ti)⟩)
      walk_at "rd"
      exact .mk (z1 _ (by decide) (by decide)) (z1 _ (by decide) (by decide)) (z1 _ (by decide) (by decide)) (z1 _ (by decide) (by decide)) free_4623 (hb.monoN e1) hE
    rintro σ Hd ⟨_, Td⟩
    refine ref_in .barred rfl Td (fun H1 e1 Q' E' hE => ?_) (fun He ee Te => ⟨true, rfl, iteF ?_⟩)
    · walk_at "rd"
      exact .mk (z1 _ (by decide) (by decide)) (z1 _ (by decide) (by decide)) (z1 _ (by decide) (by decide)) (z1 _ (by decide) (by decide)) nfree_5523 hE
    refine ref_in .barred rfl Te (fun H1 e1 Q' E' hE => ?_) (fun Hf ef Tf => ⟨true, rfl, iteF ?_⟩)
    · walk_at "rd"
      exact .mk (z1 _ (by decide) (by decide)) (z1 _ (by decide) (by decide)) (z1 _ (by decide) (by decide)) (z1 _ (by decide) (by decide)) nfree_3322 hE
    refine ref_in .barred rfl Tf (fun H1 e1 Q' E' hE => ?_) (fun Hg eg Tg => ⟨true, rfl, iteF ?_⟩)
    · walk_at "rd"
      exact .mk (z1 _ (by decide) (by decide)) (z1 _ (by decide) (by decide)) (z1 _ (by decide) (by decide)) (z1 _ (by decide) (by decide)) nfree_3322 hE
    refine ref_in .great rfl Tg (fun H1 e1 Q' E' hE => ?_) (fun Hh eh Th => ⟨true, rfl, iteF ?_⟩)
    · walk_at "rd"
      exact .mk (z1 _ (by decide) (by decide)) (z1 _ (by decide) (by decide)) (by decide) (by decide) (by decide) hE
    walk_at "rd"
    intro D hD
    refine lc_range (lo := 0) (n := 100) (fun j H' => Same Hh H' ∧ ∃ ds, H' D = some (.lst (refs ds)) ∧ BrT H' ds ∧ vals ds = (List.range j).map gb) ⟨same_upd hD, [], upd_same, (fun p hp => nomatch hp), rfl⟩ ?_ ?_
    · rintro j H1 hj ⟨sm1, ds, eD, hds, hdv⟩
      have bj : Bn 20 ((0 + (j : Int)) / 20) := bnl (by omega)
      have e0 : (0 : Int) + (j : Int) = j := by omega
      refine ⟨rfl, lc_yes ?_⟩
      walk_at "rd"
      intro p4 hp4
      refine lc_brickV (b := ⟨(0 + (j : Int)) % 20, (0 + (j : Int)) / 20 * 4, true⟩) hD sm1 eD hds hp4 (by rw [← vals_len, hdv, List.length_map, List.length_range]; omega) ?_
      rw [hdv, List.range_succ, List.map_append, e0]
      rfl
    rintro Hi ⟨smi, ps, eG, hps, hv⟩
    have hv : vals ps = gL := hv
    have hlen : ps.length = 100 := by rw [← vals_len, hv, gL_len]
    have Ti : Tabs (tabs K) Hi := Th.ext smi
    walk_at "rd"
    intro o1 ho1
    generalize hH23 : upd Hi o1 _ = H23
    obtain ⟨sm23, up_o1⟩ := newH hH23 ho1
    clear hH23
    walk_at "rd"
    intro o2 ho2
    generalize hH24 : upd H23 o2 _ = H24
    obtain ⟨sm24, up_o2⟩ := newH hH24 ho2
    clear hH24
    walk_at "rd"
    intro o3 ho3
    generalize hH25 : upd H24 o3 _ = H25
    obtain ⟨sm25, up_o3⟩ := newH hH25 ho3
    clear hH25
    walk_at "rd"
    intro o4 ho4
    generalize hH26 : upd H25 o4 _ = H26
    obtain ⟨sm26, up_o4⟩ := newH hH26 ho4
    clear hH26
    walk_at "rd"
    intro o5 ho5
    generalize hH27 : upd H26 o5 _ = H27
    obtain ⟨sm27, up_o5⟩ := newH hH27 ho5
    clear hH27
    walk_at "rd"
    intro o6 ho6
    generalize hH28 : upd H27 o6 _ = H28
    obtain ⟨sm28, up_o6⟩ := newH hH28 ho6
    clear hH28
    walk_at "rd"
    intro q1 hq1
    generalize hH29 : upd H28 q1 _ = H29
    obtain ⟨sm29, up_q1⟩ : Same H28 H29 ∧ H29 q1 = some (.lst [.non, .ref o1, .ref o2, .ref o3, .ref o4, .ref o5, .ref o6]) := newH hH29 hq1
    clear hH29
    walk_at "rd"
    intro o7 ho7
    generalize hH30 : upd H29 o7 _ = H30
    obtain ⟨sm30, up_o7⟩ := newH hH30 ho7
    clear hH30
    walk_at "rd"
    intro o8 ho8
    generalize hH31 : upd H30 o8 _ = H31
    obtain ⟨sm31, up_o8⟩ := newH hH31 ho8
    clear hH31
    walk_at "rd"
    intro q2 hq2
    generalize hH32 : upd H31 q2 _ = H32
    obtain ⟨sm32, up_q2⟩ : Same H31 H32 ∧ H32 q2 = some (.lst [.ref o7, .ref o8]) := newH hH32 hq2
    clear hH32
    refine ⟨q1, q2, _, _, rfl, rfl, ((sm30.trans (sm31.trans (sm32))) _ _ up_q1), up_q2, size4 (by simp), ?_⟩
    intro q3 hq3
    generalize hH33 : upd H32 q3 _ = H33
    obtain ⟨sm33, up_q3⟩ : Same H32 H33 ∧ H33 q3 = some (.lst ([.non, .ref o1, .ref o2, .ref o3, .ref o4, .ref o5, .ref o6] ++ [.ref o7, .ref o8])) := newH hH33 hq3
    clear hH33
    have b4 : ∀ v ∈ ([.non, .ref o1, .ref o2, .ref o3, .ref o4, .ref o5, .ref o6] ++ [.ref o7, .ref o8] : List V), BrK H33 v false := all_app (all_cons (.kd .non (by decide)) (all_cons (.len ((sm24.trans (sm25.trans (sm26.trans (sm27.trans (sm28.trans (sm29.trans (sm30.trans (sm31.trans (sm32.trans (sm33)))))))))) _ _ up_o1) (by decide)) (all_cons (.kd (.lst ((sm25.trans (sm26.trans (sm27.trans (sm28.trans (sm29.trans (sm30.trans (sm31.trans (sm32.trans (sm33))))))))) _ _ up_o2)) (by decide)) (all_cons (.trd ((sm26.trans (sm27.trans (sm28.trans (sm29.trans (sm30.trans (sm31.trans (sm32.trans (sm33)))))))) _ _ up_o3) (.int _) (by decide)) (all_cons (.trd ((sm27.trans (sm28.trans (sm29.trans (sm30.trans (sm31.trans (sm32.trans (sm33))))))) _ _ up_o4) .non (by decide)) (all_cons (.fst ((sm28.trans (sm29.trans (sm30.trans (sm31.trans (sm32.trans (sm33)))))) _ _ up_o5) (.bl _) (by decide)) (all_cons (.snd ((sm29.trans (sm30.trans (sm31.trans (sm32.trans (sm33))))) _ _ up_o6) (.str _) (by decide)) all_nil))))))) (all_cons (.len ((sm31.trans (sm32.trans (sm33))) _ _ up_o7) (by decide)) (all_cons (.fst ((sm32.trans (sm33)) _ _ up_o8) .non (by decide)) all_nil))
    have si : Same Hi H33 := (sm23.trans (sm24.trans (sm25.trans (sm26.trans (sm27.trans (sm28.trans (sm29.trans (sm30.trans (sm31.trans (sm32.trans (sm33)))))))))))
    walk_at "rd"
    refine .mk (bnl (by omega)) (si _ _ eG) (hps.mono si) hlen up_q3 b4 (show 9 ≤ 20 by decide) fun Hj l zs smj hzl hzn hz => ?_
    have sij := si.trans smj
    walk_at "rd"
    intro u1 hu1
    generalize hH35 : upd Hj u1 _ = H35
    obtain ⟨sm35, up_u1⟩ := newH hH35 hu1
    clear hH35
    walk_at "rd"
    refine ⟨D, _, rfl, .inl ⟨sqL ((sm35) _ _ (sij _ _ eG)), ?_⟩⟩
    intro u2 hu2
    generalize hH36 : upd H35 u2 _ = H36
    obtain ⟨sm36, up_u2⟩ : Same H35 H36 ∧ H36 u2 = some (.tup (refs ps)) := newH hH36 hu2
    clear hH36
    walk_at "rd"
    intro u3 hu3
    generalize hH37 : upd H36 u3 _ = H37
    obtain ⟨sm37, up_u3⟩ : Same H36 H37 ∧ H37 u3 = some (.lst [.non, .ref u1, .str "ab", .int 5, .ref u2]) := newH hH37 hu3
    clear hH37
    refine ⟨l, u3, _, _, rfl, rfl, (sm35.trans (sm36.trans (sm37))) _ _ hzl, up_u3, size4 (show zs.length + 5 ≤ 1000000 by omega), ?_⟩
    intro q4 hq4
    generalize hH38 : upd H37 q4 _ = H38
    obtain ⟨sm38, up_q4⟩ : Same H37 H38 ∧ H38 q4 = some (.lst (zs ++ [.non, .ref u1, .str "ab", .int 5, .ref u2])) := newH hH38 hq4
    clear hH38
    have sj : Same Hj H38 := (sm35.trans (sm36.trans (sm37.trans (sm38))))
    have b5 : ∀ v ∈ (zs ++ [.non, .ref u1, .str "ab", .int 5, .ref u2] : List V), BadB H38 v := all_app (fun v hv => (hz v hv).mono' sj) (all_cons (.kd .non (by decide)) (all_cons (.kd (.tup ((sm36.trans (sm37.trans (sm38))) _ _ up_u1)) (by decide)) (all_cons (.kd (.str _) (by decide)) (all_cons (.kd (.int _) (by decide)) (all_cons (.kd (.tup ((sm37.trans (sm38)) _ _ up_u2)) (by decide)) all_nil)))))
    have T5 : Tabs (tabs K) H38 := Ti.ext (sij.trans sj)
    refine ⟨q4, rfl, ⟨_, sqL up_q4⟩, for_list (K := K) (a := q4) (xs := zs ++ [.non, .ref u1, .str "ab", .int 5, .ref u2]) (fun i σ H' => BaI K m H38 (some (.ref D)) (some (.ref q3)) σ H') (.mk (ExtN.refl _) T5) (fun i σ H' _ h => by obtain ⟨e, _⟩ := h; exact sqL (ExtN.lst e up_q4)) ?_ ?_⟩
    · rintro i v σ Ha hi ⟨ea, Ta⟩
      have hb := (b5 v (List.mem_of_getElem? hi)).monoN ea
      refine ref_in .bricks rfl Ta (fun H1 e1 Q' E' hE => ?_) (fun Hk ek Tk => ⟨true, rfl, iteF (.mk (ea.trans ek) Tk)⟩)
      walk_at "rd"
      exact .mk (by decide) (by decide) (by decide) (by decide) (by decide) (hb.monoN e1) hE
    rintro σ Hk ⟨ek, Tk⟩
    have sD := sij.trans sj
    walk_at "rd"
    refine .mk (by decide) (by decide) (by decide) (by decide) (by decide) (ExtN.lst ek (sD _ _ eG)) ((hps.mono sD).monoN ek) (by omega) fun p H6 d sm6 h5 hj => ?_
    have isf : d = .full := by
      have e := hj.full (by decide) (by decide)
      rw [hv, gL_full] at e
      cases d with
      | full => rfl
      | beyond _ => exact nomatch e
      | twice _ => exact nomatch e
      | bare _ => exact nomatch e
    subst isf
    have ha : AnsAt K H6 p .full := by
      cases h5 with
      | full h => exact h
    have mf : Ans.full.cl ∈ Cl.has := show Cl.full ∈ Cl.has by decide
    exact ⟨_, _, _, _, _, rfl, .own _, tyA G ha, kitA G .full .full, q _⟩
end
end BF

/-! ### k08: answers by hand (printed by k08d.py) -/
namespace BF
open PySem PySem.Spec PyProof.Rows L2
inductive Row4 (K : PySem.W.Frag) (H : Hp) : V → Prop where
  | mk {t p : Addr} {a : Ans} {L W f s : Int} {b : Bool} (h : H t = some (.tup [.ref p, .int L, .int W, .int f, .int s, .bl b])) (ha : AnsAt K H p a) (h4 : A4 a) (hL : Sz L) (hW : Sz W) (hf : Sz f) (hs : Sz s) (hd : due4 L W f s a = b) : Row4 K H (.ref t)
theorem Row4.mono {K : PySem.W.Frag} {H H' : Hp} {v : V} (h : Row4 K H v) (sm : Same H H') : Row4 K H' v := by
  obtain ⟨h, ha, h4, hL, hW, hf, hs, hd⟩ := h
  exact .mk (sm _ _ h) (ha.mono sm) h4 hL hW hf hs hd
inductive Row5 (K : PySem.W.Frag) (H : Hp) : V → Prop where
  | mk {t p l : Addr} {d : D5} {ps : List (Addr × Brick)} {b : Bool} (h : H t = some (.tup [.ref p, .ref l, .bl b])) (ha : At5 K H p d) (hl : H l = some (.lst (refs ps))) (hb : BrT H ps) (hn : ps.length ≤ 10) (hd : due5 2 2 2 1 (vals ps) d = b) : Row5 K H (.ref t)
theorem Row5.mono {K : PySem.W.Frag} {H H' : Hp} {v : V} (h : Row5 K H v) (sm : Same H H') : Row5 K H' v := by
  obtain ⟨h, ha, hl, hb, hn, hd⟩ := h
  exact .mk (sm _ _ h) (ha.mono sm) (sm _ _ hl) (hb.mono sm) hn hd
theorem due_free {L W f s : Int} (h : Free L W f s) : due4 L W f s .laid = true := by
  unfold due4
  rw [h.1, h.2]
  rfl
theorem due_bars {L W f s : Int} (h : (strL L W f s).isEmpty = false) : due4 L W f s .laid = false := by
  unfold due4
  rw [h]
  rfl
theorem due_far {L W f s i : Int} (h0 : i ≠ 0) (h1 : i ≠ 1) : due4 L W f s (.short (.int i)) = false := by
  show (if i = 0 then shoB L f s else if i = 1 then shoB W f s else false) = false
  rw [if_neg h0, if_neg h1]
theorem sho_1 : shoB 1 2 3 = true := sho_yes (by decide) fun m n ⟨h1, h2, h3⟩ => by omega
theorem sho_6 : shoB 6 2 3 = false := sho_no (m := 3) (n := 0) (by decide) (by decide) ⟨by decide, by decide, by decide⟩
theorem sho_7 : shoB 7 2 3 = false := sho_no (m := 2) (n := 1) (by decide) (by decide) ⟨by decide, by decide, by decide⟩
theorem ok_4 {a : Ans} (h : A4 a) : Ok4 a.cl := by
  cases h with
  | laid => exact .head _
  | striped i => exact .tail _ (.head _)
  | short i => exact .tail _ (.tail _ (.head _))
theorem ok_5 {d : D5} : Ok5 d.cl := by
  cases d with
  | full => exact .head _
  | beyond i => exact .tail _ (.head _)
  | twice c => exact .tail _ (.tail _ (.head _))
  | bare c => exact .tail _ (.tail _ (.tail _ (.head _)))
inductive HaI (K : PySem.W.Frag) (H : Hp) (y0 : V) : L2.St → Hp → Prop where
  | mk {H' : Hp} {y1 y2 y3 y4 y5 y6 : Option V} (sm : Same H H') : HaI K H y0 [some y0, y1, y2, y3, y4, y5, y6, none, none, none, none, none] H'
inductive HaJ (K : PySem.W.Frag) (H : Hp) (y0 : V) : L2.St → Hp → Prop where
  | mk {H' : Hp} {y1 y2 y3 y4 y5 y6 y7 y8 y9 y10 y11 : Option V} (sm : Same H H') : HaJ K H y0 [some y0, y1, y2, y3, y4, y5, y6, y7, y8, y9, y10, y11] H'
inductive SpHand : Sp where
  | mk {H : Hp} {Q : VK} {E : XK} (q : ∀ H', Q (.bl true) H') : SpHand [] H Q E
theorem At5.look {K : PySem.W.Frag} {H : Hp} {p : Addr} {d : D5} (h : At5 K H p d) : ∃ dx fs, H p = some (.ins (cl K d.cl) dx fs) ∧ fs.lookup ("shows" : Str) = none := by
  cases h with
  | full h => obtain ⟨dx, e⟩ := h; exact ⟨dx, _, e, rfl⟩
  | beyond h => obtain ⟨dx, e⟩ := h; exact ⟨dx, _, e, rfl⟩
  | twice h ht => obtain ⟨dx, e⟩ := h; exact ⟨dx, _, e, rfl⟩
  | bare h ht => obtain ⟨dx, e⟩ := h; exact ⟨dx, _, e, rfl⟩
theorem A4.look {a : Ans} (h : A4 a) : a.fs.lookup ("shows" : Str) = none := by
  cases h <;> rfl
theorem brt_cons {H : Hp} {a : Addr} {b : Brick} {ps : List (Addr × Brick)} (h : H a = some (.tup b.vs)) (t : BrT H ps) : BrT H ((a, b) :: ps) := fun p hp => by
  rcases List.mem_cons.mp hp with e | z
  · rw [e]
    exact h
  · exact t p z
section
variable {P : Program} {w : World} {K : PySem.W.Frag} {mg : Str → Option Value} {base : Heap}
theorem H__law_hand_right (p : Pl K mg "_law_hand_right" s__law_hand_right) (B : Bi mg) (G : ClG K mg) (CI : ClI P w K mg base) (h_shows4 : ∀ x, Ok4 x → HasM P w K mg base CX0 4 x "shows" ["self", "length", "width", "first", "second"] (SpShows4 K x))
    (h_shows5 : ∀ x, Ok5 x → HasM P w K mg base CX0 3 x "shows" ["self", "length", "width", "first", "second", "bricks"] (SpShows5 K x)) (h__law_changed_right : Has P w K mg base CX0 7 "_law_changed_right" [] SpHand) :
    Has P w K mg base CX0 8 "_law_hand_right" [] SpHand := by
  refine p.mk0 sc__law_hand_right (fun _ _ _ _ _ _ us hl => match us, hl with | [], _ => rfl) (fun vs H Q E h => ?_) (fun f cdv A outer s H vs Q E hr h => ?_)
  · cases h; rfl
  · obtain @⟨_, _, _, q⟩ := h
    have z1 : ∀ x : Int, 0 < x → x < 1000 → Sz x := fun x a b => sz_big a (Int.lt_trans b (by decide))
    refine ⟨_, (pss_cons (ps_set (i := 0) sc__law_hand_right.nd rfl (Or.inl rfl) (pe_lst (pa_cons (pe_tup (pa_cons (pe_mkN (x := .laid) CI G (by decide) (by decide)) (pa_cons pe_int (pa_cons pe_int (pa_cons pe_int (pa_cons pe_int (pa_cons pe_bl pa_nil))))))) (pa_cons (pe_tup (pa_cons (pe_mkN (x := .laid) CI G (by decide) (by decide)) (pa_cons pe_int (pa_cons pe_int (pa_cons pe_int (pa_cons pe_int (pa_cons pe_bl pa_nil))))))) (pa_cons (pe_tup (pa_cons (pe_mkI (x := .striped) CI G (by decide) trivial (hr.mono (by decide)) (pa_cons pe_int pa_nil)) (pa_cons pe_int (pa_cons pe_int (pa_cons pe_int (pa_cons pe_int (pa_cons pe_bl pa_nil))))))) pa_nil)))))
      (pss_cons (ps_set (i := 0) sc__law_hand_right.nd rfl (Or.inl rfl) (pe_op op_cat (pv 0) (pe_lst (pa_cons (pe_tup (pa_cons (pe_mkI (x := .striped) CI G (by decide) trivial (hr.mono (by decide)) (pa_cons pe_int pa_nil)) (pa_cons pe_int (pa_cons pe_int (pa_cons pe_int (pa_cons pe_int (pa_cons pe_bl pa_nil))))))) pa_nil))))
      (pss_cons (ps_set (i := 0) sc__law_hand_right.nd rfl (Or.inl rfl) (pe_op op_cat (pv 0) (pe_lst (pa_cons (pe_tup (pa_cons (pe_mkI (x := .striped) CI G (by decide) trivial (hr.mono (by decide)) (pa_cons pe_int pa_nil)) (pa_cons pe_int (pa_cons pe_int (pa_cons pe_int (pa_cons pe_int (pa_cons pe_bl pa_nil))))))) (pa_cons (pe_tup (pa_cons (pe_mkI (x := .striped) CI G (by decide) trivial (hr.mono (by decide)) (pa_cons pe_int pa_nil)) (pa_cons pe_int (pa_cons pe_int (pa_cons pe_int (pa_cons pe_int (pa_cons pe_bl pa_nil))))))) pa_nil)))))
      (pss_cons (ps_set (i := 0) sc__law_hand_right.nd rfl (Or.inl rfl) (pe_op op_cat (pv 0) (pe_lst (pa_cons (pe_tup (pa_cons (pe_mkI (x := .striped) CI G (by decide) trivial (hr.mono (by decide)) (pa_cons (pe_un un_neg pe_int) pa_nil)) (pa_cons pe_int (pa_cons pe_int (pa_cons pe_int (pa_cons pe_int (pa_cons pe_bl pa_nil))))))) (pa_cons (pe_tup (pa_cons (pe_mkI (x := .short) CI G (by decide) trivial (hr.mono (by decide)) (pa_cons pe_int pa_nil)) (pa_cons pe_int (pa_cons pe_int (pa_cons pe_int (pa_cons pe_int (pa_cons pe_bl pa_nil))))))) pa_nil)))))
      (pss_cons (ps_set (i := 0) sc__law_hand_right.nd rfl (Or.inl rfl) (pe_op op_cat (pv 0) (pe_lst (pa_cons (pe_tup (pa_cons (pe_mkI (x := .short) CI G (by decide) trivial (hr.mono (by decide)) (pa_cons pe_int pa_nil)) (pa_cons pe_int (pa_cons pe_int (pa_cons pe_int (pa_cons pe_int (pa_cons pe_bl pa_nil))))))) (pa_cons (pe_tup (pa_cons (pe_mkI (x := .short) CI G (by decide) trivial (hr.mono (by decide)) (pa_cons pe_int pa_nil)) (pa_cons pe_int (pa_cons pe_int (pa_cons pe_int (pa_cons pe_int (pa_cons pe_bl pa_nil))))))) pa_nil)))))
      (pss_cons (ps_set (i := 0) sc__law_hand_right.nd rfl (Or.inl rfl) (pe_op op_cat (pv 0) (pe_lst (pa_cons (pe_tup (pa_cons (pe_mkI (x := .short) CI G (by decide) trivial (hr.mono (by decide)) (pa_cons (pe_op op_pow pe_int pe_int) pa_nil)) (pa_cons pe_int (pa_cons pe_int (pa_cons pe_int (pa_cons pe_int (pa_cons pe_bl pa_nil))))))) (pa_cons (pe_tup (pa_cons (pe_mkI (x := .short) CI G (by decide) trivial (hr.mono (by decide)) (pa_cons (pe_un un_neg pe_int) pa_nil)) (pa_cons pe_int (pa_cons pe_int (pa_cons pe_int (pa_cons pe_int (pa_cons pe_bl pa_nil))))))) pa_nil)))))
      (pss_cons (ps_for PassesOwn.never (by rfl) (pi_list (pv 0)) (pg_tup (by rfl) (pgs_cons (pg_name (i := 1) sc__law_hand_right.nd rfl (Or.inl rfl)) (pgs_cons (pg_name (i := 2) sc__law_hand_right.nd rfl (Or.inl rfl)) (pgs_cons (pg_name (i := 3) sc__law_hand_right.nd rfl (Or.inl rfl)) (pgs_cons (pg_name (i := 4) sc__law_hand_right.nd rfl (Or.inl rfl)) (pgs_cons (pg_name (i := 5) sc__law_hand_right.nd rfl (Or.inl rfl)) (pgs_cons (pg_name (i := 6) sc__law_hand_right.nd rfl (Or.inl rfl)) pgs_nil))))))) (pss_one (ps_if (pt_cmpR op_ne (pe_methA h_shows4 (fun x hx => (G.f x (ok4 hx)).c) (hr.mono (by decide)) pass0 (pv 1) (pa_cons (pv 2) (pa_cons (pv 3) (pa_cons (pv 4) (pa_cons (pv 5) pa_nil))))) (pv 6) (nomark _)) (pss_one (ps_ret pe_bl)) pss_nil)))
      (pss_cons (ps_par (i := 7) (j := 8) (by rfl) sc__law_hand_right.nd rfl rfl (by decide) rfl rfl (pa_cons (pe_lst (pa_cons (pe_tup (pa_cons pe_int (pa_cons pe_int (pa_cons pe_bl pa_nil)))) (pa_cons (pe_tup (pa_cons pe_int (pa_cons pe_int (pa_cons pe_bl pa_nil)))) pa_nil))) (pa_cons (pe_lst (pa_cons (pe_tup (pa_cons pe_int (pa_cons pe_int (pa_cons pe_bl pa_nil)))) pa_nil)) pa_nil)) (by rfl))
      (pss_cons (ps_par (i := 9) (j := 10) (by rfl) sc__law_hand_right.nd rfl rfl (by decide) rfl rfl (pa_cons (pe_lst (pa_cons (pe_tup (pa_cons pe_int (pa_cons pe_int (pa_cons pe_bl pa_nil)))) (pa_cons (pe_tup (pa_cons pe_int (pa_cons pe_int (pa_cons pe_bl pa_nil)))) pa_nil))) (pa_cons (pe_lst (pa_cons (pe_tup (pa_cons pe_int (pa_cons pe_int (pa_cons pe_bl pa_nil)))) (pa_cons (pe_tup (pa_cons pe_int (pa_cons pe_int (pa_cons pe_bl pa_nil)))) pa_nil))) pa_nil)) (by rfl))
      (pss_cons (ps_set (i := 0) sc__law_hand_right.nd rfl (Or.inl rfl) (pe_lst (pa_cons (pe_tup (pa_cons (pe_mkN (x := .full) CI G (by decide) (by decide)) (pa_cons (pv 7) (pa_cons pe_bl pa_nil)))) (pa_cons (pe_tup (pa_cons (pe_mkN (x := .full) CI G (by decide) (by decide)) (pa_cons (pv 8) (pa_cons pe_bl pa_nil)))) (pa_cons (pe_tup (pa_cons (pe_mkI (x := .bare) CI G (by decide) trivial (hr.mono (by decide)) (pa_cons (pe_tup (pa_cons pe_int (pa_cons pe_int pa_nil))) pa_nil)) (pa_cons (pv 8) (pa_cons pe_bl pa_nil)))) pa_nil)))))
      (pss_cons (ps_set (i := 0) sc__law_hand_right.nd rfl (Or.inl rfl) (pe_op op_cat (pv 0) (pe_lst (pa_cons (pe_tup (pa_cons (pe_mkI (x := .bare) CI G (by decide) trivial (hr.mono (by decide)) (pa_cons (pe_tup (pa_cons pe_int (pa_cons pe_int pa_nil))) pa_nil)) (pa_cons (pv 8) (pa_cons pe_bl pa_nil)))) (pa_cons (pe_tup (pa_cons (pe_mkI (x := .bare) CI G (by decide) trivial (hr.mono (by decide)) (pa_cons (pe_tup (pa_cons pe_int (pa_cons pe_int pa_nil))) pa_nil)) (pa_cons (pv 8) (pa_cons pe_bl pa_nil)))) pa_nil)))))
      (pss_cons (ps_set (i := 0) sc__law_hand_right.nd rfl (Or.inl rfl) (pe_op op_cat (pv 0) (pe_lst (pa_cons (pe_tup (pa_cons (pe_mkI (x := .bare) CI G (by decide) trivial (hr.mono (by decide)) (pa_cons (pe_tup (pa_cons pe_int (pa_cons pe_int pa_nil))) pa_nil)) (pa_cons (pv 8) (pa_cons pe_bl pa_nil)))) (pa_cons (pe_tup (pa_cons (pe_mkI (x := .bare) CI G (by decide) trivial (hr.mono (by decide)) (pa_cons (pe_tup (pa_cons (pe_un un_neg pe_int) (pa_cons pe_int pa_nil))) pa_nil)) (pa_cons (pv 8) (pa_cons pe_bl pa_nil)))) pa_nil)))))
      (pss_cons (ps_set (i := 0) sc__law_hand_right.nd rfl (Or.inl rfl) (pe_op op_cat (pv 0) (pe_lst (pa_cons (pe_tup (pa_cons (pe_mkI (x := .twice) CI G (by decide) trivial (hr.mono (by decide)) (pa_cons (pe_tup (pa_cons pe_int (pa_cons pe_int pa_nil))) pa_nil)) (pa_cons (pv 9) (pa_cons pe_bl pa_nil)))) (pa_cons (pe_tup (pa_cons (pe_mkI (x := .twice) CI G (by decide) trivial (hr.mono (by decide)) (pa_cons (pe_tup (pa_cons pe_int (pa_cons pe_int pa_nil))) pa_nil)) (pa_cons (pv 9) (pa_cons pe_bl pa_nil)))) pa_nil)))))
      (pss_cons (ps_set (i := 0) sc__law_hand_right.nd rfl (Or.inl rfl) (pe_op op_cat (pv 0) (pe_lst (pa_cons (pe_tup (pa_cons (pe_mkI (x := .beyond) CI G (by decide) trivial (hr.mono (by decide)) (pa_cons pe_int pa_nil)) (pa_cons (pv 10) (pa_cons pe_bl pa_nil)))) (pa_cons (pe_tup (pa_cons (pe_mkI (x := .beyond) CI G (by decide) trivial (hr.mono (by decide)) (pa_cons pe_int pa_nil)) (pa_cons (pv 10) (pa_cons pe_bl pa_nil)))) (pa_cons (pe_tup (pa_cons (pe_mkI (x := .beyond) CI G (by decide) trivial (hr.mono (by decide)) (pa_cons (pe_un un_neg pe_int) pa_nil)) (pa_cons (pv 10) (pa_cons pe_bl pa_nil)))) pa_nil))))))
      (pss_cons (ps_set (i := 0) sc__law_hand_right.nd rfl (Or.inl rfl) (pe_op op_cat (pv 0) (pe_lst (pa_cons (pe_tup (pa_cons (pe_mkI (x := .beyond) CI G (by decide) trivial (hr.mono (by decide)) (pa_cons (pe_op op_pow pe_int pe_int) pa_nil)) (pa_cons (pv 10) (pa_cons pe_bl pa_nil)))) (pa_cons (pe_tup (pa_cons (pe_mkI (x := .twice) CI G (by decide) trivial (hr.mono (by decide)) (pa_cons (pe_tup (pa_cons (pe_un un_neg pe_int) (pa_cons pe_int pa_nil))) pa_nil)) (pa_cons (pv 9) (pa_cons pe_bl pa_nil)))) pa_nil)))))
      (pss_cons (ps_set (i := 0) sc__law_hand_right.nd rfl (Or.inl rfl) (pe_op op_cat (pv 0) (pe_lst (pa_cons (pe_tup (pa_cons (pe_mkI (x := .beyond) CI G (by decide) trivial (hr.mono (by decide)) (pa_cons pe_int pa_nil)) (pa_cons (pe_lst (pa_cons (pe_tup (pa_cons (pe_op op_pow pe_int pe_int) (pa_cons pe_int (pa_cons pe_bl pa_nil)))) pa_nil)) (pa_cons pe_bl pa_nil)))) (pa_cons (pe_tup (pa_cons (pe_mkI (x := .beyond) CI G (by decide) trivial (hr.mono (by decide)) (pa_cons pe_int pa_nil)) (pa_cons (pe_lst (pa_cons (pe_tup (pa_cons (pe_un un_neg pe_int) (pa_cons pe_int (pa_cons pe_bl pa_nil)))) pa_nil)) (pa_cons pe_bl pa_nil)))) pa_nil)))))
      (pss_cons (ps_set (i := 0) sc__law_hand_right.nd rfl (Or.inl rfl) (pe_op op_cat (pv 0) (pe_lst (pa_cons (pe_tup (pa_cons (pe_mkI (x := .bare) CI G (by decide) trivial (hr.mono (by decide)) (pa_cons (pe_tup (pa_cons (pe_op op_pow pe_int pe_int) (pa_cons pe_int pa_nil))) pa_nil)) (pa_cons (pv 8) (pa_cons pe_bl pa_nil)))) (pa_cons (pe_tup (pa_cons (pe_mkN (x := .full) CI G (by decide) (by decide)) (pa_cons (pe_lst pa_nil) (pa_cons pe_bl pa_nil)))) pa_nil)))))
      (pss_cons (ps_for PassesOwn.never (by rfl) (pi_list (pv 0)) (pg_tup (by rfl) (pgs_cons (pg_name (i := 1) sc__law_hand_right.nd rfl (Or.inl rfl)) (pgs_cons (pg_name (i := 11) sc__law_hand_right.nd rfl (Or.inl rfl)) (pgs_cons (pg_name (i := 6) sc__law_hand_right.nd rfl (Or.inl rfl)) pgs_nil)))) (pss_one (ps_if (pt_cmpR op_ne (pe_methA h_shows5 (fun x hx => (G.f x (ok5 hx)).c) (hr.mono (by decide)) pass0 (pv 1) (pa_cons pe_int (pa_cons pe_int (pa_cons pe_int (pa_cons pe_int (pa_cons (pv 11) pa_nil)))))) (pv 6) (nomark _)) (pss_one (ps_ret pe_bl)) pss_nil)))
      (pss_one (ps_ret (pe_fn0 h__law_changed_right (hr.mono (by decide)) pass0))))))))))))))))))))), ?_⟩
    walk_at "rd"
    intro a1 H1 ha1 sm1 ap_a1
    have up_a1 : AnsAt K H1 a1 .laid := ap_a1
    walk_at "rd"
    intro t1 ht1
    generalize hH2 : upd H1 t1 _ = H2
    obtain ⟨sm2, up_t1⟩ : Same H1 H2 ∧ H2 t1 = some (.tup [.ref a1, .int 4, .int 6, .int 2, .int 3, .bl true]) := newH hH2 ht1
    clear hH2
    walk_at "rd"
    intro a2 H3 ha2 sm3 ap_a2
    have up_a2 : AnsAt K H3 a2 .laid := ap_a2
    walk_at "rd"
    intro t2 ht2
    generalize hH4 : upd H3 t2 _ = H4
    obtain ⟨sm4, up_t2⟩ : Same H3 H4 ∧ H4 t2 = some (.tup [.ref a2, .int 5, .int 5, .int 2, .int 3, .bl false]) := newH hH4 ht2
    clear hH4
    walk_at "rd"
    intro a3 H5 ha3 sm5 ap_a3
    have up_a3 : AnsAt K H5 a3 (.striped (.int 0)) := ap_a3
    walk_at "rd"
    intro t3 ht3
    generalize hH6 : upd H5 t3 _ = H6
    obtain ⟨sm6, up_t3⟩ : Same H5 H6 ∧ H6 t3 = some (.tup [.ref a3, .int 3, .int 3, .int 2, .int 2, .bl true]) := newH hH6 ht3
    clear hH6
    walk_at "rd"
    intro x0 hx0
    generalize hH7 : upd H6 x0 _ = H7
    obtain ⟨sm7, up_x0⟩ : Same H6 H7 ∧ H7 x0 = some (.lst [.ref t1, .ref t2, .ref t3]) := newH hH7 hx0
    clear hH7
    obtain ⟨rs0, er0⟩ : ∃ rs : List V, rs = [.ref t1, .ref t2, .ref t3] := ⟨_, rfl⟩
    have r0 : ∀ v ∈ rs0, Row4 K H7 v := by rw [er0]; exact (all_cons (.mk ((sm3.trans (sm4.trans (sm5.trans (sm6.trans (sm7))))) _ _ up_t1) (up_a1.mono (sm2.trans (sm3.trans (sm4.trans (sm5.trans (sm6.trans (sm7))))))) .laid (z1 _ (by decide) (by decide)) (z1 _ (by decide) (by decide)) (z1 _ (by decide) (by decide)) (z1 _ (by decide) (by decide)) (due_free free_4623)) (all_cons (.mk ((sm5.trans (sm6.trans (sm7))) _ _ up_t2) (up_a2.mono (sm4.trans (sm5.trans (sm6.trans (sm7))))) .laid (z1 _ (by decide) (by decide)) (z1 _ (by decide) (by decide)) (z1 _ (by decide) (by decide)) (z1 _ (by decide) (by decide)) (due_bars (by decide))) (all_cons (.mk ((sm7) _ _ up_t3) (up_a3.mono (sm6.trans (sm7))) (.striped 0) (z1 _ (by decide) (by decide)) (z1 _ (by decide) (by decide)) (z1 _ (by decide) (by decide)) (z1 _ (by decide) (by decide)) rfl) all_nil)))
    have n0 : rs0.length ≤ 10 := by rw [er0]; exact (show 3 ≤ 10 by decide)
    rw [← er0] at up_x0
    clear er0
    walk_at "rd"
    intro a4 H8 ha4 sm8 ap_a4
    have up_a4 : AnsAt K H8 a4 (.striped (.int 1)) := ap_a4
    walk_at "rd"
    intro t4 ht4
    generalize hH9 : upd H8 t4 _ = H9
    obtain ⟨sm9, up_t4⟩ : Same H8 H9 ∧ H9 t4 = some (.tup [.ref a4, .int 3, .int 3, .int 2, .int 2, .bl true]) := newH hH9 ht4
    clear hH9
    walk_at "rd"
    intro l1 hl1
    generalize hH10 : upd H9 l1 _ = H10
    obtain ⟨sm10, up_l1⟩ : Same H9 H10 ∧ H10 l1 = some (.lst [.ref t4]) := newH hH10 hl1
    clear hH10
    refine ⟨x0, l1, _, _, rfl, rfl, ((sm8.trans (sm9.trans (sm10))) _ _ up_x0), up_l1, size4 (show rs0.length + 1 ≤ 1000000 by omega), ?_⟩
    intro x1 hx1
    generalize hH11 : upd H10 x1 _ = H11
    obtain ⟨sm11, up_x1⟩ : Same H10 H11 ∧ H11 x1 = some (.lst (rs0 ++ [.ref t4])) := newH hH11 hx1
    clear hH11
    obtain ⟨rs1, er1⟩ : ∃ rs : List V, rs = rs0 ++ [.ref t4] := ⟨_, rfl⟩
    have r1 : ∀ v ∈ rs1, Row4 K H11 v := by rw [er1]; exact all_app (fun v hv => (r0 v hv).mono (sm8.trans (sm9.trans (sm10.trans (sm11))))) (all_cons (.mk ((sm10.trans (sm11)) _ _ up_t4) (up_a4.mono (sm9.trans (sm10.trans (sm11)))) (.striped 1) (z1 _ (by decide) (by decide)) (z1 _ (by decide) (by decide)) (z1 _ (by decide) (by decide)) (z1 _ (by decide) (by decide)) rfl) all_nil)
    have n1 : rs1.length ≤ 20 := by rw [er1, List.length_append]; exact Nat.add_le_add n0 (show 1 ≤ 10 by decide)
    rw [← er1] at up_x1
    clear er1
    walk_at "rd"
    intro a5 H12 ha5 sm12 ap_a5
    have up_a5 : AnsAt K H12 a5 (.striped (.int 0)) := ap_a5
    walk_at "rd"
    intro t5 ht5
    generalize hH13 : upd H12 t5 _ = H13
    obtain ⟨sm13, up_t5⟩ : Same H12 H13 ∧ H13 t5 = some (.tup [.ref a5, .int 4, .int 3, .int 2, .int 3, .bl false]) := newH hH13 ht5
    clear hH13
    walk_at "rd"
    intro a6 H14 ha6 sm14 ap_a6
    have up_a6 : AnsAt K H14 a6 (.striped (.int 2)) := ap_a6
    walk_at "rd"
    intro t6 ht6
    generalize hH15 : upd H14 t6 _ = H15
    obtain ⟨sm15, up_t6⟩ : Same H14 H15 ∧ H15 t6 = some (.tup [.ref a6, .int 3, .int 3, .int 2, .int 2, .bl false]) := newH hH15 ht6
    clear hH15
    walk_at "rd"
    intro l2 hl2
    generalize hH16 : upd H15 l2 _ = H16
    obtain ⟨sm16, up_l2⟩ : Same H15 H16 ∧ H16 l2 = some (.lst [.ref t5, .ref t6]) := newH hH16 hl2
    clear hH16
    refine ⟨x1, l2, _, _, rfl, rfl, ((sm12.trans (sm13.trans (sm14.trans (sm15.trans (sm16))))) _ _ up_x1), up_l2, size4 (show rs1.length + 2 ≤ 1000000 by omega), ?_⟩
    intro x2 hx2
    generalize hH17 : upd H16 x2 _ = H17
    obtain ⟨sm17, up_x2⟩ : Same H16 H17 ∧ H17 x2 = some (.lst (rs1 ++ [.ref t5, .ref t6])) := newH hH17 hx2
    clear hH17
    obtain ⟨rs2, er2⟩ : ∃ rs : List V, rs = rs1 ++ [.ref t5, .ref t6] := ⟨_, rfl⟩
    have r2 : ∀ v ∈ rs2, Row4 K H17 v := by rw [er2]; exact all_app (fun v hv => (r1 v hv).mono (sm12.trans (sm13.trans (sm14.trans (sm15.trans (sm16.trans (sm17))))))) (all_cons (.mk ((sm14.trans (sm15.trans (sm16.trans (sm17)))) _ _ up_t5) (up_a5.mono (sm13.trans (sm14.trans (sm15.trans (sm16.trans (sm17)))))) (.striped 0) (z1 _ (by decide) (by decide)) (z1 _ (by decide) (by decide)) (z1 _ (by decide) (by decide)) (z1 _ (by decide) (by decide)) rfl) (all_cons (.mk ((sm16.trans (sm17)) _ _ up_t6) (up_a6.mono (sm15.trans (sm16.trans (sm17)))) (.striped 2) (z1 _ (by decide) (by decide)) (z1 _ (by decide) (by decide)) (z1 _ (by decide) (by decide)) (z1 _ (by decide) (by decide)) rfl) all_nil))
    have n2 : rs2.length ≤ 30 := by rw [er2, List.length_append]; exact Nat.add_le_add n1 (show 2 ≤ 10 by decide)
    rw [← er2] at up_x2
    clear er2
    walk_at "rd"
    intro a7 H18 ha7 sm18 ap_a7
    have up_a7 : AnsAt K H18 a7 (.striped (.int (-1))) := ap_a7
    walk_at "rd"
    intro t7 ht7
    generalize hH19 : upd H18 t7 _ = H19
    obtain ⟨sm19, up_t7⟩ : Same H18 H19 ∧ H19 t7 = some (.tup [.ref a7, .int 3, .int 3, .int 2, .int 2, .bl false]) := newH hH19 ht7
    clear hH19
    walk_at "rd"
    intro a8 H20 ha8 sm20 ap_a8
    have up_a8 : AnsAt K H20 a8 (.short (.int 0)) := ap_a8
    walk_at "rd"
    intro t8 ht8
    generalize hH21 : upd H20 t8 _ = H21
    obtain ⟨sm21, up_t8⟩ : Same H20 H21 ∧ H21 t8 = some (.tup [.ref a8, .int 1, .int 6, .int 2, .int 3, .bl true]) := newH hH21 ht8
    clear hH21
    walk_at "rd"
    intro l3 hl3
    generalize hH22 : upd H21 l3 _ = H22
    obtain ⟨sm22, up_l3⟩ : Same H21 H22 ∧ H22 l3 = some (.lst [.ref t7, .ref t8]) := newH hH22 hl3
    clear hH22
    refine ⟨x2, l3, _, _, rfl, rfl, ((sm18.trans (sm19.trans (sm20.trans (sm21.trans (sm22))))) _ _ up_x2), up_l3, size4 (show rs2.length + 2 ≤ 1000000 by omega), ?_⟩
    intro x3 hx3
    generalize hH23 : upd H22 x3 _ = H23
    obtain ⟨sm23, up_x3⟩ : Same H22 H23 ∧ H23 x3 = some (.lst (rs2 ++ [.ref t7, .ref t8])) := newH hH23 hx3
    clear hH23
    obtain ⟨rs3, er3⟩ : ∃ rs : List V, rs = rs2 ++ [.ref t7, .ref t8] := ⟨_, rfl⟩
    have r3 : ∀ v ∈ rs3, Row4 K H23 v := by rw [er3]; exact all_app (fun v hv => (r2 v hv).mono (sm18.trans (sm19.trans (sm20.trans (sm21.trans (sm22.trans (sm23))))))) (all_cons (.mk ((sm20.trans (sm21.trans (sm22.trans (sm23)))) _ _ up_t7) (up_a7.mono (sm19.trans (sm20.trans (sm21.trans (sm22.trans (sm23)))))) (.striped (-1)) (z1 _ (by decide) (by decide)) (z1 _ (by decide) (by decide)) (z1 _ (by decide) (by decide)) (z1 _ (by decide) (by decide)) rfl) (all_cons (.mk ((sm22.trans (sm23)) _ _ up_t8) (up_a8.mono (sm21.trans (sm22.trans (sm23)))) (.short 0) (z1 _ (by decide) (by decide)) (z1 _ (by decide) (by decide)) (z1 _ (by decide) (by decide)) (z1 _ (by decide) (by decide)) sho_1) all_nil))
    have n3 : rs3.length ≤ 40 := by rw [er3, List.length_append]; exact Nat.add_le_add n2 (show 2 ≤ 10 by decide)
    rw [← er3] at up_x3
    clear er3
    walk_at "rd"
    intro a9 H24 ha9 sm24 ap_a9
    have up_a9 : AnsAt K H24 a9 (.short (.int 1)) := ap_a9
    walk_at "rd"
    intro t9 ht9
    generalize hH25 : upd H24 t9 _ = H25
    obtain ⟨sm25, up_t9⟩ : Same H24 H25 ∧ H25 t9 = some (.tup [.ref a9, .int 1, .int 6, .int 2, .int 3, .bl false]) := newH hH25 ht9
    clear hH25
    walk_at "rd"
    intro a10 H26 ha10 sm26 ap_a10
    have up_a10 : AnsAt K H26 a10 (.short (.int 0)) := ap_a10
    walk_at "rd"
    intro t10 ht10
    generalize hH27 : upd H26 t10 _ = H27
    obtain ⟨sm27, up_t10⟩ : Same H26 H27 ∧ H27 t10 = some (.tup [.ref a10, .int 7, .int 6, .int 2, .int 3, .bl false]) := newH hH27 ht10
    clear hH27
    walk_at "rd"
    intro l4 hl4
    generalize hH28 : upd H27 l4 _ = H28
    obtain ⟨sm28, up_l4⟩ : Same H27 H28 ∧ H28 l4 = some (.lst [.ref t9, .ref t10]) := newH hH28 hl4
    clear hH28
    refine ⟨x3, l4, _, _, rfl, rfl, ((sm24.trans (sm25.trans (sm26.trans (sm27.trans (sm28))))) _ _ up_x3), up_l4, size4 (show rs3.length + 2 ≤ 1000000 by omega), ?_⟩
    intro x4 hx4
    generalize hH29 : upd H28 x4 _ = H29
    obtain ⟨sm29, up_x4⟩ : Same H28 H29 ∧ H29 x4 = some (.lst (rs3 ++ [.ref t9, .ref t10])) := newH hH29 hx4
    clear hH29
    obtain ⟨rs4, er4⟩ : ∃ rs : List V, rs = rs3 ++ [.ref t9, .ref t10] := ⟨_, rfl⟩
    have r4 : ∀ v ∈ rs4, Row4 K H29 v := by rw [er4]; exact all_app (fun v hv => (r3 v hv).mono (sm24.trans (sm25.trans (sm26.trans (sm27.trans (sm28.trans (sm29))))))) (all_cons (.mk ((sm26.trans (sm27.trans (sm28.trans (sm29)))) _ _ up_t9) (up_a9.mono (sm25.trans (sm26.trans (sm27.trans (sm28.trans (sm29)))))) (.short 1) (z1 _ (by decide) (by decide)) (z1 _ (by decide) (by decide)) (z1 _ (by decide) (by decide)) (z1 _ (by decide) (by decide)) sho_6) (all_cons (.mk ((sm28.trans (sm29)) _ _ up_t10) (up_a10.mono (sm27.trans (sm28.trans (sm29)))) (.short 0) (z1 _ (by decide) (by decide)) (z1 _ (by decide) (by decide)) (z1 _ (by decide) (by decide)) (z1 _ (by decide) (by decide)) sho_7) all_nil))
    have n4 : rs4.length ≤ 50 := by rw [er4, List.length_append]; exact Nat.add_le_add n3 (show 2 ≤ 10 by decide)
    rw [← er4] at up_x4
    clear er4
    walk_at "rd"
    intro a11 H30 ha11 sm30 ap_a11
    have up_a11 : AnsAt K H30 a11 (.short (.int (10 ^ 50))) := ap_a11
    walk_at "rd"
    intro t11 ht11
    generalize hH31 : upd H30 t11 _ = H31
    obtain ⟨sm31, up_t11⟩ : Same H30 H31 ∧ H31 t11 = some (.tup [.ref a11, .int 1, .int 6, .int 2, .int 3, .bl false]) := newH hH31 ht11
    clear hH31
    walk_at "rd"
    intro a12 H32 ha12 sm32 ap_a12
    have up_a12 : AnsAt K H32 a12 (.short (.int (-2))) := ap_a12
    walk_at "rd"
    intro t12 ht12
    generalize hH33 : upd H32 t12 _ = H33
    obtain ⟨sm33, up_t12⟩ : Same H32 H33 ∧ H33 t12 = some (.tup [.ref a12, .int 1, .int 6, .int 2, .int 3, .bl false]) := newH hH33 ht12
    clear hH33
    walk_at "rd"
    intro l5 hl5
    generalize hH34 : upd H33 l5 _ = H34
    obtain ⟨sm34, up_l5⟩ : Same H33 H34 ∧ H34 l5 = some (.lst [.ref t11, .ref t12]) := newH hH34 hl5
    clear hH34
    refine ⟨x4, l5, _, _, rfl, rfl, ((sm30.trans (sm31.trans (sm32.trans (sm33.trans (sm34))))) _ _ up_x4), up_l5, size4 (show rs4.length + 2 ≤ 1000000 by omega), ?_⟩
    intro x5 hx5
    generalize hH35 : upd H34 x5 _ = H35
    obtain ⟨sm35, up_x5⟩ : Same H34 H35 ∧ H35 x5 = some (.lst (rs4 ++ [.ref t11, .ref t12])) := newH hH35 hx5
    clear hH35
    obtain ⟨rs5, er5⟩ : ∃ rs : List V, rs = rs4 ++ [.ref t11, .ref t12] := ⟨_, rfl⟩
    have r5 : ∀ v ∈ rs5, Row4 K H35 v := by rw [er5]; exact all_app (fun v hv => (r4 v hv).mono (sm30.trans (sm31.trans (sm32.trans (sm33.trans (sm34.trans (sm35))))))) (all_cons (.mk ((sm32.trans (sm33.trans (sm34.trans (sm35)))) _ _ up_t11) (up_a11.mono (sm31.trans (sm32.trans (sm33.trans (sm34.trans (sm35)))))) (.short (10 ^ 50)) (z1 _ (by decide) (by decide)) (z1 _ (by decide) (by decide)) (z1 _ (by decide) (by decide)) (z1 _ (by decide) (by decide)) (due_far (by decide +kernel) (by decide +kernel))) (all_cons (.mk ((sm34.trans (sm35)) _ _ up_t12) (up_a12.mono (sm33.trans (sm34.trans (sm35)))) (.short (-2)) (z1 _ (by decide) (by decide)) (z1 _ (by decide) (by decide)) (z1 _ (by decide) (by decide)) (z1 _ (by decide) (by decide)) rfl) all_nil))
    have n5 : rs5.length ≤ 60 := by rw [er5, List.length_append]; exact Nat.add_le_add n4 (show 2 ≤ 10 by decide)
    rw [← er5] at up_x5
    clear er5
    walk_at "rd"
    refine ⟨⟨_, sqL up_x5⟩, for_list (K := K) (a := x5) (xs := rs5) (fun i σ H' => HaI K H35 (.ref x5) σ H') (.mk (Same.refl _)) (fun i σ H' _ h => by obtain ⟨sm⟩ := h; exact sqL (sm _ _ up_x5)) ?_ ?_⟩
    · rintro i v σ Ha hi ⟨sma⟩
      obtain @⟨t, pa, a, L, W, fi, se, b, ht, ha, h4, hL, hW, hf, hs, hd⟩ := (r5 v (List.mem_of_getElem? hi)).mono sma
      obtain ⟨dx, ea⟩ := id ha
      refine ⟨t, _, rfl, sqT ht, rfl, ?_⟩
      walk_at "rd"
      refine ⟨a.cl, ok_4 h4, _, rfl, pa, dx, _, rfl, ea, h4.look, ?_⟩
      walk_at "rd"
      refine .mk ha rfl h4 hL hW hf hs fun Hb smb => ?_
      walk_at "rd"
      rw [hd, decide_eq_true (show V.bl b = V.bl b from rfl)]
      exact iteF (.mk (sma.trans smb))
    rintro σ Ha ⟨sma⟩
    generalize hHa : Ha = H36
    clear hHa sma
    walk_at "rd"
    intro b_full0 hb_full0
    generalize hH37 : upd H36 b_full0 _ = H37
    obtain ⟨sm37, up_b_full0⟩ : Same H36 H37 ∧ H37 b_full0 = some (.tup [.int 0, .int 0, .bl true]) := newH hH37 hb_full0
    clear hH37
    walk_at "rd"
    intro b_full1 hb_full1
    generalize hH38 : upd H37 b_full1 _ = H38
    obtain ⟨sm38, up_b_full1⟩ : Same H37 H38 ∧ H38 b_full1 = some (.tup [.int 0, .int 1, .bl true]) := newH hH38 hb_full1
    clear hH38
    walk_at "rd"
    intro k_full hk_full
    generalize hH39 : upd H38 k_full _ = H39
    obtain ⟨sm39, up_k_full⟩ : Same H38 H39 ∧ H39 k_full = some (.lst [.ref b_full0, .ref b_full1]) := newH hH39 hk_full
    clear hH39
    walk_at "rd"
    intro b_bare0 hb_bare0
    generalize hH40 : upd H39 b_bare0 _ = H40
    obtain ⟨sm40, up_b_bare0⟩ : Same H39 H40 ∧ H40 b_bare0 = some (.tup [.int 0, .int 0, .bl true]) := newH hH40 hb_bare0
    clear hH40
    walk_at "rd"
    intro k_bare hk_bare
    generalize hH41 : upd H40 k_bare _ = H41
    obtain ⟨sm41, up_k_bare⟩ : Same H40 H41 ∧ H41 k_bare = some (.lst [.ref b_bare0]) := newH hH41 hk_bare
    clear hH41
    walk_at "rd"
    intro b_over0 hb_over0
    generalize hH42 : upd H41 b_over0 _ = H42
    obtain ⟨sm42, up_b_over0⟩ : Same H41 H42 ∧ H42 b_over0 = some (.tup [.int 0, .int 0, .bl true]) := newH hH42 hb_over0
    clear hH42
    walk_at "rd"
    intro b_over1 hb_over1
    generalize hH43 : upd H42 b_over1 _ = H43
    obtain ⟨sm43, up_b_over1⟩ : Same H42 H43 ∧ H43 b_over1 = some (.tup [.int 0, .int 0, .bl true]) := newH hH43 hb_over1
    clear hH43
    walk_at "rd"
    intro k_over hk_over
    generalize hH44 : upd H43 k_over _ = H44
    obtain ⟨sm44, up_k_over⟩ : Same H43 H44 ∧ H44 k_over = some (.lst [.ref b_over0, .ref b_over1]) := newH hH44 hk_over
    clear hH44
    walk_at "rd"
    intro b_out0 hb_out0
    generalize hH45 : upd H44 b_out0 _ = H45
    obtain ⟨sm45, up_b_out0⟩ : Same H44 H45 ∧ H45 b_out0 = some (.tup [.int 0, .int 0, .bl true]) := newH hH45 hb_out0
    clear hH45
    walk_at "rd"
    intro b_out1 hb_out1
    generalize hH46 : upd H45 b_out1 _ = H46
    obtain ⟨sm46, up_b_out1⟩ : Same H45 H46 ∧ H46 b_out1 = some (.tup [.int 1, .int 1, .bl true]) := newH hH46 hb_out1
    clear hH46
    walk_at "rd"
    intro k_out hk_out
    generalize hH47 : upd H46 k_out _ = H47
    obtain ⟨sm47, up_k_out⟩ : Same H46 H47 ∧ H47 k_out = some (.lst [.ref b_out0, .ref b_out1]) := newH hH47 hk_out
    clear hH47
    walk_at "rd"
    intro a1 H48 ha1 sm48 ap_a1
    have up_a1 : AnsAt K H48 a1 .full := ap_a1
    walk_at "rd"
    intro t1 ht1
    generalize hH49 : upd H48 t1 _ = H49
    obtain ⟨sm49, up_t1⟩ : Same H48 H49 ∧ H49 t1 = some (.tup [.ref a1, .ref k_full, .bl true]) := newH hH49 ht1
    clear hH49
    walk_at "rd"
    intro a2 H50 ha2 sm50 ap_a2
    have up_a2 : AnsAt K H50 a2 .full := ap_a2
    walk_at "rd"
    intro t2 ht2
    generalize hH51 : upd H50 t2 _ = H51
    obtain ⟨sm51, up_t2⟩ : Same H50 H51 ∧ H51 t2 = some (.tup [.ref a2, .ref k_bare, .bl false]) := newH hH51 ht2
    clear hH51
    walk_at "rd"
    intro c3 hc3
    generalize hH52 : upd H51 c3 _ = H52
    obtain ⟨sm52, up_c3⟩ : Same H51 H52 ∧ H52 c3 = some (.tup [.int 0, .int 1]) := newH hH52 hc3
    clear hH52
    walk_at "rd"
    intro a3 H53 ha3 sm53 ap_a3
    have up_a3 : AnsAt K H53 a3 (.bare (.ref c3)) := ap_a3
    walk_at "rd"
    intro t3 ht3
    generalize hH54 : upd H53 t3 _ = H54
    obtain ⟨sm54, up_t3⟩ : Same H53 H54 ∧ H54 t3 = some (.tup [.ref a3, .ref k_bare, .bl true]) := newH hH54 ht3
    clear hH54
    walk_at "rd"
    intro x0 hx0
    generalize hH55 : upd H54 x0 _ = H55
    obtain ⟨sm55, up_x0⟩ : Same H54 H55 ∧ H55 x0 = some (.lst [.ref t1, .ref t2, .ref t3]) := newH hH55 hx0
    clear hH55
    obtain ⟨rs0, er0⟩ : ∃ rs : List V, rs = [.ref t1, .ref t2, .ref t3] := ⟨_, rfl⟩
    have r0 : ∀ v ∈ rs0, Row5 K H55 v := by rw [er0]; exact (all_cons (.mk (ps := [(b_full0, ⟨0, 0, true⟩), (b_full1, ⟨0, 1, true⟩)]) ((sm50.trans (sm51.trans (sm52.trans (sm53.trans (sm54.trans (sm55)))))) _ _ up_t1) (.full (up_a1.mono (sm49.trans (sm50.trans (sm51.trans (sm52.trans (sm53.trans (sm54.trans (sm55))))))))) ((sm40.trans (sm41.trans (sm42.trans (sm43.trans (sm44.trans (sm45.trans (sm46.trans (sm47.trans (sm48.trans (sm49.trans (sm50.trans (sm51.trans (sm52.trans (sm53.trans (sm54.trans (sm55)))))))))))))))) _ _ up_k_full) (brt_cons ((sm38.trans (sm39.trans (sm40.trans (sm41.trans (sm42.trans (sm43.trans (sm44.trans (sm45.trans (sm46.trans (sm47.trans (sm48.trans (sm49.trans (sm50.trans (sm51.trans (sm52.trans (sm53.trans (sm54.trans (sm55)))))))))))))))))) _ _ up_b_full0) (brt_cons ((sm39.trans (sm40.trans (sm41.trans (sm42.trans (sm43.trans (sm44.trans (sm45.trans (sm46.trans (sm47.trans (sm48.trans (sm49.trans (sm50.trans (sm51.trans (sm52.trans (sm53.trans (sm54.trans (sm55))))))))))))))))) _ _ up_b_full1) (fun _ z => nomatch z))) (show 2 ≤ 10 by decide) (show due5 2 2 2 1 [⟨0, 0, true⟩, ⟨0, 1, true⟩] .full = true by decide +kernel)) (all_cons (.mk (ps := [(b_bare0, ⟨0, 0, true⟩)]) ((sm52.trans (sm53.trans (sm54.trans (sm55)))) _ _ up_t2) (.full (up_a2.mono (sm51.trans (sm52.trans (sm53.trans (sm54.trans (sm55))))))) ((sm42.trans (sm43.trans (sm44.trans (sm45.trans (sm46.trans (sm47.trans (sm48.trans (sm49.trans (sm50.trans (sm51.trans (sm52.trans (sm53.trans (sm54.trans (sm55)))))))))))))) _ _ up_k_bare) (brt_cons ((sm41.trans (sm42.trans (sm43.trans (sm44.trans (sm45.trans (sm46.trans (sm47.trans (sm48.trans (sm49.trans (sm50.trans (sm51.trans (sm52.trans (sm53.trans (sm54.trans (sm55))))))))))))))) _ _ up_b_bare0) (fun _ z => nomatch z)) (show 1 ≤ 10 by decide) (show due5 2 2 2 1 [⟨0, 0, true⟩] .full = false by decide +kernel)) (all_cons (.mk (ps := [(b_bare0, ⟨0, 0, true⟩)]) ((sm55) _ _ up_t3) (.bare (c := (0, 1)) (up_a3.mono (sm54.trans (sm55))) ((sm53.trans (sm54.trans (sm55))) _ _ up_c3)) ((sm42.trans (sm43.trans (sm44.trans (sm45.trans (sm46.trans (sm47.trans (sm48.trans (sm49.trans (sm50.trans (sm51.trans (sm52.trans (sm53.trans (sm54.trans (sm55)))))))))))))) _ _ up_k_bare) (brt_cons ((sm41.trans (sm42.trans (sm43.trans (sm44.trans (sm45.trans (sm46.trans (sm47.trans (sm48.trans (sm49.trans (sm50.trans (sm51.trans (sm52.trans (sm53.trans (sm54.trans (sm55))))))))))))))) _ _ up_b_bare0) (fun _ z => nomatch z)) (show 1 ≤ 10 by decide) (show due5 2 2 2 1 [⟨0, 0, true⟩] (.bare (0, 1)) = true by decide +kernel)) all_nil)))
    have n0 : rs0.length ≤ 10 := by rw [er0]; exact (show 3 ≤ 10 by decide)
    rw [← er0] at up_x0
    clear er0
    walk_at "rd"
    intro c4 hc4
    generalize hH56 : upd H55 c4 _ = H56
    obtain ⟨sm56, up_c4⟩ : Same H55 H56 ∧ H56 c4 = some (.tup [.int 1, .int 1]) := newH hH56 hc4
    clear hH56
    walk_at "rd"
    intro a4 H57 ha4 sm57 ap_a4
    have up_a4 : AnsAt K H57 a4 (.bare (.ref c4)) := ap_a4
    walk_at "rd"
    intro t4 ht4
    generalize hH58 : upd H57 t4 _ = H58
    obtain ⟨sm58, up_t4⟩ : Same H57 H58 ∧ H58 t4 = some (.tup [.ref a4, .ref k_bare, .bl true]) := newH hH58 ht4
    clear hH58
    walk_at "rd"
    intro c5 hc5
    generalize hH59 : upd H58 c5 _ = H59
    obtain ⟨sm59, up_c5⟩ : Same H58 H59 ∧ H59 c5 = some (.tup [.int 0, .int 0]) := newH hH59 hc5
    clear hH59
    walk_at "rd"
    intro a5 H60 ha5 sm60 ap_a5
    have up_a5 : AnsAt K H60 a5 (.bare (.ref c5)) := ap_a5
    walk_at "rd"
    intro t5 ht5
    generalize hH61 : upd H60 t5 _ = H61
    obtain ⟨sm61, up_t5⟩ : Same H60 H61 ∧ H61 t5 = some (.tup [.ref a5, .ref k_bare, .bl false]) := newH hH61 ht5
    clear hH61
    walk_at "rd"
    intro l1 hl1
    generalize hH62 : upd H61 l1 _ = H62
    obtain ⟨sm62, up_l1⟩ : Same H61 H62 ∧ H62 l1 = some (.lst [.ref t4, .ref t5]) := newH hH62 hl1
    clear hH62
    refine ⟨x0, l1, _, _, rfl, rfl, ((sm56.trans (sm57.trans (sm58.trans (sm59.trans (sm60.trans (sm61.trans (sm62))))))) _ _ up_x0), up_l1, size4 (show rs0.length + 2 ≤ 1000000 by omega), ?_⟩
    intro x1 hx1
    generalize hH63 : upd H62 x1 _ = H63
    obtain ⟨sm63, up_x1⟩ : Same H62 H63 ∧ H63 x1 = some (.lst (rs0 ++ [.ref t4, .ref t5])) := newH hH63 hx1
    clear hH63
    obtain ⟨rs1, er1⟩ : ∃ rs : List V, rs = rs0 ++ [.ref t4, .ref t5] := ⟨_, rfl⟩
    have r1 : ∀ v ∈ rs1, Row5 K H63 v := by rw [er1]; exact all_app (fun v hv => (r0 v hv).mono (sm56.trans (sm57.trans (sm58.trans (sm59.trans (sm60.trans (sm61.trans (sm62.trans (sm63))))))))) (all_cons (.mk (ps := [(b_bare0, ⟨0, 0, true⟩)]) ((sm59.trans (sm60.trans (sm61.trans (sm62.trans (sm63))))) _ _ up_t4) (.bare (c := (1, 1)) (up_a4.mono (sm58.trans (sm59.trans (sm60.trans (sm61.trans (sm62.trans (sm63))))))) ((sm57.trans (sm58.trans (sm59.trans (sm60.trans (sm61.trans (sm62.trans (sm63))))))) _ _ up_c4)) ((sm42.trans (sm43.trans (sm44.trans (sm45.trans (sm46.trans (sm47.trans (sm48.trans (sm49.trans (sm50.trans (sm51.trans (sm52.trans (sm53.trans (sm54.trans (sm55.trans (sm56.trans (sm57.trans (sm58.trans (sm59.trans (sm60.trans (sm61.trans (sm62.trans (sm63)))))))))))))))))))))) _ _ up_k_bare) (brt_cons ((sm41.trans (sm42.trans (sm43.trans (sm44.trans (sm45.trans (sm46.trans (sm47.trans (sm48.trans (sm49.trans (sm50.trans (sm51.trans (sm52.trans (sm53.trans (sm54.trans (sm55.trans (sm56.trans (sm57.trans (sm58.trans (sm59.trans (sm60.trans (sm61.trans (sm62.trans (sm63))))))))))))))))))))))) _ _ up_b_bare0) (fun _ z => nomatch z)) (show 1 ≤ 10 by decide) (show due5 2 2 2 1 [⟨0, 0, true⟩] (.bare (1, 1)) = true by decide +kernel)) (all_cons (.mk (ps := [(b_bare0, ⟨0, 0, true⟩)]) ((sm62.trans (sm63)) _ _ up_t5) (.bare (c := (0, 0)) (up_a5.mono (sm61.trans (sm62.trans (sm63)))) ((sm60.trans (sm61.trans (sm62.trans (sm63)))) _ _ up_c5)) ((sm42.trans (sm43.trans (sm44.trans (sm45.trans (sm46.trans (sm47.trans (sm48.trans (sm49.trans (sm50.trans (sm51.trans (sm52.trans (sm53.trans (sm54.trans (sm55.trans (sm56.trans (sm57.trans (sm58.trans (sm59.trans (sm60.trans (sm61.trans (sm62.trans (sm63)))))))))))))))))))))) _ _ up_k_bare) (brt_cons ((sm41.trans (sm42.trans (sm43.trans (sm44.trans (sm45.trans (sm46.trans (sm47.trans (sm48.trans (sm49.trans (sm50.trans (sm51.trans (sm52.trans (sm53.trans (sm54.trans (sm55.trans (sm56.trans (sm57.trans (sm58.trans (sm59.trans (sm60.trans (sm61.trans (sm62.trans (sm63))))))))))))))))))))))) _ _ up_b_bare0) (fun _ z => nomatch z)) (show 1 ≤ 10 by decide) (show due5 2 2 2 1 [⟨0, 0, true⟩] (.bare (0, 0)) = false by decide +kernel)) all_nil))
    have n1 : rs1.length ≤ 20 := by rw [er1, List.length_append]; exact Nat.add_le_add n0 (show 2 ≤ 10 by decide)
    rw [← er1] at up_x1
    clear er1
    walk_at "rd"
    intro c6 hc6
    generalize hH64 : upd H63 c6 _ = H64
    obtain ⟨sm64, up_c6⟩ : Same H63 H64 ∧ H64 c6 = some (.tup [.int 2, .int 0]) := newH hH64 hc6
    clear hH64
    walk_at "rd"
    intro a6 H65 ha6 sm65 ap_a6
    have up_a6 : AnsAt K H65 a6 (.bare (.ref c6)) := ap_a6
    walk_at "rd"
    intro t6 ht6
    generalize hH66 : upd H65 t6 _ = H66
    obtain ⟨sm66, up_t6⟩ : Same H65 H66 ∧ H66 t6 = some (.tup [.ref a6, .ref k_bare, .bl false]) := newH hH66 ht6
    clear hH66
    walk_at "rd"
    intro c7 hc7
    generalize hH67 : upd H66 c7 _ = H67
    obtain ⟨sm67, up_c7⟩ : Same H66 H67 ∧ H67 c7 = some (.tup [.int (-2), .int 1]) := newH hH67 hc7
    clear hH67
    walk_at "rd"
    intro a7 H68 ha7 sm68 ap_a7
    have up_a7 : AnsAt K H68 a7 (.bare (.ref c7)) := ap_a7
    walk_at "rd"
    intro t7 ht7
    generalize hH69 : upd H68 t7 _ = H69
    obtain ⟨sm69, up_t7⟩ : Same H68 H69 ∧ H69 t7 = some (.tup [.ref a7, .ref k_bare, .bl false]) := newH hH69 ht7
    clear hH69
    walk_at "rd"
    intro l2 hl2
    generalize hH70 : upd H69 l2 _ = H70
    obtain ⟨sm70, up_l2⟩ : Same H69 H70 ∧ H70 l2 = some (.lst [.ref t6, .ref t7]) := newH hH70 hl2
    clear hH70
    refine ⟨x1, l2, _, _, rfl, rfl, ((sm64.trans (sm65.trans (sm66.trans (sm67.trans (sm68.trans (sm69.trans (sm70))))))) _ _ up_x1), up_l2, size4 (show rs1.length + 2 ≤ 1000000 by omega), ?_⟩
    intro x2 hx2
    generalize hH71 : upd H70 x2 _ = H71
    obtain ⟨sm71, up_x2⟩ : Same H70 H71 ∧ H71 x2 = some (.lst (rs1 ++ [.ref t6, .ref t7])) := newH hH71 hx2
    clear hH71
    obtain ⟨rs2, er2⟩ : ∃ rs : List V, rs = rs1 ++ [.ref t6, .ref t7] := ⟨_, rfl⟩
    have r2 : ∀ v ∈ rs2, Row5 K H71 v := by rw [er2]; exact all_app (fun v hv => (r1 v hv).mono (sm64.trans (sm65.trans (sm66.trans (sm67.trans (sm68.trans (sm69.trans (sm70.trans (sm71))))))))) (all_cons (.mk (ps := [(b_bare0, ⟨0, 0, true⟩)]) ((sm67.trans (sm68.trans (sm69.trans (sm70.trans (sm71))))) _ _ up_t6) (.bare (c := (2, 0)) (up_a6.mono (sm66.trans (sm67.trans (sm68.trans (sm69.trans (sm70.trans (sm71))))))) ((sm65.trans (sm66.trans (sm67.trans (sm68.trans (sm69.trans (sm70.trans (sm71))))))) _ _ up_c6)) ((sm42.trans (sm43.trans (sm44.trans (sm45.trans (sm46.trans (sm47.trans (sm48.trans (sm49.trans (sm50.trans (sm51.trans (sm52.trans (sm53.trans (sm54.trans (sm55.trans (sm56.trans (sm57.trans (sm58.trans (sm59.trans (sm60.trans (sm61.trans (sm62.trans (sm63.trans (sm64.trans (sm65.trans (sm66.trans (sm67.trans (sm68.trans (sm69.trans (sm70.trans (sm71)))))))))))))))))))))))))))))) _ _ up_k_bare) (brt_cons ((sm41.trans (sm42.trans (sm43.trans (sm44.trans (sm45.trans (sm46.trans (sm47.trans (sm48.trans (sm49.trans (sm50.trans (sm51.trans (sm52.trans (sm53.trans (sm54.trans (sm55.trans (sm56.trans (sm57.trans (sm58.trans (sm59.trans (sm60.trans (sm61.trans (sm62.trans (sm63.trans (sm64.trans (sm65.trans (sm66.trans (sm67.trans (sm68.trans (sm69.trans (sm70.trans (sm71))))))))))))))))))))))))))))))) _ _ up_b_bare0) (fun _ z => nomatch z)) (show 1 ≤ 10 by decide) (show due5 2 2 2 1 [⟨0, 0, true⟩] (.bare (2, 0)) = false by decide +kernel)) (all_cons (.mk (ps := [(b_bare0, ⟨0, 0, true⟩)]) ((sm70.trans (sm71)) _ _ up_t7) (.bare (c := ((-2), 1)) (up_a7.mono (sm69.trans (sm70.trans (sm71)))) ((sm68.trans (sm69.trans (sm70.trans (sm71)))) _ _ up_c7)) ((sm42.trans (sm43.trans (sm44.trans (sm45.trans (sm46.trans (sm47.trans (sm48.trans (sm49.trans (sm50.trans (sm51.trans (sm52.trans (sm53.trans (sm54.trans (sm55.trans (sm56.trans (sm57.trans (sm58.trans (sm59.trans (sm60.trans (sm61.trans (sm62.trans (sm63.trans (sm64.trans (sm65.trans (sm66.trans (sm67.trans (sm68.trans (sm69.trans (sm70.trans (sm71)))))))))))))))))))))))))))))) _ _ up_k_bare) (brt_cons ((sm41.trans (sm42.trans (sm43.trans (sm44.trans (sm45.trans (sm46.trans (sm47.trans (sm48.trans (sm49.trans (sm50.trans (sm51.trans (sm52.trans (sm53.trans (sm54.trans (sm55.trans (sm56.trans (sm57.trans (sm58.trans (sm59.trans (sm60.trans (sm61.trans (sm62.trans (sm63.trans (sm64.trans (sm65.trans (sm66.trans (sm67.trans (sm68.trans (sm69.trans (sm70.trans (sm71))))))))))))))))))))))))))))))) _ _ up_b_bare0) (fun _ z => nomatch z)) (show 1 ≤ 10 by decide) (show due5 2 2 2 1 [⟨0, 0, true⟩] (.bare ((-2), 1)) = false by decide +kernel)) all_nil))
    have n2 : rs2.length ≤ 30 := by rw [er2, List.length_append]; exact Nat.add_le_add n1 (show 2 ≤ 10 by decide)
    rw [← er2] at up_x2
    clear er2
    walk_at "rd"
    intro c8 hc8
    generalize hH72 : upd H71 c8 _ = H72
    obtain ⟨sm72, up_c8⟩ : Same H71 H72 ∧ H72 c8 = some (.tup [.int 0, .int 0]) := newH hH72 hc8
    clear hH72
    walk_at "rd"
    intro a8 H73 ha8 sm73 ap_a8
    have up_a8 : AnsAt K H73 a8 (.twice (.ref c8)) := ap_a8
    walk_at "rd"
    intro t8 ht8
    generalize hH74 : upd H73 t8 _ = H74
    obtain ⟨sm74, up_t8⟩ : Same H73 H74 ∧ H74 t8 = some (.tup [.ref a8, .ref k_over, .bl true]) := newH hH74 ht8
    clear hH74
    walk_at "rd"
    intro c9 hc9
    generalize hH75 : upd H74 c9 _ = H75
    obtain ⟨sm75, up_c9⟩ : Same H74 H75 ∧ H75 c9 = some (.tup [.int 0, .int 1]) := newH hH75 hc9
    clear hH75
    walk_at "rd"
    intro a9 H76 ha9 sm76 ap_a9
    have up_a9 : AnsAt K H76 a9 (.twice (.ref c9)) := ap_a9
    walk_at "rd"
    intro t9 ht9
    generalize hH77 : upd H76 t9 _ = H77
    obtain ⟨sm77, up_t9⟩ : Same H76 H77 ∧ H77 t9 = some (.tup [.ref a9, .ref k_over, .bl false]) := newH hH77 ht9
    clear hH77
    walk_at "rd"
    intro l3 hl3
    generalize hH78 : upd H77 l3 _ = H78
    obtain ⟨sm78, up_l3⟩ : Same H77 H78 ∧ H78 l3 = some (.lst [.ref t8, .ref t9]) := newH hH78 hl3
    clear hH78
    refine ⟨x2, l3, _, _, rfl, rfl, ((sm72.trans (sm73.trans (sm74.trans (sm75.trans (sm76.trans (sm77.trans (sm78))))))) _ _ up_x2), up_l3, size4 (show rs2.length + 2 ≤ 1000000 by omega), ?_⟩
    intro x3 hx3
    generalize hH79 : upd H78 x3 _ = H79
    obtain ⟨sm79, up_x3⟩ : Same H78 H79 ∧ H79 x3 = some (.lst (rs2 ++ [.ref t8, .ref t9])) := newH hH79 hx3
    clear hH79
    obtain ⟨rs3, er3⟩ : ∃ rs : List V, rs = rs2 ++ [.ref t8, .ref t9] := ⟨_, rfl⟩
    have r3 : ∀ v ∈ rs3, Row5 K H79 v := by rw [er3]; exact all_app (fun v hv => (r2 v hv).mono (sm72.trans (sm73.trans (sm74.trans (sm75.trans (sm76.trans (sm77.trans (sm78.trans (sm79))))))))) (all_cons (.mk (ps := [(b_over0, ⟨0, 0, true⟩), (b_over1, ⟨0, 0, true⟩)]) ((sm75.trans (sm76.trans (sm77.trans (sm78.trans (sm79))))) _ _ up_t8) (.twice (c := (0, 0)) (up_a8.mono (sm74.trans (sm75.trans (sm76.trans (sm77.trans (sm78.trans (sm79))))))) ((sm73.trans (sm74.trans (sm75.trans (sm76.trans (sm77.trans (sm78.trans (sm79))))))) _ _ up_c8)) ((sm45.trans (sm46.trans (sm47.trans (sm48.trans (sm49.trans (sm50.trans (sm51.trans (sm52.trans (sm53.trans (sm54.trans (sm55.trans (sm56.trans (sm57.trans (sm58.trans (sm59.trans (sm60.trans (sm61.trans (sm62.trans (sm63.trans (sm64.trans (sm65.trans (sm66.trans (sm67.trans (sm68.trans (sm69.trans (sm70.trans (sm71.trans (sm72.trans (sm73.trans (sm74.trans (sm75.trans (sm76.trans (sm77.trans (sm78.trans (sm79))))))))))))))))))))))))))))))))))) _ _ up_k_over) (brt_cons ((sm43.trans (sm44.trans (sm45.trans (sm46.trans (sm47.trans (sm48.trans (sm49.trans (sm50.trans (sm51.trans (sm52.trans (sm53.trans (sm54.trans (sm55.trans (sm56.trans (sm57.trans (sm58.trans (sm59.trans (sm60.trans (sm61.trans (sm62.trans (sm63.trans (sm64.trans (sm65.trans (sm66.trans (sm67.trans (sm68.trans (sm69.trans (sm70.trans (sm71.trans (sm72.trans (sm73.trans (sm74.trans (sm75.trans (sm76.trans (sm77.trans (sm78.trans (sm79))))))))))))))))))))))))))))))))))))) _ _ up_b_over0) (brt_cons ((sm44.trans (sm45.trans (sm46.trans (sm47.trans (sm48.trans (sm49.trans (sm50.trans (sm51.trans (sm52.trans (sm53.trans (sm54.trans (sm55.trans (sm56.trans (sm57.trans (sm58.trans (sm59.trans (sm60.trans (sm61.trans (sm62.trans (sm63.trans (sm64.trans (sm65.trans (sm66.trans (sm67.trans (sm68.trans (sm69.trans (sm70.trans (sm71.trans (sm72.trans (sm73.trans (sm74.trans (sm75.trans (sm76.trans (sm77.trans (sm78.trans (sm79)))))))))))))))))))))))))))))))))))) _ _ up_b_over1) (fun _ z => nomatch z))) (show 2 ≤ 10 by decide) (show due5 2 2 2 1 [⟨0, 0, true⟩, ⟨0, 0, true⟩] (.twice (0, 0)) = true by decide +kernel)) (all_cons (.mk (ps := [(b_over0, ⟨0, 0, true⟩), (b_over1, ⟨0, 0, true⟩)]) ((sm78.trans (sm79)) _ _ up_t9) (.twice (c := (0, 1)) (up_a9.mono (sm77.trans (sm78.trans (sm79)))) ((sm76.trans (sm77.trans (sm78.trans (sm79)))) _ _ up_c9)) ((sm45.trans (sm46.trans (sm47.trans (sm48.trans (sm49.trans (sm50.trans (sm51.trans (sm52.trans (sm53.trans (sm54.trans (sm55.trans (sm56.trans (sm57.trans (sm58.trans (sm59.trans (sm60.trans (sm61.trans (sm62.trans (sm63.trans (sm64.trans (sm65.trans (sm66.trans (sm67.trans (sm68.trans (sm69.trans (sm70.trans (sm71.trans (sm72.trans (sm73.trans (sm74.trans (sm75.trans (sm76.trans (sm77.trans (sm78.trans (sm79))))))))))))))))))))))))))))))))))) _ _ up_k_over) (brt_cons ((sm43.trans (sm44.trans (sm45.trans (sm46.trans (sm47.trans (sm48.trans (sm49.trans (sm50.trans (sm51.trans (sm52.trans (sm53.trans (sm54.trans (sm55.trans (sm56.trans (sm57.trans (sm58.trans (sm59.trans (sm60.trans (sm61.trans (sm62.trans (sm63.trans (sm64.trans (sm65.trans (sm66.trans (sm67.trans (sm68.trans (sm69.trans (sm70.trans (sm71.trans (sm72.trans (sm73.trans (sm74.trans (sm75.trans (sm76.trans (sm77.trans (sm78.trans (sm79))))))))))))))))))))))))))))))))))))) _ _ up_b_over0) (brt_cons ((sm44.trans (sm45.trans (sm46.trans (sm47.trans (sm48.trans (sm49.trans (sm50.trans (sm51.trans (sm52.trans (sm53.trans (sm54.trans (sm55.trans (sm56.trans (sm57.trans (sm58.trans (sm59.trans (sm60.trans (sm61.trans (sm62.trans (sm63.trans (sm64.trans (sm65.trans (sm66.trans (sm67.trans (sm68.trans (sm69.trans (sm70.trans (sm71.trans (sm72.trans (sm73.trans (sm74.trans (sm75.trans (sm76.trans (sm77.trans (sm78.trans (sm79)))))))))))))))))))))))))))))))))))) _ _ up_b_over1) (fun _ z => nomatch z))) (show 2 ≤ 10 by decide) (show due5 2 2 2 1 [⟨0, 0, true⟩, ⟨0, 0, true⟩] (.twice (0, 1)) = false by decide +kernel)) all_nil))
    have n3 : rs3.length ≤ 40 := by rw [er3, List.length_append]; exact Nat.add_le_add n2 (show 2 ≤ 10 by decide)
    rw [← er3] at up_x3
    clear er3
    walk_at "rd"
    intro a10 H80 ha10 sm80 ap_a10
    have up_a10 : AnsAt K H80 a10 (.beyond (.int 1)) := ap_a10
    walk_at "rd"
    intro t10 ht10
    generalize hH81 : upd H80 t10 _ = H81
    obtain ⟨sm81, up_t10⟩ : Same H80 H81 ∧ H81 t10 = some (.tup [.ref a10, .ref k_out, .bl true]) := newH hH81 ht10
    clear hH81
    walk_at "rd"
    intro a11 H82 ha11 sm82 ap_a11
    have up_a11 : AnsAt K H82 a11 (.beyond (.int 0)) := ap_a11
    walk_at "rd"
    intro t11 ht11
    generalize hH83 : upd H82 t11 _ = H83
    obtain ⟨sm83, up_t11⟩ : Same H82 H83 ∧ H83 t11 = some (.tup [.ref a11, .ref k_out, .bl false]) := newH hH83 ht11
    clear hH83
    walk_at "rd"
    intro a12 H84 ha12 sm84 ap_a12
    have up_a12 : AnsAt K H84 a12 (.beyond (.int (-1))) := ap_a12
    walk_at "rd"
    intro t12 ht12
    generalize hH85 : upd H84 t12 _ = H85
    obtain ⟨sm85, up_t12⟩ : Same H84 H85 ∧ H85 t12 = some (.tup [.ref a12, .ref k_out, .bl false]) := newH hH85 ht12
    clear hH85
    walk_at "rd"
    intro l4 hl4
    generalize hH86 : upd H85 l4 _ = H86
    obtain ⟨sm86, up_l4⟩ : Same H85 H86 ∧ H86 l4 = some (.lst [.ref t10, .ref t11, .ref t12]) := newH hH86 hl4
    clear hH86
    refine ⟨x3, l4, _, _, rfl, rfl, ((sm80.trans (sm81.trans (sm82.trans (sm83.trans (sm84.trans (sm85.trans (sm86))))))) _ _ up_x3), up_l4, size4 (show rs3.length + 3 ≤ 1000000 by omega), ?_⟩
    intro x4 hx4
    generalize hH87 : upd H86 x4 _ = H87
    obtain ⟨sm87, up_x4⟩ : Same H86 H87 ∧ H87 x4 = some (.lst (rs3 ++ [.ref t10, .ref t11, .ref t12])) := newH hH87 hx4
    clear hH87
    obtain ⟨rs4, er4⟩ : ∃ rs : List V, rs = rs3 ++ [.ref t10, .ref t11, .ref t12] := ⟨_, rfl⟩
    have r4 : ∀ v ∈ rs4, Row5 K H87 v := by rw [er4]; exact all_app (fun v hv => (r3 v hv).mono (sm80.trans (sm81.trans (sm82.trans (sm83.trans (sm84.trans (sm85.trans (sm86.trans (sm87))))))))) (all_cons (.mk (ps := [(b_out0, ⟨0, 0, true⟩), (b_out1, ⟨1, 1, true⟩)]) ((sm82.trans (sm83.trans (sm84.trans (sm85.trans (sm86.trans (sm87)))))) _ _ up_t10) (.beyond (up_a10.mono (sm81.trans (sm82.trans (sm83.trans (sm84.trans (sm85.trans (sm86.trans (sm87))))))))) ((sm48.trans (sm49.trans (sm50.trans (sm51.trans (sm52.trans (sm53.trans (sm54.trans (sm55.trans (sm56.trans (sm57.trans (sm58.trans (sm59.trans (sm60.trans (sm61.trans (sm62.trans (sm63.trans (sm64.trans (sm65.trans (sm66.trans (sm67.trans (sm68.trans (sm69.trans (sm70.trans (sm71.trans (sm72.trans (sm73.trans (sm74.trans (sm75.trans (sm76.trans (sm77.trans (sm78.trans (sm79.trans (sm80.trans (sm81.trans (sm82.trans (sm83.trans (sm84.trans (sm85.trans (sm86.trans (sm87)))))))))))))))))))))))))))))))))))))))) _ _ up_k_out) (brt_cons ((sm46.trans (sm47.trans (sm48.trans (sm49.trans (sm50.trans (sm51.trans (sm52.trans (sm53.trans (sm54.trans (sm55.trans (sm56.trans (sm57.trans (sm58.trans (sm59.trans (sm60.trans (sm61.trans (sm62.trans (sm63.trans (sm64.trans (sm65.trans (sm66.trans (sm67.trans (sm68.trans (sm69.trans (sm70.trans (sm71.trans (sm72.trans (sm73.trans (sm74.trans (sm75.trans (sm76.trans (sm77.trans (sm78.trans (sm79.trans (sm80.trans (sm81.trans (sm82.trans (sm83.trans (sm84.trans (sm85.trans (sm86.trans (sm87)))))))))))))))))))))))))))))))))))))))))) _ _ up_b_out0) (brt_cons ((sm47.trans (sm48.trans (sm49.trans (sm50.trans (sm51.trans (sm52.trans (sm53.trans (sm54.trans (sm55.trans (sm56.trans (sm57.trans (sm58.trans (sm59.trans (sm60.trans (sm61.trans (sm62.trans (sm63.trans (sm64.trans (sm65.trans (sm66.trans (sm67.trans (sm68.trans (sm69.trans (sm70.trans (sm71.trans (sm72.trans (sm73.trans (sm74.trans (sm75.trans (sm76.trans (sm77.trans (sm78.trans (sm79.trans (sm80.trans (sm81.trans (sm82.trans (sm83.trans (sm84.trans (sm85.trans (sm86.trans (sm87))))))))))))))))))))))))))))))))))))))))) _ _ up_b_out1) (fun _ z => nomatch z))) (show 2 ≤ 10 by decide) (show due5 2 2 2 1 [⟨0, 0, true⟩, ⟨1, 1, true⟩] (.beyond 1) = true by decide +kernel)) (all_cons (.mk (ps := [(b_out0, ⟨0, 0, true⟩), (b_out1, ⟨1, 1, true⟩)]) ((sm84.trans (sm85.trans (sm86.trans (sm87)))) _ _ up_t11) (.beyond (up_a11.mono (sm83.trans (sm84.trans (sm85.trans (sm86.trans (sm87))))))) ((sm48.trans (sm49.trans (sm50.trans (sm51.trans (sm52.trans (sm53.trans (sm54.trans (sm55.trans (sm56.trans (sm57.trans (sm58.trans (sm59.trans (sm60.trans (sm61.trans (sm62.trans (sm63.trans (sm64.trans (sm65.trans (sm66.trans (sm67.trans (sm68.trans (sm69.trans (sm70.trans (sm71.trans (sm72.trans (sm73.trans (sm74.trans (sm75.trans (sm76.trans (sm77.trans (sm78.trans (sm79.trans (sm80.trans (sm81.trans (sm82.trans (sm83.trans (sm84.trans (sm85.trans (sm86.trans (sm87)))))))))))))))))))))))))))))))))))))))) _ _ up_k_out) (brt_cons ((sm46.trans (sm47.trans (sm48.trans (sm49.trans (sm50.trans (sm51.trans (sm52.trans (sm53.trans (sm54.trans (sm55.trans (sm56.trans (sm57.trans (sm58.trans (sm59.trans (sm60.trans (sm61.trans (sm62.trans (sm63.trans (sm64.trans (sm65.trans (sm66.trans (sm67.trans (sm68.trans (sm69.trans (sm70.trans (sm71.trans (sm72.trans (sm73.trans (sm74.trans (sm75.trans (sm76.trans (sm77.trans (sm78.trans (sm79.trans (sm80.trans (sm81.trans (sm82.trans (sm83.trans (sm84.trans (sm85.trans (sm86.trans (sm87)))))))))))))))))))))))))))))))))))))))))) _ _ up_b_out0) (brt_cons ((sm47.trans (sm48.trans (sm49.trans (sm50.trans (sm51.trans (sm52.trans (sm53.trans (sm54.trans (sm55.trans (sm56.trans (sm57.trans (sm58.trans (sm59.trans (sm60.trans (sm61.trans (sm62.trans (sm63.trans (sm64.trans (sm65.trans (sm66.trans (sm67.trans (sm68.trans (sm69.trans (sm70.trans (sm71.trans (sm72.trans (sm73.trans (sm74.trans (sm75.trans (sm76.trans (sm77.trans (sm78.trans (sm79.trans (sm80.trans (sm81.trans (sm82.trans (sm83.trans (sm84.trans (sm85.trans (sm86.trans (sm87))))))))))))))))))))))))))))))))))))))))) _ _ up_b_out1) (fun _ z => nomatch z))) (show 2 ≤ 10 by decide) (show due5 2 2 2 1 [⟨0, 0, true⟩, ⟨1, 1, true⟩] (.beyond 0) = false by decide +kernel)) (all_cons (.mk (ps := [(b_out0, ⟨0, 0, true⟩), (b_out1, ⟨1, 1, true⟩)]) ((sm86.trans (sm87)) _ _ up_t12) (.beyond (up_a12.mono (sm85.trans (sm86.trans (sm87))))) ((sm48.trans (sm49.trans (sm50.trans (sm51.trans (sm52.trans (sm53.trans (sm54.trans (sm55.trans (sm56.trans (sm57.trans (sm58.trans (sm59.trans (sm60.trans (sm61.trans (sm62.trans (sm63.trans (sm64.trans (sm65.trans (sm66.trans (sm67.trans (sm68.trans (sm69.trans (sm70.trans (sm71.trans (sm72.trans (sm73.trans (sm74.trans (sm75.trans (sm76.trans (sm77.trans (sm78.trans (sm79.trans (sm80.trans (sm81.trans (sm82.trans (sm83.trans (sm84.trans (sm85.trans (sm86.trans (sm87)))))))))))))))))))))))))))))))))))))))) _ _ up_k_out) (brt_cons ((sm46.trans (sm47.trans (sm48.trans (sm49.trans (sm50.trans (sm51.trans (sm52.trans (sm53.trans (sm54.trans (sm55.trans (sm56.trans (sm57.trans (sm58.trans (sm59.trans (sm60.trans (sm61.trans (sm62.trans (sm63.trans (sm64.trans (sm65.trans (sm66.trans (sm67.trans (sm68.trans (sm69.trans (sm70.trans (sm71.trans (sm72.trans (sm73.trans (sm74.trans (sm75.trans (sm76.trans (sm77.trans (sm78.trans (sm79.trans (sm80.trans (sm81.trans (sm82.trans (sm83.trans (sm84.trans (sm85.trans (sm86.trans (sm87)))))))))))))))))))))))))))))))))))))))))) _ _ up_b_out0) (brt_cons ((sm47.trans (sm48.trans (sm49.trans (sm50.trans (sm51.trans (sm52.trans (sm53.trans (sm54.trans (sm55.trans (sm56.trans (sm57.trans (sm58.trans (sm59.trans (sm60.trans (sm61.trans (sm62.trans (sm63.trans (sm64.trans (sm65.trans (sm66.trans (sm67.trans (sm68.trans (sm69.trans (sm70.trans (sm71.trans (sm72.trans (sm73.trans (sm74.trans (sm75.trans (sm76.trans (sm77.trans (sm78.trans (sm79.trans (sm80.trans (sm81.trans (sm82.trans (sm83.trans (sm84.trans (sm85.trans (sm86.trans (sm87))))))))))))))))))))))))))))))))))))))))) _ _ up_b_out1) (fun _ z => nomatch z))) (show 2 ≤ 10 by decide) (show due5 2 2 2 1 [⟨0, 0, true⟩, ⟨1, 1, true⟩] (.beyond (-1)) = false by decide +kernel)) all_nil)))
    have n4 : rs4.length ≤ 50 := by rw [er4, List.length_append]; exact Nat.add_le_add n3 (show 3 ≤ 10 by decide)
    rw [← er4] at up_x4
    clear er4
    walk_at "rd"
    intro a13 H88 ha13 sm88 ap_a13
    have up_a13 : AnsAt K H88 a13 (.beyond (.int (10 ^ 50))) := ap_a13
    walk_at "rd"
    intro t13 ht13
    generalize hH89 : upd H88 t13 _ = H89
    obtain ⟨sm89, up_t13⟩ : Same H88 H89 ∧ H89 t13 = some (.tup [.ref a13, .ref k_out, .bl false]) := newH hH89 ht13
    clear hH89
    walk_at "rd"
    intro c14 hc14
    generalize hH90 : upd H89 c14 _ = H90
    obtain ⟨sm90, up_c14⟩ : Same H89 H90 ∧ H90 c14 = some (.tup [.int (-2), .int 0]) := newH hH90 hc14
    clear hH90
    walk_at "rd"
    intro a14 H91 ha14 sm91 ap_a14
    have up_a14 : AnsAt K H91 a14 (.twice (.ref c14)) := ap_a14
    walk_at "rd"
    intro t14 ht14
    generalize hH92 : upd H91 t14 _ = H92
    obtain ⟨sm92, up_t14⟩ : Same H91 H92 ∧ H92 t14 = some (.tup [.ref a14, .ref k_over, .bl false]) := newH hH92 ht14
    clear hH92
    walk_at "rd"
    intro l5 hl5
    generalize hH93 : upd H92 l5 _ = H93
    obtain ⟨sm93, up_l5⟩ : Same H92 H93 ∧ H93 l5 = some (.lst [.ref t13, .ref t14]) := newH hH93 hl5
    clear hH93
    refine ⟨x4, l5, _, _, rfl, rfl, ((sm88.trans (sm89.trans (sm90.trans (sm91.trans (sm92.trans (sm93)))))) _ _ up_x4), up_l5, size4 (show rs4.length + 2 ≤ 1000000 by omega), ?_⟩
    intro x5 hx5
    generalize hH94 : upd H93 x5 _ = H94
    obtain ⟨sm94, up_x5⟩ : Same H93 H94 ∧ H94 x5 = some (.lst (rs4 ++ [.ref t13, .ref t14])) := newH hH94 hx5
    clear hH94
    obtain ⟨rs5, er5⟩ : ∃ rs : List V, rs = rs4 ++ [.ref t13, .ref t14] := ⟨_, rfl⟩
    have r5 : ∀ v ∈ rs5, Row5 K H94 v := by rw [er5]; exact all_app (fun v hv => (r4 v hv).mono (sm88.trans (sm89.trans (sm90.trans (sm91.trans (sm92.trans (sm93.trans (sm94)))))))) (all_cons (.mk (ps := [(b_out0, ⟨0, 0, true⟩), (b_out1, ⟨1, 1, true⟩)]) ((sm90.trans (sm91.trans (sm92.trans (sm93.trans (sm94))))) _ _ up_t13) (.beyond (up_a13.mono (sm89.trans (sm90.trans (sm91.trans (sm92.trans (sm93.trans (sm94)))))))) ((sm48.trans (sm49.trans (sm50.trans (sm51.trans (sm52.trans (sm53.trans (sm54.trans (sm55.trans (sm56.trans (sm57.trans (sm58.trans (sm59.trans (sm60.trans (sm61.trans (sm62.trans (sm63.trans (sm64.trans (sm65.trans (sm66.trans (sm67.trans (sm68.trans (sm69.trans (sm70.trans (sm71.trans (sm72.trans (sm73.trans (sm74.trans (sm75.trans (sm76.trans (sm77.trans (sm78.trans (sm79.trans (sm80.trans (sm81.trans (sm82.trans (sm83.trans (sm84.trans (sm85.trans (sm86.trans (sm87.trans (sm88.trans (sm89.trans (sm90.trans (sm91.trans (sm92.trans (sm93.trans (sm94))))))))))))))))))))))))))))))))))))))))))))))) _ _ up_k_out) (brt_cons ((sm46.trans (sm47.trans (sm48.trans (sm49.trans (sm50.trans (sm51.trans (sm52.trans (sm53.trans (sm54.trans (sm55.trans (sm56.trans (sm57.trans (sm58.trans (sm59.trans (sm60.trans (sm61.trans (sm62.trans (sm63.trans (sm64.trans (sm65.trans (sm66.trans (sm67.trans (sm68.trans (sm69.trans (sm70.trans (sm71.trans (sm72.trans (sm73.trans (sm74.trans (sm75.trans (sm76.trans (sm77.trans (sm78.trans (sm79.trans (sm80.trans (sm81.trans (sm82.trans (sm83.trans (sm84.trans (sm85.trans (sm86.trans (sm87.trans (sm88.trans (sm89.trans (sm90.trans (sm91.trans (sm92.trans (sm93.trans (sm94))))))))))))))))))))))))))))))))))))))))))))))))) _ _ up_b_out0) (brt_cons ((sm47.trans (sm48.trans (sm49.trans (sm50.trans (sm51.trans (sm52.trans (sm53.trans (sm54.trans (sm55.trans (sm56.trans (sm57.trans (sm58.trans (sm59.trans (sm60.trans (sm61.trans (sm62.trans (sm63.trans (sm64.trans (sm65.trans (sm66.trans (sm67.trans (sm68.trans (sm69.trans (sm70.trans (sm71.trans (sm72.trans (sm73.trans (sm74.trans (sm75.trans (sm76.trans (sm77.trans (sm78.trans (sm79.trans (sm80.trans (sm81.trans (sm82.trans (sm83.trans (sm84.trans (sm85.trans (sm86.trans (sm87.trans (sm88.trans (sm89.trans (sm90.trans (sm91.trans (sm92.trans (sm93.trans (sm94)))))))))))))))))))))))))))))))))))))))))))))))) _ _ up_b_out1) (fun _ z => nomatch z))) (show 2 ≤ 10 by decide) (show due5 2 2 2 1 [⟨0, 0, true⟩, ⟨1, 1, true⟩] (.beyond (10 ^ 50)) = false by decide +kernel)) (all_cons (.mk (ps := [(b_over0, ⟨0, 0, true⟩), (b_over1, ⟨0, 0, true⟩)]) ((sm93.trans (sm94)) _ _ up_t14) (.twice (c := ((-2), 0)) (up_a14.mono (sm92.trans (sm93.trans (sm94)))) ((sm91.trans (sm92.trans (sm93.trans (sm94)))) _ _ up_c14)) ((sm45.trans (sm46.trans (sm47.trans (sm48.trans (sm49.trans (sm50.trans (sm51.trans (sm52.trans (sm53.trans (sm54.trans (sm55.trans (sm56.trans (sm57.trans (sm58.trans (sm59.trans (sm60.trans (sm61.trans (sm62.trans (sm63.trans (sm64.trans (sm65.trans (sm66.trans (sm67.trans (sm68.trans (sm69.trans (sm70.trans (sm71.trans (sm72.trans (sm73.trans (sm74.trans (sm75.trans (sm76.trans (sm77.trans (sm78.trans (sm79.trans (sm80.trans (sm81.trans (sm82.trans (sm83.trans (sm84.trans (sm85.trans (sm86.trans (sm87.trans (sm88.trans (sm89.trans (sm90.trans (sm91.trans (sm92.trans (sm93.trans (sm94)))))))))))))))))))))))))))))))))))))))))))))))))) _ _ up_k_over) (brt_cons ((sm43.trans (sm44.trans (sm45.trans (sm46.trans (sm47.trans (sm48.trans (sm49.trans (sm50.trans (sm51.trans (sm52.trans (sm53.trans (sm54.trans (sm55.trans (sm56.trans (sm57.trans (sm58.trans (sm59.trans (sm60.trans (sm61.trans (sm62.trans (sm63.trans (sm64.trans (sm65.trans (sm66.trans (sm67.trans (sm68.trans (sm69.trans (sm70.trans (sm71.trans (sm72.trans (sm73.trans (sm74.trans (sm75.trans (sm76.trans (sm77.trans (sm78.trans (sm79.trans (sm80.trans (sm81.trans (sm82.trans (sm83.trans (sm84.trans (sm85.trans (sm86.trans (sm87.trans (sm88.trans (sm89.trans (sm90.trans (sm91.trans (sm92.trans (sm93.trans (sm94)))))))))))))))))))))))))))))))))))))))))))))))))))) _ _ up_b_over0) (brt_cons ((sm44.trans (sm45.trans (sm46.trans (sm47.trans (sm48.trans (sm49.trans (sm50.trans (sm51.trans (sm52.trans (sm53.trans (sm54.trans (sm55.trans (sm56.trans (sm57.trans (sm58.trans (sm59.trans (sm60.trans (sm61.trans (sm62.trans (sm63.trans (sm64.trans (sm65.trans (sm66.trans (sm67.trans (sm68.trans (sm69.trans (sm70.trans (sm71.trans (sm72.trans (sm73.trans (sm74.trans (sm75.trans (sm76.trans (sm77.trans (sm78.trans (sm79.trans (sm80.trans (sm81.trans (sm82.trans (sm83.trans (sm84.trans (sm85.trans (sm86.trans (sm87.trans (sm88.trans (sm89.trans (sm90.trans (sm91.trans (sm92.trans (sm93.trans (sm94))))))))))))))))))))))))))))))))))))))))))))))))))) _ _ up_b_over1) (fun _ z => nomatch z))) (show 2 ≤ 10 by decide) (show due5 2 2 2 1 [⟨0, 0, true⟩, ⟨0, 0, true⟩] (.twice ((-2), 0)) = false by decide +kernel)) all_nil))
    have n5 : rs5.length ≤ 60 := by rw [er5, List.length_append]; exact Nat.add_le_add n4 (show 2 ≤ 10 by decide)
    rw [← er5] at up_x5
    clear er5
    walk_at "rd"
    intro a15 H95 ha15 sm95 ap_a15
    have up_a15 : AnsAt K H95 a15 (.beyond (.int 0)) := ap_a15
    walk_at "rd"
    intro b_y150 hb_y150
    generalize hH96 : upd H95 b_y150 _ = H96
    obtain ⟨sm96, up_b_y150⟩ : Same H95 H96 ∧ H96 b_y150 = some (.tup [.int (10 ^ 50), .int 0, .bl true]) := newH hH96 hb_y150
    clear hH96
    walk_at "rd"
    intro k_y15 hk_y15
    generalize hH97 : upd H96 k_y15 _ = H97
    obtain ⟨sm97, up_k_y15⟩ : Same H96 H97 ∧ H97 k_y15 = some (.lst [.ref b_y150]) := newH hH97 hk_y15
    clear hH97
    walk_at "rd"
    intro t15 ht15
    generalize hH98 : upd H97 t15 _ = H98
    obtain ⟨sm98, up_t15⟩ : Same H97 H98 ∧ H98 t15 = some (.tup [.ref a15, .ref k_y15, .bl true]) := newH hH98 ht15
    clear hH98
    walk_at "rd"
    intro a16 H99 ha16 sm99 ap_a16
    have up_a16 : AnsAt K H99 a16 (.beyond (.int 0)) := ap_a16
    walk_at "rd"
    intro b_y160 hb_y160
    generalize hH100 : upd H99 b_y160 _ = H100
    obtain ⟨sm100, up_b_y160⟩ : Same H99 H100 ∧ H100 b_y160 = some (.tup [.int (-1), .int 0, .bl true]) := newH hH100 hb_y160
    clear hH100
    walk_at "rd"
    intro k_y16 hk_y16
    generalize hH101 : upd H100 k_y16 _ = H101
    obtain ⟨sm101, up_k_y16⟩ : Same H100 H101 ∧ H101 k_y16 = some (.lst [.ref b_y160]) := newH hH101 hk_y16
    clear hH101
    walk_at "rd"
    intro t16 ht16
    generalize hH102 : upd H101 t16 _ = H102
    obtain ⟨sm102, up_t16⟩ : Same H101 H102 ∧ H102 t16 = some (.tup [.ref a16, .ref k_y16, .bl true]) := newH hH102 ht16
    clear hH102
    walk_at "rd"
    intro l6 hl6
    generalize hH103 : upd H102 l6 _ = H103
    obtain ⟨sm103, up_l6⟩ : Same H102 H103 ∧ H103 l6 = some (.lst [.ref t15, .ref t16]) := newH hH103 hl6
    clear hH103
    refine ⟨x5, l6, _, _, rfl, rfl, ((sm95.trans (sm96.trans (sm97.trans (sm98.trans (sm99.trans (sm100.trans (sm101.trans (sm102.trans (sm103))))))))) _ _ up_x5), up_l6, size4 (show rs5.length + 2 ≤ 1000000 by omega), ?_⟩
    intro x6 hx6
    generalize hH104 : upd H103 x6 _ = H104
    obtain ⟨sm104, up_x6⟩ : Same H103 H104 ∧ H104 x6 = some (.lst (rs5 ++ [.ref t15, .ref t16])) := newH hH104 hx6
    clear hH104
    obtain ⟨rs6, er6⟩ : ∃ rs : List V, rs = rs5 ++ [.ref t15, .ref t16] := ⟨_, rfl⟩
    have r6 : ∀ v ∈ rs6, Row5 K H104 v := by rw [er6]; exact all_app (fun v hv => (r5 v hv).mono (sm95.trans (sm96.trans (sm97.trans (sm98.trans (sm99.trans (sm100.trans (sm101.trans (sm102.trans (sm103.trans (sm104))))))))))) (all_cons (.mk (ps := [(b_y150, ⟨(10 ^ 50), 0, true⟩)]) ((sm99.trans (sm100.trans (sm101.trans (sm102.trans (sm103.trans (sm104)))))) _ _ up_t15) (.beyond (up_a15.mono (sm96.trans (sm97.trans (sm98.trans (sm99.trans (sm100.trans (sm101.trans (sm102.trans (sm103.trans (sm104))))))))))) ((sm98.trans (sm99.trans (sm100.trans (sm101.trans (sm102.trans (sm103.trans (sm104))))))) _ _ up_k_y15) (brt_cons ((sm97.trans (sm98.trans (sm99.trans (sm100.trans (sm101.trans (sm102.trans (sm103.trans (sm104)))))))) _ _ up_b_y150) (fun _ z => nomatch z)) (show 1 ≤ 10 by decide) (show due5 2 2 2 1 [⟨(10 ^ 50), 0, true⟩] (.beyond 0) = true by decide +kernel)) (all_cons (.mk (ps := [(b_y160, ⟨(-1), 0, true⟩)]) ((sm103.trans (sm104)) _ _ up_t16) (.beyond (up_a16.mono (sm100.trans (sm101.trans (sm102.trans (sm103.trans (sm104))))))) ((sm102.trans (sm103.trans (sm104))) _ _ up_k_y16) (brt_cons ((sm101.trans (sm102.trans (sm103.trans (sm104)))) _ _ up_b_y160) (fun _ z => nomatch z)) (show 1 ≤ 10 by decide) (show due5 2 2 2 1 [⟨(-1), 0, true⟩] (.beyond 0) = true by decide +kernel)) all_nil))
    have n6 : rs6.length ≤ 70 := by rw [er6, List.length_append]; exact Nat.add_le_add n5 (show 2 ≤ 10 by decide)
    rw [← er6] at up_x6
    clear er6
    walk_at "rd"
    intro c17 hc17
    generalize hH105 : upd H104 c17 _ = H105
    obtain ⟨sm105, up_c17⟩ : Same H104 H105 ∧ H105 c17 = some (.tup [.int (10 ^ 50), .int 0]) := newH hH105 hc17
    clear hH105
    walk_at "rd"
    intro a17 H106 ha17 sm106 ap_a17
    have up_a17 : AnsAt K H106 a17 (.bare (.ref c17)) := ap_a17
    walk_at "rd"
    intro t17 ht17
    generalize hH107 : upd H106 t17 _ = H107
    obtain ⟨sm107, up_t17⟩ : Same H106 H107 ∧ H107 t17 = some (.tup [.ref a17, .ref k_bare, .bl false]) := newH hH107 ht17
    clear hH107
    walk_at "rd"
    intro a18 H108 ha18 sm108 ap_a18
    have up_a18 : AnsAt K H108 a18 .full := ap_a18
    walk_at "rd"
    intro k_y18 hk_y18
    generalize hH109 : upd H108 k_y18 _ = H109
    obtain ⟨sm109, up_k_y18⟩ : Same H108 H109 ∧ H109 k_y18 = some (.lst []) := newH hH109 hk_y18
    clear hH109
    walk_at "rd"
    intro t18 ht18
    generalize hH110 : upd H109 t18 _ = H110
    obtain ⟨sm110, up_t18⟩ : Same H109 H110 ∧ H110 t18 = some (.tup [.ref a18, .ref k_y18, .bl false]) := newH hH110 ht18
    clear hH110
    walk_at "rd"
    intro l7 hl7
    generalize hH111 : upd H110 l7 _ = H111
    obtain ⟨sm111, up_l7⟩ : Same H110 H111 ∧ H111 l7 = some (.lst [.ref t17, .ref t18]) := newH hH111 hl7
    clear hH111
    refine ⟨x6, l7, _, _, rfl, rfl, ((sm105.trans (sm106.trans (sm107.trans (sm108.trans (sm109.trans (sm110.trans (sm111))))))) _ _ up_x6), up_l7, size4 (show rs6.length + 2 ≤ 1000000 by omega), ?_⟩
    intro x7 hx7
    generalize hH112 : upd H111 x7 _ = H112
    obtain ⟨sm112, up_x7⟩ : Same H111 H112 ∧ H112 x7 = some (.lst (rs6 ++ [.ref t17, .ref t18])) := newH hH112 hx7
    clear hH112
    obtain ⟨rs7, er7⟩ : ∃ rs : List V, rs = rs6 ++ [.ref t17, .ref t18] := ⟨_, rfl⟩
    have r7 : ∀ v ∈ rs7, Row5 K H112 v := by rw [er7]; exact all_app (fun v hv => (r6 v hv).mono (sm105.trans (sm106.trans (sm107.trans (sm108.trans (sm109.trans (sm110.trans (sm111.trans (sm112))))))))) (all_cons (.mk (ps := [(b_bare0, ⟨0, 0, true⟩)]) ((sm108.trans (sm109.trans (sm110.trans (sm111.trans (sm112))))) _ _ up_t17) (.bare (c := ((10 ^ 50), 0)) (up_a17.mono (sm107.trans (sm108.trans (sm109.trans (sm110.trans (sm111.trans (sm112))))))) ((sm106.trans (sm107.trans (sm108.trans (sm109.trans (sm110.trans (sm111.trans (sm112))))))) _ _ up_c17)) ((sm42.trans (sm43.trans (sm44.trans (sm45.trans (sm46.trans (sm47.trans (sm48.trans (sm49.trans (sm50.trans (sm51.trans (sm52.trans (sm53.trans (sm54.trans (sm55.trans (sm56.trans (sm57.trans (sm58.trans (sm59.trans (sm60.trans (sm61.trans (sm62.trans (sm63.trans (sm64.trans (sm65.trans (sm66.trans (sm67.trans (sm68.trans (sm69.trans (sm70.trans (sm71.trans (sm72.trans (sm73.trans (sm74.trans (sm75.trans (sm76.trans (sm77.trans (sm78.trans (sm79.trans (sm80.trans (sm81.trans (sm82.trans (sm83.trans (sm84.trans (sm85.trans (sm86.trans (sm87.trans (sm88.trans (sm89.trans (sm90.trans (sm91.trans (sm92.trans (sm93.trans (sm94.trans (sm95.trans (sm96.trans (sm97.trans (sm98.trans (sm99.trans (sm100.trans (sm101.trans (sm102.trans (sm103.trans (sm104.trans (sm105.trans (sm106.trans (sm107.trans (sm108.trans (sm109.trans (sm110.trans (sm111.trans (sm112))))))))))))))))))))))))))))))))))))))))))))))))))))))))))))))))))))))) _ _ up_k_bare) (brt_cons ((sm41.trans (sm42.trans (sm43.trans (sm44.trans (sm45.trans (sm46.trans (sm47.trans (sm48.trans (sm49.trans (sm50.trans (sm51.trans (sm52.trans (sm53.trans (sm54.trans (sm55.trans (sm56.trans (sm57.trans (sm58.trans (sm59.trans (sm60.trans (sm61.trans (sm62.trans (sm63.trans (sm64.trans (sm65.trans (sm66.trans (sm67.trans (sm68.trans (sm69.trans (sm70.trans (sm71.trans (sm72.trans (sm73.trans (sm74.trans (sm75.trans (sm76.trans (sm77.trans (sm78.trans (sm79.trans (sm80.trans (sm81.trans (sm82.trans (sm83.trans (sm84.trans (sm85.trans (sm86.trans (sm87.trans (sm88.trans (sm89.trans (sm90.trans (sm91.trans (sm92.trans (sm93.trans (sm94.trans (sm95.trans (sm96.trans (sm97.trans (sm98.trans (sm99.trans (sm100.trans (sm101.trans (sm102.trans (sm103.trans (sm104.trans (sm105.trans (sm106.trans (sm107.trans (sm108.trans (sm109.trans (sm110.trans (sm111.trans (sm112)))))))))))))))))))))))))))))))))))))))))))))))))))))))))))))))))))))))) _ _ up_b_bare0) (fun _ z => nomatch z)) (show 1 ≤ 10 by decide) (show due5 2 2 2 1 [⟨0, 0, true⟩] (.bare ((10 ^ 50), 0)) = false by decide +kernel)) (all_cons (.mk (ps := []) ((sm111.trans (sm112)) _ _ up_t18) (.full (up_a18.mono (sm109.trans (sm110.trans (sm111.trans (sm112)))))) ((sm110.trans (sm111.trans (sm112))) _ _ up_k_y18) (fun _ z => nomatch z) (show 0 ≤ 10 by decide) (show due5 2 2 2 1 [] .full = false by decide +kernel)) all_nil))
    have n7 : rs7.length ≤ 80 := by rw [er7, List.length_append]; exact Nat.add_le_add n6 (show 2 ≤ 10 by decide)
    rw [← er7] at up_x7
    clear er7
    walk_at "rd"
    refine ⟨⟨_, sqL up_x7⟩, for_list (K := K) (a := x7) (xs := rs7) (fun i σ H' => HaJ K H112 (.ref x7) σ H') (.mk (Same.refl _)) (fun i σ H' _ h => by obtain ⟨sm⟩ := h; exact sqL (sm _ _ up_x7)) ?_ ?_⟩
    · rintro i v σ Ha hi ⟨sma⟩
      obtain @⟨t, pa, l, d, ps, b, ht, ha, hl, hb, hn, hd⟩ := (r7 v (List.mem_of_getElem? hi)).mono sma
      obtain ⟨dx, fs, ea, el⟩ := ha.look
      refine ⟨t, _, rfl, sqT ht, rfl, ?_⟩
      walk_at "rd"
      refine ⟨d.cl, ok_5, _, rfl, pa, dx, fs, rfl, ea, el, ?_⟩
      walk_at "rd"
      refine .mk ha rfl (by decide) (by decide) (by decide) (by decide) (sqL hl) hb.all (Nat.le_trans hn (by decide)) fun Hb smb => ?_
      walk_at "rd"
      rw [hd, decide_eq_true (show V.bl b = V.bl b from rfl)]
      exact iteF (.mk (sma.trans smb))
    rintro σ Ha ⟨_⟩
    exact .mk q
end
end BF

/-! ### k08: bricks changed in place -/
namespace BF
open PySem PySem.Spec PyProof.Rows L2
theorem upd_keep {H : Hp} {l a : Addr} {xs : List V} {o u : HO} (hl : H l = some (.lst xs)) (h : H a = some u) (hn : ∀ ys, u ≠ .lst ys) : upd H l o a = some u := by
  rw [upd_ne (fun e => by
    rw [e, hl] at h
    cases h
    exact hn _ rfl)]
  exact h
theorem AnsAt.upd {K : PySem.W.Frag} {H : Hp} {l p : Addr} {xs : List V} {o : HO} {a : Ans} (h : AnsAt K H p a) (hl : H l = some (.lst xs)) : AnsAt K (upd H l o) p a := by
  obtain ⟨dx, e⟩ := h
  exact ⟨dx, upd_keep hl e (fun _ z => nomatch z)⟩
theorem At5.upd {K : PySem.W.Frag} {H : Hp} {l p : Addr} {xs : List V} {o : HO} {d : D5} (h : At5 K H p d) (hl : H l = some (.lst xs)) : At5 K (upd H l o) p d := by
  cases h with
  | full h => exact .full (h.upd hl)
  | beyond h => exact .beyond (h.upd hl)
  | twice h ht => exact .twice (h.upd hl) (upd_keep hl ht (fun _ z => nomatch z))
  | bare h ht => exact .bare (h.upd hl) (upd_keep hl ht (fun _ z => nomatch z))
theorem At5.ans {K : PySem.W.Frag} {H : Hp} {p : Addr} {d : D5} (h : At5 K H p d) : ∃ a : Ans, AnsAt K H p a ∧ a.cl = d.cl := by
  cases h with
  | full h => exact ⟨_, h, rfl⟩
  | beyond h => exact ⟨_, h, rfl⟩
  | twice h ht => exact ⟨_, h, rfl⟩
  | bare h ht => exact ⟨_, h, rfl⟩
theorem due_notfull {L W f s : Int} {bs : List Brick} {d : D5} (hL : 0 < L) (hW : 0 < W) (h : fullB L W f s bs = true) (hd : d.cl ≠ .full) : due5 L W f s bs d = false := by
  unfold fullB at h
  rw [Bool.and_eq_true] at h
  have one : ∀ c, cellB L W c = true → oftN f s bs c = 1 := fun c hc => of_decide_eq_true (List.all_eq_true.mp h.2 c ((mem_grid (Int.le_of_lt hL) (Int.le_of_lt hW)).mpr hc))
  cases d with
  | full => exact absurd rfl hd
  | beyond i =>
    cases e : beyAt L W f s bs i with
    | false => exact e
    | true =>
      have z := beyAt_any e
      rw [z] at h
      cases h.1
  | twice c =>
    show (cellB L W c && decide (1 < oftN f s bs c)) = false
    cases e : cellB L W c with
    | false => rfl
    | true => rw [one c e]; rfl
  | bare c =>
    show (cellB L W c && decide (oftN f s bs c = 0)) = false
    cases e : cellB L W c with
    | false => rfl
    | true => rw [one c e]; rfl
theorem isj_full {L W f s : Int} {bs : List Brick} {d : D5} (hL : 0 < L) (hW : 0 < W) (h : IsJ L W f s bs d) (hf : fullB L W f s bs = true) : d = .full := by
  have e := h.full hL hW
  rw [hf] at e
  cases d with
  | full => rfl
  | beyond _ => exact nomatch e
  | twice _ => exact nomatch e
  | bare _ => exact nomatch e
theorem isj_not {L W f s : Int} {bs : List Brick} {d : D5} (hL : 0 < L) (hW : 0 < W) (h : IsJ L W f s bs d) (hf : fullB L W f s bs = false) : d.cl ≠ .full := by
  have e := h.full hL hW
  rw [hf] at e
  exact of_decide_eq_false e
section
variable {P : Program} {w : World} {K : PySem.W.Frag} {mg : Str → Option Value} {base : Heap}
theorem H__law_changed_right (p : Pl K mg "_law_changed_right" s__law_changed_right) (B : Bi mg) (G : ClG K mg)
    (h_shows5 : ∀ x, Ok5 x → HasM P w K mg base CX0 3 x "shows" ["self", "length", "width", "first", "second", "bricks"] (SpShows5 K x)) (h_judged : Has P w K mg base CX0 3 "judged" ["length", "width", "first", "second", "bricks"] (SpJudged K))
    (h_alike : Has P w K mg base CX0 3 "alike" ["length", "width", "size", "colour"] SpAlike) (h_lying : Has P w K mg base CX0 5 "lying" ["length", "width", "first", "second"] SpLying) (h_standing : Has P w K mg base CX0 6 "standing" ["length", "width", "first", "second"] SpStanding) :
    Has P w K mg base CX0 7 "_law_changed_right" [] SpHand := by
  refine p.mk0 sc__law_changed_right (fun _ _ _ _ _ _ us hl => match us, hl with | [], _ => rfl) (fun vs H Q E h => ?_) (fun f cdv A outer s H vs Q E hr h => ?_)
  · cases h; rfl
  · obtain @⟨_, _, _, q⟩ := h
    have z1 : ∀ x : Int, 0 < x → x < 1000 → Sz x := fun x a b => sz_big a (Int.lt_trans b (by decide))
    have z2 : (0 : Int) < 2 ∧ (2 : Int) ≤ 1000 := by decide
    refine ⟨_, (pss_cons (ps_set (i := 0) sc__law_changed_right.nd rfl (Or.inl rfl) (pe_lst (pa_cons (pe_tup (pa_cons pe_int (pa_cons pe_int (pa_cons pe_bl pa_nil)))) (pa_cons (pe_tup (pa_cons pe_int (pa_cons pe_int (pa_cons pe_bl pa_nil)))) pa_nil))))
      (pss_cons (ps_set (i := 1) sc__law_changed_right.nd rfl (Or.inl rfl) (pe_fn h_judged (hr.mono (by decide)) pass0 (pa_cons pe_int (pa_cons pe_int (pa_cons pe_int (pa_cons pe_int (pa_cons (pv 0) pa_nil)))))))
      (pss_cons (ps_asg (pe_tup (pa_cons pe_int (pa_cons pe_int (pa_cons pe_bl pa_nil)))) (pg_sub (pv 0) pe_int set_list))
      (pss_cons (ps_set (i := 2) sc__law_changed_right.nd rfl (Or.inl rfl) (pe_fn h_judged (hr.mono (by decide)) pass0 (pa_cons pe_int (pa_cons pe_int (pa_cons pe_int (pa_cons pe_int (pa_cons (pv 0) pa_nil)))))))
      (pss_cons (ps_if (pt_not (pt_val (pe_callB (r := rIsi K) call_isi (by rfl) B.isinstance (by decide +kernel) (pa_cons (pv 1) (pa_cons (pe_glob (v := .ref (cl _ .full)) (by rfl) (G.g .full (by decide)) rfl) pa_nil))))) (pss_one (ps_ret pe_bl)) pss_nil)
      (pss_cons (ps_if (pt_val (pe_methA h_shows5 (fun x hx => (G.f x (ok5 hx)).c) (hr.mono (by decide)) pass0 (pv 1) (pa_cons pe_int (pa_cons pe_int (pa_cons pe_int (pa_cons pe_int (pa_cons (pv 0) pa_nil))))))) (pss_one (ps_ret pe_bl)) pss_nil)
      (pss_cons (ps_if (pt_val (pe_callB (r := rIsi K) call_isi (by rfl) B.isinstance (by decide +kernel) (pa_cons (pv 2) (pa_cons (pe_glob (v := .ref (cl _ .full)) (by rfl) (G.g .full (by decide)) rfl) pa_nil)))) (pss_one (ps_ret pe_bl)) pss_nil)
      (pss_cons (ps_if (pt_not (pt_val (pe_methA h_shows5 (fun x hx => (G.f x (ok5 hx)).c) (hr.mono (by decide)) pass0 (pv 2) (pa_cons pe_int (pa_cons pe_int (pa_cons pe_int (pa_cons pe_int (pa_cons (pv 0) pa_nil)))))))) (pss_one (ps_ret pe_bl)) pss_nil)
      (pss_cons (ps_asg (pe_tup (pa_cons pe_int (pa_cons pe_int (pa_cons pe_bl pa_nil)))) (pg_sub (pv 0) pe_int set_list))
      (pss_cons (ps_if (pt_not (pt_val (pe_callB (r := rIsi K) call_isi (by rfl) B.isinstance (by decide +kernel) (pa_cons (pe_fn h_judged (hr.mono (by decide)) pass0 (pa_cons pe_int (pa_cons pe_int (pa_cons pe_int (pa_cons pe_int (pa_cons (pv 0) pa_nil)))))) (pa_cons (pe_glob (v := .ref (cl _ .full)) (by rfl) (G.g .full (by decide)) rfl) pa_nil))))) (pss_one (ps_ret pe_bl)) pss_nil)
      (pss_cons (ps_if (pt_val (pe_methA h_shows5 (fun x hx => (G.f x (ok5 hx)).c) (hr.mono (by decide)) pass0 (pv 2) (pa_cons pe_int (pa_cons pe_int (pa_cons pe_int (pa_cons pe_int (pa_cons (pv 0) pa_nil))))))) (pss_one (ps_ret pe_bl)) pss_nil)
      (pss_cons (ps_if (pt_cmpR op_notBl (pe_methA h_shows5 (fun x hx => (G.f x (ok5 hx)).c) (hr.mono (by decide)) pass0 (pv 1) (pa_cons pe_int (pa_cons pe_int (pa_cons pe_int (pa_cons pe_int (pa_cons (pv 0) pa_nil)))))) pe_bl (nomark _)) (pss_one (ps_ret pe_bl)) pss_nil)
      (pss_cons (ps_if (pt_cmpR (r := rNeD K) (op_neD hr.units) (pe_lc (own := [("_law_colour", 3)]) (by rfl) sc__law_changed_right.nd (pi_range1 (by rfl) B.range (pa_cons pe_int pa_nil)) (blkOk_by (own := [("_law_colour", 3)]) (N := ["_law_mine", "_law_first", "_law_second", "_law_colour"]) (sc := defScope s__law_changed_right) (by decide +kernel)) (fun _ _ _ _ _ => (pg_name (i := 3) sc__law_changed_right.nd rfl (Or.inl rfl))) (fun _ _ _ _ _ => pts_nil) (fun _ _ _ _ _ => (pe_fn h_alike (hr.mono (by decide)) pass0 (pa_cons pe_int (pa_cons pe_int (pa_cons pe_int (pa_cons (pv 3) pa_nil))))))) (pe_lst (pa_cons pe_int (pa_cons pe_int (pa_cons pe_int pa_nil)))) (nomark _)) (pss_one (ps_ret pe_bl)) pss_nil)
      (pss_one (ps_ret (pe_cmpR op_eq (pe_op op_add (pe_fn h_lying (hr.mono (by decide)) pass0 (pa_cons pe_int (pa_cons pe_int (pa_cons pe_int (pa_cons pe_int pa_nil))))) (pe_fn h_standing (hr.mono (by decide)) pass0 (pa_cons pe_int (pa_cons pe_int (pa_cons pe_int (pa_cons pe_int pa_nil)))))) pe_int (nomark _))))))))))))))))), ?_⟩
    walk_at "rd"
    intro t1 ht1
    generalize hH1 : upd H t1 _ = H1
    obtain ⟨sm1, up1⟩ : Same H H1 ∧ H1 t1 = some (.tup (Brick.vs ⟨0, 0, true⟩)) := newH hH1 ht1
    clear hH1
    walk_at "rd"
    intro t2 ht2
    generalize hH2 : upd H1 t2 _ = H2
    obtain ⟨sm2, up2⟩ : Same H1 H2 ∧ H2 t2 = some (.tup (Brick.vs ⟨0, 1, true⟩)) := newH hH2 ht2
    clear hH2
    walk_at "rd"
    intro l hl
    generalize hH3 : upd H2 l _ = H3
    obtain ⟨sm3, up3⟩ : Same H2 H3 ∧ H3 l = some (.lst (refs [((t1 : Addr), (⟨0, 0, true⟩ : Brick)), (t2, ⟨0, 1, true⟩)])) := newH hH3 hl
    clear hH3
    have b1 := sm3 _ _ (sm2 _ _ up1)
    have b2 := sm3 _ _ up2
    walk_at "rd"
    refine .mk (by decide) (by decide) (by decide) (by decide) (by decide) up3 (brt_cons b1 (brt_cons b2 (fun _ z => nomatch z))) (show 2 ≤ 1000 by decide) fun p1 H4 d1 sm4 at1 ij1 => ?_
    obtain rfl := isj_full (by decide) (by decide) ij1 (show fullB 2 2 2 1 [⟨0, 0, true⟩, ⟨0, 1, true⟩] = true by decide)
    walk_at "rd"
    intro t3 ht3
    generalize hH5 : upd H4 t3 _ = H5
    obtain ⟨sm5, up5⟩ : Same H4 H5 ∧ H5 t3 = some (.tup (Brick.vs ⟨1, 0, false⟩)) := newH hH5 ht3
    clear hH5
    have s35 := sm4.trans sm5
    have el5 := s35 _ _ up3
    walk_at "rd"
    refine ⟨l, _, 1, 1, rfl, rfl, el5, rfl, ?_⟩
    generalize hH6 : upd H5 l _ = H6
    have el6 : H6 l = some (.lst (refs [((t1 : Addr), (⟨0, 0, true⟩ : Brick)), (t3, ⟨1, 0, false⟩)])) := by rw [← hH6]; exact upd_same
    have at6 : At5 K H6 p1 .full := by rw [← hH6]; exact (at1.mono sm5).upd el5
    have b16 : H6 t1 = some (.tup (Brick.vs ⟨0, 0, true⟩)) := by rw [← hH6]; exact upd_keep el5 (s35 _ _ b1) (fun _ z => nomatch z)
    have b36 : H6 t3 = some (.tup (Brick.vs ⟨1, 0, false⟩)) := by rw [← hH6]; exact upd_keep el5 up5 (fun _ z => nomatch z)
    clear hH6
    walk_at "rd"
    refine .mk (by decide) (by decide) (by decide) (by decide) (by decide) el6 (brt_cons b16 (brt_cons b36 (fun _ z => nomatch z))) (show 2 ≤ 1000 by decide) fun p2 H7 d2 sm7 at2 ij2 => ?_
    have nf := isj_not (by decide) (by decide) ij2 (show fullB 2 2 2 1 [⟨0, 0, true⟩, ⟨1, 0, false⟩] = false by decide)
    have due2 := ij2.due (by decide) (by decide)
    have at17 := at6.mono sm7
    have ha1 : AnsAt K H7 p1 .full := by
      cases at17 with
      | full h => exact h
    obtain ⟨dx1, hp1⟩ := id ha1
    have mf : Ans.full.cl ∈ Cl.has := show Cl.full ∈ Cl.has by decide
    walk_at "rd"
    refine ⟨_, _, _, _, _, rfl, .own _, tyA G ha1 mf, kitA G .full .full, true, rfl, iteF ?_⟩
    refine ⟨.full, D5.ok .full, _, rfl, p1, dx1, _, rfl, hp1, rfl, ?_⟩
    walk_at "rd"
    have br7 : BrT H7 [((t1 : Addr), (⟨0, 0, true⟩ : Brick)), (t3, ⟨1, 0, false⟩)] := brt_cons (sm7 _ _ b16) (brt_cons (sm7 _ _ b36) (fun _ z => nomatch z))
    have el7 := sm7 _ _ el6
    refine .mk at17 rfl z2 z2 (by decide) (by decide) (sqL el7) br7.all (show 2 ≤ 10000 by decide) fun H8 sm8 => ?_
    rw [show due5 2 2 2 1 (vals [((t1 : Addr), (⟨0, 0, true⟩ : Brick)), (t3, ⟨1, 0, false⟩)]) .full = false from (show fullB 2 2 2 1 [⟨0, 0, true⟩, ⟨1, 0, false⟩] = false by decide)]
    refine ⟨false, rfl, iteF ?_⟩
    have at28 := at2.mono sm8
    obtain ⟨a2, ha2, hc2⟩ := at28.ans
    walk_at "rd"
    refine ⟨_, _, _, _, _, rfl, .own _, tyA G ha2 (mem_has _), kitA G a2 .full (mem_has _), ?_⟩
    rw [hc2, decide_eq_false (fun z => nf z.symm)]
    refine ⟨false, rfl, iteF ?_⟩
    obtain ⟨dx2, fs2, hp2, lk2⟩ := at28.look
    refine ⟨d2.cl, d2.ok, _, rfl, p2, dx2, _, rfl, hp2, lk2, ?_⟩
    walk_at "rd"
    refine .mk at28 rfl z2 z2 (by decide) (by decide) (sqL (sm8 _ _ el7)) (br7.mono sm8).all (show 2 ≤ 10000 by decide) fun H9 sm9 => ?_
    rw [due2]
    refine ⟨true, rfl, iteF ?_⟩
    walk_at "rd"
    intro t4 ht4
    generalize hHa : upd H9 t4 _ = Ha
    obtain ⟨sma, upa⟩ : Same H9 Ha ∧ Ha t4 = some (.tup (Brick.vs ⟨0, 0, false⟩)) := newH hHa ht4
    clear hHa
    have s7a := sm8.trans (sm9.trans sma)
    have ela := s7a _ _ el7
    walk_at "rd"
    refine ⟨l, _, 0, 0, rfl, rfl, ela, rfl, ?_⟩
    generalize hHb : upd Ha l _ = Hb
    have elb : Hb l = some (.lst (refs [((t4 : Addr), (⟨0, 0, false⟩ : Brick)), (t3, ⟨1, 0, false⟩)])) := by rw [← hHb]; exact upd_same
    have at1b : At5 K Hb p1 .full := by rw [← hHb]; exact (at17.mono s7a).upd ela
    have at2b : At5 K Hb p2 d2 := by rw [← hHb]; exact (at28.mono (sm9.trans sma)).upd ela
    have b4b : Hb t4 = some (.tup (Brick.vs ⟨0, 0, false⟩)) := by rw [← hHb]; exact upd_keep ela upa (fun _ z => nomatch z)
    have b3b : Hb t3 = some (.tup (Brick.vs ⟨1, 0, false⟩)) := by rw [← hHb]; exact upd_keep ela (s7a _ _ (sm7 _ _ b36)) (fun _ z => nomatch z)
    clear hHb
    have brb : BrT Hb [((t4 : Addr), (⟨0, 0, false⟩ : Brick)), (t3, ⟨1, 0, false⟩)] := brt_cons b4b (brt_cons b3b (fun _ z => nomatch z))
    have fu : fullB 2 2 2 1 (vals [((t4 : Addr), (⟨0, 0, false⟩ : Brick)), (t3, ⟨1, 0, false⟩)]) = true := (show fullB 2 2 2 1 [⟨0, 0, false⟩, ⟨1, 0, false⟩] = true by decide)
    walk_at "rd"
    refine .mk (by decide) (by decide) (by decide) (by decide) (by decide) elb brb (show 2 ≤ 1000 by decide) fun p3 Hc d3 smc at3 ij3 => ?_
    obtain rfl := isj_full (by decide) (by decide) ij3 fu
    have ha3 : AnsAt K Hc p3 .full := by
      cases at3 with
      | full h => exact h
    walk_at "rd"
    refine ⟨_, _, _, _, _, rfl, .own _, tyA G ha3 mf, kitA G .full .full, true, rfl, iteF ?_⟩
    have at2c := at2b.mono smc
    obtain ⟨dx2, fs2, hp2, lk2⟩ := at2c.look
    refine ⟨d2.cl, d2.ok, _, rfl, p2, dx2, _, rfl, hp2, lk2, ?_⟩
    walk_at "rd"
    refine .mk at2c rfl z2 z2 (by decide) (by decide) (sqL (smc _ _ elb)) (brb.mono smc).all (show 2 ≤ 10000 by decide) fun Hd smd => ?_
    rw [due_notfull (by decide) (by decide) fu nf]
    refine ⟨false, rfl, iteF ?_⟩
    have sbd := smc.trans smd
    have at1d := at1b.mono sbd
    obtain ⟨dx1, fs1, hp1, lk1⟩ := at1d.look
    refine ⟨.full, D5.ok .full, _, rfl, p1, dx1, _, rfl, hp1, lk1, ?_⟩
    walk_at "rd"
    refine .mk at1d rfl z2 z2 (by decide) (by decide) (sqL (sbd _ _ elb)) (brb.mono sbd).all (show 2 ≤ 10000 by decide) fun He sme => ?_
    rw [show due5 2 2 2 1 (vals [((t4 : Addr), (⟨0, 0, false⟩ : Brick)), (t3, ⟨1, 0, false⟩)]) .full = true from fu]
    walk_at "rd"
    intro D hD
    refine lc_range (lo := 0) (n := 3) (fun j H' => Same He H' ∧ H' D = some (.lst (((List.range j).map fun i : Nat => alikeI 4 5 3 (i : Int)).map V.int))) ⟨same_upd hD, upd_same⟩ ?_ ?_
    · rintro j Hf hj ⟨smf, eD⟩
      have e0 : (0 : Int) + (j : Int) = j := by omega
      refine ⟨rfl, lc_yes ?_⟩
      walk_at "rd"
      refine .mk (z1 _ (by decide) (by decide)) (z1 _ (by decide) (by decide)) (z1 _ (by decide) (by decide)) (by omega) (by omega) fun Hg smg => ?_
      refine ⟨_, smg _ _ eD, ?_, same_mut2 (smf.trans smg) hD, ?_⟩
      · rw [List.length_map, List.length_map, List.length_range]
        exact Nat.lt_trans hj (by decide)
      · rw [upd_same, List.range_succ, List.map_append, List.map_append, e0]
        rfl
    rintro Hf ⟨smf, eD⟩
    walk_at "rd"
    intro l5 hl5
    generalize hHg : upd Hf l5 _ = Hg
    obtain ⟨smg, upg⟩ : Same Hf Hg ∧ Hg l5 = some (.lst (([7, 7, 6] : List Int).map V.int)) := newH hHg hl5
    clear hHg
    refine ⟨_, _, .lst (sqL (smg _ _ eD)) (dp_ints _), .lst (sqL upg) (dp_ints _), rfl, rfl, false, rfl, iteF ?_⟩
    walk_at "rd"
    have e1 : lieP 4 6 2 3 = 4 := by
      unfold lieP
      rw [if_neg (by decide), plan_lie (by decide) (by decide)]
      rfl
    refine .mk (z1 _ (by decide) (by decide)) (z1 _ (by decide) (by decide)) (z1 _ (by decide) (by decide)) (z1 _ (by decide) (by decide)) free_4623 fun Hh smh => ?_
    rw [e1]
    walk_at "rd"
    refine .mk (z1 _ (by decide) (by decide)) (z1 _ (by decide) (by decide)) (z1 _ (by decide) (by decide)) (z1 _ (by decide) (by decide)) free_4623 fun Hi smi => ?_
    rw [e1]
    walk_at "rd"
    exact q _
end
end BF

/-! ### k08: great floors -/
namespace BF
open PySem PySem.Spec PyProof.Rows L2
theorem tell_free {L W f s : Int} (h : Free L W f s) : tellA L W f s = .laid := by
  unfold tellA
  rw [h.1, h.2]
theorem parts_far {x : Int} (h : 1000 < x) : parts x 2 3 = some (x % 3 * 2 % 3, (x - 2 * (x % 3 * 2 % 3)) / 3) := by
  refine parts_eq (by decide) ⟨⟨?_, ?_, ?_⟩, fun m n r => ?_⟩
  · show 0 ≤ x % 3 * 2 % 3
    omega
  · show 0 ≤ (x - 2 * (x % 3 * 2 % 3)) / 3
    omega
  · show x % 3 * 2 % 3 * 2 + (x - 2 * (x % 3 * 2 % 3)) / 3 * 3 = x
    omega
  · obtain ⟨h1, h2, h3⟩ := r
    show x % 3 * 2 % 3 ≤ m
    omega
theorem parts_seven {g : Int} (h : 1000 < g) : parts (g * 7) g (g + 1) = some (7, 0) := by
  refine parts_eq (by omega) ⟨⟨by decide, by decide, ?_⟩, fun m n r => ?_⟩
  · show 7 * g + 0 * (g + 1) = g * 7
    omega
  · obtain ⟨h1, h2, h3⟩ := r
    show 7 ≤ m
    -- (m + n) * g + n = 7 * g
    have e : (m + n) * g + n = 7 * g := by rw [Int.mul_add, Int.mul_one] at h3; rw [Int.add_mul]; omega
    rcases Int.lt_or_le m 7 with hm | hm
    · exfalso
      have a1 : m + n ≤ 7 := by
        rcases Int.lt_or_le 7 (m + n) with z | z
        · have : 8 * g ≤ (m + n) * g := Int.mul_le_mul_of_nonneg_right (by omega) (by omega)
          omega
        · exact z
      have a2 : n ≤ 7 := by omega
      rcases Int.lt_or_le (m + n) 7 with z | z
      · have : (m + n) * g ≤ 6 * g := Int.mul_le_mul_of_nonneg_right (by omega) (by omega)
        omega
      · have z7 : m + n = 7 := by omega
        rw [z7] at e
        omega
    · exact hm
theorem parts_gg {g : Int} (h : 1000 < g) : parts (g * g - g - 1) g (g + 1) = none := by
  have e : g * g - g - 1 = g * (g + 1) - g - (g + 1) := by rw [Int.mul_add, Int.mul_one]; omega
  rw [e]
  exact parts_frob (by omega) (by omega) ⟨-1, 1, by omega⟩
theorem alike_a {g : Int} (h : 1000 < g) : alikeI g 1 g 0 = 1 := by
  unfold alikeI
  rw [Int.ediv_self (by omega), Int.emod_self, Int.emod_eq_of_lt (by decide) (by omega)]
  unfold pairsI
  omega
theorem alike_b {g : Int} (h : 1000 < g) : alikeI g g 1 0 = g * g := by
  unfold alikeI
  rw [Int.ediv_one, Int.emod_one]
  unfold pairsI
  omega
theorem alike_c {g : Int} (h : 1000 < g) : alikeI 2 2 g 2 = 1 := by
  unfold alikeI
  rw [Int.ediv_eq_zero_of_lt (by decide) (by omega), Int.emod_eq_of_lt (by decide) (by omega)]
  unfold pairsI
  omega
theorem alike_d {g : Int} (h : 1000 < g) : alikeI 3 3 g 5 = 0 := by
  unfold alikeI
  rw [Int.ediv_eq_zero_of_lt (by decide) (by omega), Int.emod_eq_of_lt (by decide) (by omega)]
  unfold pairsI
  omega
inductive SpGreat8 : Sp where
  | mk {m : Int} {H : Hp} {Q : VK} {E : XK} (h0 : 0 ≤ m) (h1 : m < 10 ^ 6) (q : ∀ H', Q (.bl true) H') : SpGreat8 [.int m] H Q E
section
variable {P : Program} {w : World} {K : PySem.W.Frag} {mg : Str → Option Value} {base : Heap}
theorem H__law_great_right (p : Pl K mg "_law_great_right" s__law_great_right) (B : Bi mg) (G : ClG K mg) (h_told : Has P w K mg base CX0 4 "told" ["length", "width", "first", "second"] (SpTold K))
    (h_shows4 : ∀ x, Ok4 x → HasM P w K mg base CX0 4 x "shows" ["self", "length", "width", "first", "second"] (SpShows4 K x)) (h_sum_of : Has P w K mg base CX0 3 "sum_of" ["size", "first", "second"] SpParts)
    (h_alike : Has P w K mg base CX0 3 "alike" ["length", "width", "size", "colour"] SpAlike) (h_brick_on : Has P w K mg base CX0 5 "brick_on" ["length", "width", "first", "second", "cell"] SpBrickOn)
    (h_lying : Has P w K mg base CX0 5 "lying" ["length", "width", "first", "second"] SpLying) (h_standing : Has P w K mg base CX0 6 "standing" ["length", "width", "first", "second"] SpStanding) :
    Has P w K mg base CX0 7 "_law_great_right" ["_law_more"] SpGreat8 := by
  refine p.mk0 sc__law_great_right (fun _ _ _ _ _ _ us hl => match us, hl with | [_], _ => rfl) (fun vs H Q E h => ?_) (fun f cdv A outer s H vs Q E hr h => ?_)
  · cases h; rfl
  · obtain @⟨m, _, _, _, h0, h1, q⟩ := h
    have z1 : ∀ x : Int, 0 < x → x < 1000 → Sz x := fun x a b => sz_big a (Int.lt_trans b (by decide))
    have Bm : Bn 200 m := bn_of_lt (by omega) (by omega)
    have B50 : Bn 200 ((10 : Int) ^ 50) := bn_of_lt (by decide) (by decide)
    have B50m : Bn 200 ((10 : Int) ^ Int.toNat 50 + m) := (show Bn 200 ((10 : Int) ^ 50 + m) from bn_of_lt (by omega) (by omega))
    refine ⟨_, (pss_cons (ps_par (i := 1) (j := 2) (by rfl) sc__law_great_right.nd rfl rfl (by decide) rfl rfl (pa_cons (pe_op op_add (pe_op op_pow pe_int pe_int) (pv 0)) (pa_cons (pe_op op_mulX pe_int (pe_op op_add (pe_op op_pow pe_int pe_int) (pv 0))) pa_nil)) (by rfl))
      (pss_cons (ps_if (pt_not (pt_val (pe_callB (r := rIsi K) call_isi (by rfl) B.isinstance (by decide +kernel) (pa_cons (pe_fn h_told (hr.mono (by decide)) pass0 (pa_cons (pv 2) (pa_cons (pe_op op_mulX pe_int (pv 1)) (pa_cons pe_int (pa_cons pe_int pa_nil))))) (pa_cons (pe_glob (v := .ref (cl _ .laid)) (by rfl) (G.g .laid (by decide)) rfl) pa_nil))))) (pss_one (ps_ret pe_bl)) pss_nil)
      (pss_cons (ps_if (pt_cmpR op_ne (pe_op op_add (pe_fn h_lying (hr.mono (by decide)) pass0 (pa_cons (pv 2) (pa_cons pe_int (pa_cons pe_int (pa_cons pe_int pa_nil))))) (pe_fn h_standing (hr.mono (by decide)) pass0 (pa_cons (pv 2) (pa_cons pe_int (pa_cons pe_int (pa_cons pe_int pa_nil)))))) (pe_op op_fdivW (pv 2) pe_int) (nomark _)) (pss_one (ps_ret pe_bl)) pss_nil)
      (pss_cons (ps_set (i := 3) sc__law_great_right.nd rfl (Or.inl rfl) (pe_fn h_told (hr.mono (by decide)) pass0 (pa_cons (pe_op op_add (pv 2) pe_int) (pa_cons pe_int (pa_cons pe_int (pa_cons pe_int pa_nil))))))
      (pss_cons (ps_if (PW.pt (pw_or (PW.pt (pw_and (pt_not (pt_val (pe_callB (r := rIsi K) call_isi (by rfl) B.isinstance (by decide +kernel) (pa_cons (pv 3) (pa_cons (pe_glob (v := .ref (cl _ .striped)) (by rfl) (G.g .striped (by decide)) rfl) pa_nil))))) (pw_and1 (pt_not (pt_val (pe_callB (r := rIsi K) call_isi (by rfl) B.isinstance (by decide +kernel) (pa_cons (pv 3) (pa_cons (pe_glob (v := .ref (cl _ .short)) (by rfl) (G.g .short (by decide)) rfl) pa_nil)))))))) (pw_or1 (pt_cmpR op_notBl (pe_methA h_shows4 (fun x hx => (G.f x (ok4 hx)).c) (hr.mono (by decide)) pass0 (pv 3) (pa_cons (pe_op op_add (pv 2) pe_int) (pa_cons pe_int (pa_cons pe_int (pa_cons pe_int pa_nil))))) pe_bl (nomark _))))) (pss_one (ps_ret pe_bl)) pss_nil)
      (pss_cons (ps_if (pt_cmpR (r := rNeD K) (op_neD hr.units) (pe_fn h_sum_of (hr.mono (by decide)) pass0 (pa_cons (pv 2) (pa_cons pe_int (pa_cons pe_int pa_nil)))) (pe_tup (pa_cons (pe_op op_mod (pe_op op_mulX (pe_op op_mod (pv 2) pe_int) pe_int) pe_int) (pa_cons (pe_op op_fdivW (pe_op op_sub (pv 2) (pe_op op_mulX pe_int (pe_op op_mod (pe_op op_mulX (pe_op op_mod (pv 2) pe_int) pe_int) pe_int))) pe_int) pa_nil))) (nomark _)) (pss_one (ps_ret pe_bl)) pss_nil)
      (pss_cons (ps_if (pt_cmpR op_notN (pe_fn h_sum_of (hr.mono (by decide)) pass0 (pa_cons pe_int (pa_cons pe_int (pa_cons pe_int pa_nil)))) pe_non (nomark _)) (pss_one (ps_ret pe_bl)) pss_nil)
      (pss_cons (ps_if (pt_cmpR op_notN (pe_fn h_sum_of (hr.mono (by decide)) pass0 (pa_cons (pe_op op_sub (pe_op op_sub (pe_op op_mulX (pv 1) (pv 1)) (pv 1)) pe_int) (pa_cons (pv 1) (pa_cons (pe_op op_add (pv 1) pe_int) pa_nil)))) pe_non (nomark _)) (pss_one (ps_ret pe_bl)) pss_nil)
      (pss_cons (ps_if (pt_cmpR (r := rNeD K) (op_neD hr.units) (pe_fn h_sum_of (hr.mono (by decide)) pass0 (pa_cons (pe_op op_mulX (pv 1) pe_int) (pa_cons (pv 1) (pa_cons (pe_op op_add (pv 1) pe_int) pa_nil)))) (pe_tup (pa_cons pe_int (pa_cons pe_int pa_nil))) (nomark _)) (pss_one (ps_ret pe_bl)) pss_nil)
      (pss_cons (ps_if (pt_cmpR op_ne (pe_fn h_alike (hr.mono (by decide)) pass0 (pa_cons (pv 1) (pa_cons pe_int (pa_cons (pv 1) (pa_cons pe_int pa_nil))))) pe_int (nomark _)) (pss_one (ps_ret pe_bl)) pss_nil)
      (pss_cons (ps_if (pt_cmpR op_ne (pe_fn h_alike (hr.mono (by decide)) pass0 (pa_cons (pv 1) (pa_cons (pv 1) (pa_cons pe_int (pa_cons pe_int pa_nil))))) (pe_op op_mulX (pv 1) (pv 1)) (nomark _)) (pss_one (ps_ret pe_bl)) pss_nil)
      (pss_cons (ps_if (pt_cmpR op_ne (pe_fn h_alike (hr.mono (by decide)) pass0 (pa_cons pe_int (pa_cons pe_int (pa_cons (pv 1) (pa_cons pe_int pa_nil))))) pe_int (nomark _)) (pss_one (ps_ret pe_bl)) pss_nil)
      (pss_cons (ps_if (pt_cmpR op_ne (pe_fn h_alike (hr.mono (by decide)) pass0 (pa_cons pe_int (pa_cons pe_int (pa_cons (pv 1) (pa_cons pe_int pa_nil))))) pe_int (nomark _)) (pss_one (ps_ret pe_bl)) pss_nil)
      (pss_cons (ps_asg (pe_fn h_brick_on (hr.mono (by decide)) pass0 (pa_cons (pv 2) (pa_cons pe_int (pa_cons pe_int (pa_cons pe_int (pa_cons (pe_tup (pa_cons (pe_op op_sub (pv 2) pe_int) (pa_cons pe_int pa_nil))) pa_nil)))))) (pg_tup (by rfl) (pgs_cons (pg_name (i := 4) sc__law_great_right.nd rfl (Or.inl rfl)) (pgs_cons (pg_name (i := 5) sc__law_great_right.nd rfl (Or.inl rfl)) pgs_nil))))
      (pss_cons (ps_asg (pe_ifExp (pt_val (pv 5)) (pe_tup (pa_cons pe_int (pa_cons pe_int pa_nil))) (pe_tup (pa_cons pe_int (pa_cons pe_int pa_nil)))) (pg_tup (by rfl) (pgs_cons (pg_name (i := 6) sc__law_great_right.nd rfl (Or.inl rfl)) (pgs_cons (pg_name (i := 7) sc__law_great_right.nd rfl (Or.inl rfl)) pgs_nil))))
      (pss_cons (ps_if (pt_not (pt_chain op_le op_lt (pe_ix (r := rIxT K) ix_tup (pv 4) pe_int (fun _ _ => rfl)) (pe_op op_sub (pv 2) pe_int) (pe_op op_add (pe_ix (r := rIxT K) ix_tup (pv 4) pe_int (fun _ _ => rfl)) (pv 6)))) (pss_one (ps_ret pe_bl)) pss_nil)
      (pss_cons (ps_if (pt_not (pt_chain op_le op_lt (pe_ix (r := rIxT K) ix_tup (pv 4) pe_int (fun _ _ => rfl)) pe_int (pe_op op_add (pe_ix (r := rIxT K) ix_tup (pv 4) pe_int (fun _ _ => rfl)) (pv 7)))) (pss_one (ps_ret pe_bl)) pss_nil)
      (pss_one (ps_ret (pe_callB (r := rIsi K) call_isi (by rfl) B.isinstance (by decide +kernel) (pa_cons (pv 5) (pa_cons (pe_bltn (v := .ty "bool") (by rfl) B.bool (by decide +kernel) rfl) pa_nil)))))))))))))))))))))), ?_⟩
    walk_at "rd"
    dsimp only
    generalize hg : (10 : Int) ^ Int.toNat 50 + m = g at B50m ⊢
    have hg : (10 : Int) ^ 50 + m = g := hg
    have g0 : 10 ^ 50 ≤ g := by omega
    have g2 : g < 10 ^ 51 := by omega
    clear hg B50 Bm
    have gk : 1000 < g := by omega
    have Sg : Sz g := ⟨by omega, B50m.mono (by decide)⟩
    have Sg1 : Sz (g + 1) := ⟨by omega, (bn_of_lt (by omega) (by omega)).mono (by decide)⟩
    have Sf : Sz (2 * g) := ⟨by omega, (bn_of_lt (by omega) (by omega)).mono (by decide)⟩
    have Sf1 : Sz (2 * g + 1) := ⟨by omega, (bn_of_lt (by omega) (by omega)).mono (by decide)⟩
    have S3 : Sz (3 * g) := ⟨by omega, (bn_of_lt (by omega) (by omega)).mono (by decide)⟩
    have S7 : Sz (g * 7) := ⟨by omega, (bn_of_lt (by omega) (by omega)).mono (by decide)⟩
    have ggp : 1000 * g ≤ g * g := Int.mul_le_mul_of_nonneg_right (by omega) (by omega)
    have Sgg : Sz (g * g - g - 1) := ⟨by omega, ((B50m.mul B50m).of_le (x := g * g - g - 1) (by omega) (by omega)).mono (by decide)⟩
    have k2 : Sz 2 := z1 _ (by decide) (by decide)
    have k3 : Sz 3 := z1 _ (by decide) (by decide)
    have k1 : Sz 1 := z1 _ (by decide) (by decide)
    have f1 : Free (2 * g) (3 * g) 2 3 := free_of (m := g) (n := 0) (u := 0) (v := g) (by decide) (by decide) (.inl (by omega)) (.inr (by omega)) ⟨by omega, by omega, by omega⟩ ⟨by omega, by omega, by omega⟩
    have f2 : Free (2 * g) 3 2 3 := free_of (m := g) (n := 0) (u := 0) (v := 1) (by decide) (by decide) (.inl (by omega)) (.inr (by decide)) ⟨by omega, by omega, by omega⟩ ⟨by decide, by decide, by decide⟩
    walk_at "rd"
    refine .mk Sf S3 k2 k3 fun p1 H1 sm1 ha1 => ?_
    rw [tell_free f1] at ha1
    walk_at "rd"
    refine ⟨_, _, _, _, _, rfl, .own _, tyA G ha1, kitA G .laid .laid, true, rfl, iteF ?_⟩
    have e1 : lieP (2 * g) 3 2 3 = g := by
      unfold lieP
      rw [if_neg (by decide), plan_lie (by omega) (by decide)]
      show 2 * g * 3 / (2 * 3) = g
      omega
    have e1b : 2 * g * 3 / (2 * 3) - lieP (2 * g) 3 2 3 = 0 := by rw [e1]; omega
    walk_at "rd"
    refine .mk Sf k3 k2 k3 f2 fun H2 sm2 => ?_
    rw [e1]
    walk_at "rd"
    refine .mk Sf k3 k2 k3 f2 fun H3 sm3 => ?_
    rw [e1b]
    walk_at "rd"
    refine iteNe (fun z => absurd (show g + 0 = 2 * g / 2 by omega) z) (fun _ => ?_)
    walk_at "rd"
    have st : strB (2 * g + 1) 3 2 = true := by
      unfold strB
      rw [decide_eq_false (by omega), decide_eq_false (by decide)]
      rfl
    refine .mk Sf1 k3 k2 k2 fun p4 H4 sm4 ha4 => ?_
    have et : tellA (2 * g + 1) 3 2 2 = .striped (.int 0) := by
      unfold tellA strL
      rw [st]
      rfl
    rw [et] at ha4
    obtain ⟨dx4, hp4⟩ := id ha4
    walk_at "rd"
    refine ⟨_, _, _, _, _, rfl, .own _, tyA G ha4, kitA G (.striped (.int 0)) .striped, true, rfl, iteF ?_⟩
    refine iteF ?_
    refine ⟨.striped, ok_4 (.striped 0), _, rfl, p4, dx4, _, rfl, hp4, rfl, ?_⟩
    walk_at "rd"
    refine .mk ha4 rfl (.striped 0) Sf1 k3 k2 k2 fun H5 sm5 => ?_
    rw [show due4 (2 * g + 1) 3 2 2 (.striped (.int 0)) = true from st]
    walk_at "rd"
    refine .mk Sf k2 k3 ?_
    rw [parts_far (by omega)]
    intro p6 H6 sm6 hn6 hp6
    walk_at "rd"
    intro t7 ht7
    generalize hH7 : upd H6 t7 _ = H7
    obtain ⟨sm7, up7⟩ : Same H6 H7 ∧ H7 t7 = some (.tup [.int (2 * g % 3 * 2 % 3), .int ((2 * g - 2 * (2 * g % 3 * 2 % 3)) / 3)]) := newH hH7 ht7
    clear hH7
    refine ⟨.tuple [.int (2 * g % 3 * 2 % 3), .int ((2 * g - 2 * (2 * g % 3 * 2 % 3)) / 3)], .tuple [.int (2 * g % 3 * 2 % 3), .int ((2 * g - 2 * (2 * g % 3 * 2 % 3)) / 3)], .tup (sqT (sm7 _ _ hp6)) (.cons (.int _) (.cons (.int _) .nil)), .tup (sqT up7) (.cons (.int _) (.cons (.int _) .nil)), rfl, rfl, ?_⟩
    rw [SeqAt.eqv_refl _ rfl]
    refine ⟨false, rfl, iteF ?_⟩
    walk_at "rd"
    refine .mk k1 k2 k3 ?_
    rw [show parts 1 2 3 = none from parts_eq (by decide) fun m n ⟨h1, h2, h3⟩ => by omega]
    intro H8 sm8
    walk_at "rd"
    refine .mk Sgg Sg Sg1 ?_
    rw [parts_gg gk]
    intro H9 sm9
    walk_at "rd"
    refine .mk S7 Sg Sg1 ?_
    rw [parts_seven gk]
    intro pa Ha sma hna hpa
    walk_at "rd"
    intro tb htb
    generalize hHb : upd Ha tb _ = Hb
    obtain ⟨smb, upb⟩ : Same Ha Hb ∧ Hb tb = some (.tup [.int 7, .int 0]) := newH hHb htb
    clear hHb
    refine ⟨.tuple [.int 7, .int 0], .tuple [.int 7, .int 0], .tup (sqT (smb _ _ hpa)) (.cons (.int _) (.cons (.int _) .nil)), .tup (sqT upb) (.cons (.int _) (.cons (.int _) .nil)), rfl, rfl, false, rfl, iteF ?_⟩
    walk_at "rd"
    refine .mk Sg k1 Sg (by omega) (by omega) fun Hc smc => ?_
    rw [alike_a gk]
    walk_at "rd"
    refine .mk Sg Sg k1 (by omega) (by omega) fun Hd smd => ?_
    rw [alike_b gk]
    walk_at "rd"
    refine iteNe (fun z => absurd rfl z) (fun _ => ?_)
    walk_at "rd"
    refine .mk k2 k2 Sg (by omega) (by omega) fun He sme => ?_
    rw [alike_c gk]
    walk_at "rd"
    refine .mk k3 k3 Sg (by omega) (by omega) fun Hf smf => ?_
    rw [alike_d gk]
    walk_at "rd"
    intro tg htg
    generalize hHg : upd Hf tg _ = Hg
    obtain ⟨smg, upg⟩ : Same Hf Hg ∧ Hg tg = some (.tup (cellV (2 * g - 1, 2))) := newH hHg htg
    clear hHg
    have hc : cellB (2 * g) 3 (2 * g - 1, 2) = true := by
      unfold cellB
      simp only [Bool.and_eq_true, decide_eq_true_eq]
      omega
    have br : brickP (2 * g) 3 2 3 (2 * g - 1, 2) = ⟨2 * g - 2, 0, true⟩ := by
      rw [brick_lie (by omega) (by decide) hc]
      have e : (2 * g - 1) / 2 * 2 = 2 * g - 2 := by omega
      show (⟨(2 * g - 1) / 2 * 2, 2 / 3 * 3, true⟩ : Brick) = _
      rw [e]
      rfl
    walk_at "rd"
    refine .mk Sf k3 k2 k3 f2 upg hc fun ph pi Hh smh hph hpi => ?_
    rw [br] at hph hpi
    refine ⟨ph, _, rfl, sqT hph, rfl, ?_⟩
    walk_at "rd"
    intro tj htj
    generalize hHj : upd Hh tj _ = Hj
    obtain ⟨smj, upj⟩ : Same Hh Hj ∧ Hj tj = some (.tup [.int 2, .int 3]) := newH hHj htj
    clear hHj
    refine ⟨tj, _, rfl, sqT upj, rfl, ?_⟩
    walk_at "rd"
    have epi := smj _ _ hpi
    refine ⟨pi, _, 0, _, rfl, rfl, sqT epi, rfl, ?_⟩
    walk_at "rd"
    refine iteP (show 2 * g - 2 ≤ 2 * g - 1 by omega) ?_
    walk_at "rd"
    refine ⟨pi, _, 0, _, rfl, rfl, sqT epi, rfl, ?_⟩
    walk_at "rd"
    refine iteNP (show 2 * g - 1 < 2 * g - 2 + 2 by omega) ?_
    walk_at "rd"
    refine ⟨pi, _, 1, _, rfl, rfl, sqT epi, rfl, ?_⟩
    walk_at "rd"
    refine ⟨pi, _, 1, _, rfl, rfl, sqT epi, rfl, ?_⟩
    walk_at "rd"
    exact ⟨_, _, _, _, true, rfl, .ty "bool", .base (.bl _), kit_ty (by decide +kernel), q _⟩
end
end BF

/-! ### the law k08 -/
namespace BF
open PySem PySem.Spec PyProof.Rows L2 LamX
inductive SpLaw8 (K : PySem.W.Frag) : Sp where
  | mk {a : Addr} {ns : List Int} {H : Hp} {Q : VK} {E : XK} (hl : ns.length ≤ 63) (hb : ∀ z ∈ ns, Builtin.Int.intBits z ≤ 1048576) (hS : SqL K H a (ns.map V.int)) (hT : Tabs (tabs K) H) (q : ∀ H', Q (.bl true) H') : SpLaw8 K [.ref a] H Q E
section
variable {P : Program} {w : World} {K : PySem.W.Frag} {mg : Str → Option Value} {base : Heap}
theorem H_law (p : Pl K mg "law" s_law) (B : Bi mg) (h__law_bad_right : Has P w K mg base CX0 9 "_law_bad_right" ["_law_more"] (SpBad K)) (h__law_great_right : Has P w K mg base CX0 7 "_law_great_right" ["_law_more"] SpGreat8)
    (h__law_hand_right : Has P w K mg base CX0 8 "_law_hand_right" [] SpHand) : Has P w K mg base CX0 10 "law" ["_law_script"] (SpLaw8 K) := by
  refine p.mk0 sc_law (fun _ _ _ _ _ _ us hl => match us, hl with | [_], _ => rfl) (fun vs H Q E h => ?_) (fun f cdv A outer s H vs Q E hr h => ?_)
  · cases h; rfl
  · obtain @⟨a, ns, _, _, _, hl, hbits, hS, hT, q⟩ := h
    refine ⟨_, (pss_cons (ps_set (i := 1) sc_law.nd rfl (Or.inl rfl) (pe_op op_mod (pe_callB call_abs (by rfl) B.abs (by decide +kernel) (pa_cons (pe_callB (cr_sum rfl) (by rfl) B.sum (by decide +kernel) (pa_cons (pe_slice (r := rSlL K) sl_list (pv 0) po_none (po_some pe_int)) pa_nil)) pa_nil)) (pe_op op_pow pe_int pe_int)))
      (pss_one (ps_ret (pe_and (pe_fn h__law_bad_right (hr.mono (by decide)) pass0 (pa_cons (pv 1) pa_nil)) (pe_and (pe_fn h__law_great_right (hr.mono (by decide)) pass0 (pa_cons (pv 1) pa_nil)) (pe_one (pe_fn0 h__law_hand_right (hr.mono (by decide)) pass0))))))), ?_⟩
    obtain ⟨ms, ems⟩ := cut_ints ns none (some 63)
    refine ⟨_, rfl, 63, rfl, a, _, rfl, hS, fun p1 hp1 => ⟨p1, ms, rfl, sqL (by rw [← ems]; exact upd_same), ?_⟩⟩
    have sm1 : Same H (upd H p1 (.lst (cutV (ns.map V.int) none (some 63)))) := same_upd hp1
    generalize upd H p1 (.lst (cutV (ns.map V.int) none (some 63))) = H1 at sm1 ⊢
    generalize hwh : ms.sum = wh
    walk_at "rd"
    have t2 : (10 : Int) ^ Int.toNat 6 = 1000000 := by decide
    generalize hm : (if wh < 0 then -wh else wh) = m
    have m0 : 0 ≤ m := by
      rw [← hm]
      split <;> omega
    have c0 : 0 ≤ m % 10 ^ Int.toNat 6 ∧ m % 10 ^ Int.toNat 6 < 1000000 := by rw [t2]; omega
    show SpBad K [.int (m % 10 ^ Int.toNat 6)] H1 _ _
    refine .mk c0.1 c0.2 (hT.ext sm1) fun H2 => ⟨true, rfl, ?_⟩
    walk_at "rd"
    refine .mk c0.1 c0.2 fun H3 => ⟨true, rfl, ?_⟩
    exact .mk q
end
end BF

/-! ### what the top leaves of the classes -/
namespace BF
open PySem PySem.Spec PyProof.Rows L2
def Cl.one : Cl → Bool
  | .striped => true
  | .short => true
  | .beyond => true
  | .twice => true
  | .bare => true
  | _ => false
def Cl.zero : Cl → Bool
  | .laid => true
  | .full => true
  | _ => false
def shB (K : PySem.W.Frag) (x : Cl) : Bool := x == .answer || (He.Fa.meth x.nm "shows").ok K
def oneB (K : PySem.W.Frag) (x : Cl) : Bool := !x.one || ((He.Fa.mkr x.nm).ok K && (He.Fa.meth x.nm "__init__").ok K)
def zeroB (K : PySem.W.Frag) (x : Cl) : Bool := !x.zero || decide (PySem.W.findIn K (.ref (cl K x)) "__init__" = some (some (.builtin "object.__init__")))
def exB (K : PySem.W.Frag) : Bool := Cl.has.all (clB K) && ((Cl.has.all fun x => shB K x && (oneB K x && zeroB K x)) && (ersB K && decide ((cB K).2 ≠ (cS K).2)))
section
variable {K : PySem.W.Frag} {x : Cl}
theorem exB_cl (c : exB K = true) : Cl.has.all (clB K) = true := (He.ba c).1
theorem exB_all (c : exB K = true) (hx : x ∈ Cl.has) : shB K x = true ∧ oneB K x = true ∧ zeroB K x = true := by
  have a := List.all_eq_true.mp (He.ba (He.ba c).2).1 x hx
  exact ⟨(He.ba a).1, (He.ba (He.ba a).2).1, (He.ba (He.ba a).2).2⟩
theorem exB_shows (c : exB K = true) (hx : x ∈ Cl.has) (hn : (x == .answer) = false) : Meth K (cl K x) "shows" (He.ma K (cl K x) "shows") := by
  have a := (exB_all c hx).1
  unfold shB at a
  rw [hn] at a
  exact He.meth_ok a
theorem exB_one (c : exB K = true) (hx : x ∈ Cl.has) (h1 : x.one = true) : Mk K (cl K x) (He.ma K (cl K x) "__init__") ∧ Meth K (cl K x) "__init__" (He.ma K (cl K x) "__init__") := by
  have a := (exB_all c hx).2.1
  unfold oneB at a
  rw [h1] at a
  exact ⟨He.mkr_ok (He.ba a).1, He.meth_ok (He.ba a).2⟩
theorem exB_zero (c : exB K = true) (hx : x ∈ Cl.has) (h1 : x.zero = true) : PySem.W.findIn K (.ref (cl K x)) "__init__" = some (some (.builtin "object.__init__")) := by
  have a := (exB_all c hx).2.2
  unfold zeroB at a
  rw [h1] at a
  exact of_decide_eq_true a
end
end BF

namespace BF
open PySem PySem.Spec PyProof.Rows L2
/-! ### what the top leaves: each def by name -/
def d_is_number : He.DefD := ⟨("is_number", none), "is_number", "is_number", defArgs s_is_number, defBody s_is_number, defScope s_is_number, [], []⟩
def d_check_sizes : He.DefD := ⟨("check_sizes", none), "check_sizes", "check_sizes", defArgs s_check_sizes, defBody s_check_sizes, defScope s_check_sizes, [], []⟩
def d_shared : He.DefD := ⟨("shared", none), "shared", "shared", defArgs s_shared, defBody s_shared, defScope s_shared, [], []⟩
def d_parts_of : He.DefD := ⟨("parts_of", none), "parts_of", "parts_of", defArgs s_parts_of, defBody s_parts_of, defScope s_parts_of, [], []⟩
def d_sum_of : He.DefD := ⟨("sum_of", none), "sum_of", "sum_of", defArgs s_sum_of, defBody s_sum_of, defScope s_sum_of, [], []⟩
def d_is_striped : He.DefD := ⟨("is_striped", none), "is_striped", "is_striped", defArgs s_is_striped, defBody s_is_striped, defScope s_is_striped, [], []⟩
def d_what_bars : He.DefD := ⟨("what_bars", none), "what_bars", "what_bars", defArgs s_what_bars, defBody s_what_bars, defScope s_what_bars, [], []⟩
def d_Laid_shows : He.DefD := ⟨("Laid", some "shows"), "shows", "Laid.shows", defArgs s_Laid_shows, defBody s_Laid_shows, defScope s_Laid_shows, [], []⟩
def d_Striped___init__ : He.DefD := ⟨("Striped", some "__init__"), "__init__", "Striped.__init__", defArgs s_Striped___init__, defBody s_Striped___init__, defScope s_Striped___init__, [], []⟩
def d_Striped_shows : He.DefD := ⟨("Striped", some "shows"), "shows", "Striped.shows", defArgs s_Striped_shows, defBody s_Striped_shows, defScope s_Striped_shows, [], []⟩
def d_Short___init__ : He.DefD := ⟨("Short", some "__init__"), "__init__", "Short.__init__", defArgs s_Short___init__, defBody s_Short___init__, defScope s_Short___init__, [], []⟩
def d_Short_shows : He.DefD := ⟨("Short", some "shows"), "shows", "Short.shows", defArgs s_Short_shows, defBody s_Short_shows, defScope s_Short_shows, [], []⟩
def d_cells_of : He.DefD := ⟨("cells_of", none), "cells_of", "cells_of", defArgs s_cells_of, defBody s_cells_of, defScope s_cells_of, [], []⟩
def d_is_beyond : He.DefD := ⟨("is_beyond", none), "is_beyond", "is_beyond", defArgs s_is_beyond, defBody s_is_beyond, defScope s_is_beyond, [], []⟩
def d_covers : He.DefD := ⟨("covers", none), "covers", "covers", defArgs s_covers, defBody s_covers, defScope s_covers, [], []⟩
def d_is_cell : He.DefD := ⟨("is_cell", none), "is_cell", "is_cell", defArgs s_is_cell, defBody s_is_cell, defScope s_is_cell, [], []⟩
def d_often : He.DefD := ⟨("often", none), "often", "often", defArgs s_often, defBody s_often, defScope s_often, [], []⟩
def d_Full_shows : He.DefD := ⟨("Full", some "shows"), "shows", "Full.shows", defArgs s_Full_shows, defBody s_Full_shows, defScope s_Full_shows, [], []⟩
def d_Beyond___init__ : He.DefD := ⟨("Beyond", some "__init__"), "__init__", "Beyond.__init__", defArgs s_Beyond___init__, defBody s_Beyond___init__, defScope s_Beyond___init__, [], []⟩
def d_Beyond_shows : He.DefD := ⟨("Beyond", some "shows"), "shows", "Beyond.shows", defArgs s_Beyond_shows, defBody s_Beyond_shows, defScope s_Beyond_shows, [], []⟩
def d_Twice___init__ : He.DefD := ⟨("Twice", some "__init__"), "__init__", "Twice.__init__", defArgs s_Twice___init__, defBody s_Twice___init__, defScope s_Twice___init__, [], []⟩
def d_Twice_shows : He.DefD := ⟨("Twice", some "shows"), "shows", "Twice.shows", defArgs s_Twice_shows, defBody s_Twice_shows, defScope s_Twice_shows, [], []⟩
def d_Bare___init__ : He.DefD := ⟨("Bare", some "__init__"), "__init__", "Bare.__init__", defArgs s_Bare___init__, defBody s_Bare___init__, defScope s_Bare___init__, [], []⟩
def d_Bare_shows : He.DefD := ⟨("Bare", some "shows"), "shows", "Bare.shows", defArgs s_Bare_shows, defBody s_Bare_shows, defScope s_Bare_shows, [], []⟩
def d_told : He.DefD := ⟨("told", none), "told", "told", defArgs s_told, defBody s_told, defScope s_told, [], []⟩
def d_check_laid : He.DefD := ⟨("check_laid", none), "check_laid", "check_laid", defArgs s_check_laid, defBody s_check_laid, defScope s_check_laid, [], []⟩
def d_plan : He.DefD := ⟨("plan", none), "plan", "plan", defArgs s_plan, defBody s_plan, defScope s_plan, [], []⟩
def d_brick_on : He.DefD := ⟨("brick_on", none), "brick_on", "brick_on", defArgs s_brick_on, defBody s_brick_on, defScope s_brick_on, [], []⟩
def d_lying : He.DefD := ⟨("lying", none), "lying", "lying", defArgs s_lying, defBody s_lying, defScope s_lying, [], []⟩
def d_standing : He.DefD := ⟨("standing", none), "standing", "standing", defArgs s_standing, defBody s_standing, defScope s_standing, [], []⟩
def d_is_brick : He.DefD := ⟨("is_brick", none), "is_brick", "is_brick", defArgs s_is_brick, defBody s_is_brick, defScope s_is_brick, [], []⟩
def d_judged : He.DefD := ⟨("judged", none), "judged", "judged", defArgs s_judged, defBody s_judged, defScope s_judged, [], []⟩
def d_pairs_to : He.DefD := ⟨("pairs_to", none), "pairs_to", "pairs_to", defArgs s_pairs_to, defBody s_pairs_to, defScope s_pairs_to, [], []⟩
def d_alike : He.DefD := ⟨("alike", none), "alike", "alike", defArgs s_alike, defBody s_alike, defScope s_alike, [], []⟩
def d__law_refused : He.DefD := ⟨("_law_refused", none), "_law_refused", "_law_refused", defArgs s__law_refused, defBody s__law_refused, defScope s__law_refused, [], []⟩
def d__law_spoiled : He.DefD := ⟨("_law_spoiled", none), "_law_spoiled", "_law_spoiled", defArgs s__law_spoiled, defBody s__law_spoiled, defScope s__law_spoiled, [], []⟩
def d__law_bad_right : He.DefD := ⟨("_law_bad_right", none), "_law_bad_right", "_law_bad_right", defArgs s__law_bad_right, defBody s__law_bad_right, defScope s__law_bad_right, [], []⟩
def d__law_sizes_refused : He.DefD := ⟨("_law_sizes_refused", none), "_law_sizes_refused", "_law_sizes_refused", defArgs s__law_sizes_refused, defBody s__law_sizes_refused, defScope s__law_sizes_refused, [], []⟩
def d__law_great_right : He.DefD := ⟨("_law_great_right", none), "_law_great_right", "_law_great_right", defArgs s__law_great_right, defBody s__law_great_right, defScope s__law_great_right, [], []⟩
def d__law_changed_right : He.DefD := ⟨("_law_changed_right", none), "_law_changed_right", "_law_changed_right", defArgs s__law_changed_right, defBody s__law_changed_right, defScope s__law_changed_right, [], []⟩
def d__law_hand_right : He.DefD := ⟨("_law_hand_right", none), "_law_hand_right", "_law_hand_right", defArgs s__law_hand_right, defBody s__law_hand_right, defScope s__law_hand_right, [], []⟩
def d_law : He.DefD := ⟨("law", none), "law", "law", defArgs s_law, defBody s_law, defScope s_law, [], []⟩
def fns : List He.DefD := [d_is_number, d_check_sizes, d_shared, d_parts_of, d_sum_of, d_is_striped, d_what_bars, d_Laid_shows, d_Striped___init__, d_Striped_shows, d_Short___init__, d_Short_shows, d_cells_of, d_is_beyond, d_covers, d_is_cell, d_often, d_Full_shows, d_Beyond___init__, d_Beyond_shows, d_Twice___init__, d_Twice_shows, d_Bare___init__, d_Bare_shows, d_told, d_check_laid, d_plan, d_brick_on, d_lying, d_standing, d_is_brick, d_judged, d_pairs_to, d_alike, d__law_refused, d__law_spoiled, d__law_bad_right, d__law_sizes_refused, d__law_great_right, d__law_changed_right, d__law_hand_right, d_law]
def fas : List He.Fa := [.glo "is_number", .glo "check_sizes", .glo "shared", .glo "parts_of", .glo "sum_of", .glo "is_striped", .glo "what_bars", .glo "cells_of", .glo "is_beyond", .glo "covers", .glo "is_cell", .glo "often", .glo "told", .glo "check_laid", .glo "plan", .glo "brick_on", .glo "lying", .glo "standing", .glo "is_brick", .glo "judged", .glo "pairs_to", .glo "alike", .glo "_law_refused", .glo "_law_spoiled", .glo "_law_bad_right", .glo "_law_sizes_refused", .glo "_law_great_right", .glo "_law_changed_right", .glo "_law_hand_right", .glo "law", .free "ValueError", .free "abs", .free "all", .free "any", .free "bool", .free "enumerate", .free "int", .free "isinstance", .free "len", .free "list", .free "max", .free "min", .free "range", .free "set", .free "sorted", .free "sum", .free "tuple", .int "MOST" 400]
def loose0 : List PySem.Str := ["FloorError", "BadSize", "BadCell", "BadColour", "BadBricks", "Barred", "TooGreat", "is_number", "check_sizes", "shared", "parts_of", "sum_of", "Answer", "is_striped", "what_bars", "Laid", "Striped", "Short", "cells_of", "is_beyond", "covers", "is_cell", "often", "Full", "Beyond", "Twice", "Bare", "told", "check_laid", "plan"]
def loose1 : List PySem.Str := ["brick_on", "lying", "standing", "is_brick", "judged", "pairs_to", "alike", "_law_refused", "_law_spoiled", "_law_bad_right", "_law_sizes_refused", "_law_great_right", "_law_changed_right", "_law_hand_right", "MOST"]
def looseN : List PySem.Str := loose0 ++ loose1
def tfs : List He.Defn := [("_law_bad_right", none), ("_law_sizes_refused", none)]
abbrev R : PySem.W.OpenRow := PySem.W.OpenLaw.row PySem.Challenge.rw_brickfloor_k08_one_reason
abbrev hk : PySem.W.Hook := He.hookX 7 fas fns [] tfs exB
def ob (s : PySem.W.SharedT) : He.AlX := He.obsX 7 fas fns [] tfs exB (HandSHeadRun.getT s)
theorem ob_eq (s : PySem.W.SharedT) : ob s = hk.obs s.abs := He.obsX_eq (HandSHeadRun.getT_eq s)
theorem run (w : World) : HandSHeadRun.RunEq R (PySem.W.view R.prog [52]) hk ob 8000 looseN w := by
  intro os
  kernel_rfl
abbrev Says (w : World) (h : Heap) (K : PySem.W.Frag) : Prop := He.SaysX fas fns [] tfs exB w h K
section
variable {w : World} {K : PySem.W.Frag} {h : Heap} {mg : Str → Option Value}
theorem pl_is_number (X : K.In h) (G : h.Ns mainGlobals mg) (c : Says w h K) : Pl K mg "is_number" s_is_number := by
  obtain ⟨fd, F⟩ := c.t.d.def_ 0 (d := d_is_number) rfl
  exact ⟨_, fd, F, He.glo_ok X G (c.t.d.fact 0 (f := .glo "is_number") rfl)⟩
theorem pl_check_sizes (X : K.In h) (G : h.Ns mainGlobals mg) (c : Says w h K) : Pl K mg "check_sizes" s_check_sizes := by
  obtain ⟨fd, F⟩ := c.t.d.def_ 1 (d := d_check_sizes) rfl
  exact ⟨_, fd, F, He.glo_ok X G (c.t.d.fact 1 (f := .glo "check_sizes") rfl)⟩
theorem pl_shared (X : K.In h) (G : h.Ns mainGlobals mg) (c : Says w h K) : Pl K mg "shared" s_shared := by
  obtain ⟨fd, F⟩ := c.t.d.def_ 2 (d := d_shared) rfl
  exact ⟨_, fd, F, He.glo_ok X G (c.t.d.fact 2 (f := .glo "shared") rfl)⟩
theorem pl_parts_of (X : K.In h) (G : h.Ns mainGlobals mg) (c : Says w h K) : Pl K mg "parts_of" s_parts_of := by
  obtain ⟨fd, F⟩ := c.t.d.def_ 3 (d := d_parts_of) rfl
  exact ⟨_, fd, F, He.glo_ok X G (c.t.d.fact 3 (f := .glo "parts_of") rfl)⟩
theorem pl_sum_of (X : K.In h) (G : h.Ns mainGlobals mg) (c : Says w h K) : Pl K mg "sum_of" s_sum_of := by
  obtain ⟨fd, F⟩ := c.t.d.def_ 4 (d := d_sum_of) rfl
  exact ⟨_, fd, F, He.glo_ok X G (c.t.d.fact 4 (f := .glo "sum_of") rfl)⟩
theorem pl_is_striped (X : K.In h) (G : h.Ns mainGlobals mg) (c : Says w h K) : Pl K mg "is_striped" s_is_striped := by
  obtain ⟨fd, F⟩ := c.t.d.def_ 5 (d := d_is_striped) rfl
  exact ⟨_, fd, F, He.glo_ok X G (c.t.d.fact 5 (f := .glo "is_striped") rfl)⟩
theorem pl_what_bars (X : K.In h) (G : h.Ns mainGlobals mg) (c : Says w h K) : Pl K mg "what_bars" s_what_bars := by
  obtain ⟨fd, F⟩ := c.t.d.def_ 6 (d := d_what_bars) rfl
  exact ⟨_, fd, F, He.glo_ok X G (c.t.d.fact 6 (f := .glo "what_bars") rfl)⟩
theorem pl_cells_of (X : K.In h) (G : h.Ns mainGlobals mg) (c : Says w h K) : Pl K mg "cells_of" s_cells_of := by
  obtain ⟨fd, F⟩ := c.t.d.def_ 12 (d := d_cells_of) rfl
  exact ⟨_, fd, F, He.glo_ok X G (c.t.d.fact 7 (f := .glo "cells_of") rfl)⟩
theorem pl_is_beyond (X : K.In h) (G : h.Ns mainGlobals mg) (c : Says w h K) : Pl K mg "is_beyond" s_is_beyond := by
  obtain ⟨fd, F⟩ := c.t.d.def_ 13 (d := d_is_beyond) rfl
  exact ⟨_, fd, F, He.glo_ok X G (c.t.d.fact 8 (f := .glo "is_beyond") rfl)⟩
theorem pl_covers (X : K.In h) (G : h.Ns mainGlobals mg) (c : Says w h K) : Pl K mg "covers" s_covers := by
  obtain ⟨fd, F⟩ := c.t.d.def_ 14 (d := d_covers) rfl
  exact ⟨_, fd, F, He.glo_ok X G (c.t.d.fact 9 (f := .glo "covers") rfl)⟩
theorem pl_is_cell (X : K.In h) (G : h.Ns mainGlobals mg) (c : Says w h K) : Pl K mg "is_cell" s_is_cell := by
  obtain ⟨fd, F⟩ := c.t.d.def_ 15 (d := d_is_cell) rfl
  exact ⟨_, fd, F, He.glo_ok X G (c.t.d.fact 10 (f := .glo "is_cell") rfl)⟩
theorem pl_often (X : K.In h) (G : h.Ns mainGlobals mg) (c : Says w h K) : Pl K mg "often" s_often := by
  obtain ⟨fd, F⟩ := c.t.d.def_ 16 (d := d_often) rfl
  exact ⟨_, fd, F, He.glo_ok X G (c.t.d.fact 11 (f := .glo "often") rfl)⟩
theorem pl_told (X : K.In h) (G : h.Ns mainGlobals mg) (c : Says w h K) : Pl K mg "told" s_told := by
  obtain ⟨fd, F⟩ := c.t.d.def_ 24 (d := d_told) rfl
  exact ⟨_, fd, F, He.glo_ok X G (c.t.d.fact 12 (f := .glo "told") rfl)⟩
theorem pl_check_laid (X : K.In h) (G : h.Ns mainGlobals mg) (c : Says w h K) : Pl K mg "check_laid" s_check_laid := by
  obtain ⟨fd, F⟩ := c.t.d.def_ 25 (d := d_check_laid) rfl
  exact ⟨_, fd, F, He.glo_ok X G (c.t.d.fact 13 (f := .glo "check_laid") rfl)⟩
theorem pl_plan (X : K.In h) (G : h.Ns mainGlobals mg) (c : Says w h K) : Pl K mg "plan" s_plan := by
  obtain ⟨fd, F⟩ := c.t.d.def_ 26 (d := d_plan) rfl
  exact ⟨_, fd, F, He.glo_ok X G (c.t.d.fact 14 (f := .glo "plan") rfl)⟩
theorem pl_brick_on (X : K.In h) (G : h.Ns mainGlobals mg) (c : Says w h K) : Pl K mg "brick_on" s_brick_on := by
  obtain ⟨fd, F⟩ := c.t.d.def_ 27 (d := d_brick_on) rfl
  exact ⟨_, fd, F, He.glo_ok X G (c.t.d.fact 15 (f := .glo "brick_on") rfl)⟩
theorem pl_lying (X : K.In h) (G : h.Ns mainGlobals mg) (c : Says w h K) : Pl K mg "lying" s_lying := by
  obtain ⟨fd, F⟩ := c.t.d.def_ 28 (d := d_lying) rfl
  exact ⟨_, fd, F, He.glo_ok X G (c.t.d.fact 16 (f := .glo "lying") rfl)⟩
theorem pl_standing (X : K.In h) (G : h.Ns mainGlobals mg) (c : Says w h K) : Pl K mg "standing" s_standing := by
  obtain ⟨fd, F⟩ := c.t.d.def_ 29 (d := d_standing) rfl
  exact ⟨_, fd, F, He.glo_ok X G (c.t.d.fact 17 (f := .glo "standing") rfl)⟩
theorem pl_is_brick (X : K.In h) (G : h.Ns mainGlobals mg) (c : Says w h K) : Pl K mg "is_brick" s_is_brick := by
  obtain ⟨fd, F⟩ := c.t.d.def_ 30 (d := d_is_brick) rfl
  exact ⟨_, fd, F, He.glo_ok X G (c.t.d.fact 18 (f := .glo "is_brick") rfl)⟩
theorem pl_judged (X : K.In h) (G : h.Ns mainGlobals mg) (c : Says w h K) : Pl K mg "judged" s_judged := by
  obtain ⟨fd, F⟩ := c.t.d.def_ 31 (d := d_judged) rfl
  exact ⟨_, fd, F, He.glo_ok X G (c.t.d.fact 19 (f := .glo "judged") rfl)⟩
theorem pl_pairs_to (X : K.In h) (G : h.Ns mainGlobals mg) (c : Says w h K) : Pl K mg "pairs_to" s_pairs_to := by
  obtain ⟨fd, F⟩ := c.t.d.def_ 32 (d := d_pairs_to) rfl
  exact ⟨_, fd, F, He.glo_ok X G (c.t.d.fact 20 (f := .glo "pairs_to") rfl)⟩
theorem pl_alike (X : K.In h) (G : h.Ns mainGlobals mg) (c : Says w h K) : Pl K mg "alike" s_alike := by
  obtain ⟨fd, F⟩ := c.t.d.def_ 33 (d := d_alike) rfl
  exact ⟨_, fd, F, He.glo_ok X G (c.t.d.fact 21 (f := .glo "alike") rfl)⟩
theorem pl__law_refused (X : K.In h) (G : h.Ns mainGlobals mg) (c : Says w h K) : Pl K mg "_law_refused" s__law_refused := by
  obtain ⟨fd, F⟩ := c.t.d.def_ 34 (d := d__law_refused) rfl
  exact ⟨_, fd, F, He.glo_ok X G (c.t.d.fact 22 (f := .glo "_law_refused") rfl)⟩
theorem pl__law_spoiled (X : K.In h) (G : h.Ns mainGlobals mg) (c : Says w h K) : Pl K mg "_law_spoiled" s__law_spoiled := by
  obtain ⟨fd, F⟩ := c.t.d.def_ 35 (d := d__law_spoiled) rfl
  exact ⟨_, fd, F, He.glo_ok X G (c.t.d.fact 23 (f := .glo "_law_spoiled") rfl)⟩
theorem pl__law_bad_right (X : K.In h) (G : h.Ns mainGlobals mg) (c : Says w h K) : Pl K mg "_law_bad_right" s__law_bad_right := by
  obtain ⟨fd, F⟩ := c.t.d.def_ 36 (d := d__law_bad_right) rfl
  exact ⟨_, fd, F, He.glo_ok X G (c.t.d.fact 24 (f := .glo "_law_bad_right") rfl)⟩
theorem pl__law_sizes_refused (X : K.In h) (G : h.Ns mainGlobals mg) (c : Says w h K) : Pl K mg "_law_sizes_refused" s__law_sizes_refused := by
  obtain ⟨fd, F⟩ := c.t.d.def_ 37 (d := d__law_sizes_refused) rfl
  exact ⟨_, fd, F, He.glo_ok X G (c.t.d.fact 25 (f := .glo "_law_sizes_refused") rfl)⟩
theorem pl__law_great_right (X : K.In h) (G : h.Ns mainGlobals mg) (c : Says w h K) : Pl K mg "_law_great_right" s__law_great_right := by
  obtain ⟨fd, F⟩ := c.t.d.def_ 38 (d := d__law_great_right) rfl
  exact ⟨_, fd, F, He.glo_ok X G (c.t.d.fact 26 (f := .glo "_law_great_right") rfl)⟩
theorem pl__law_changed_right (X : K.In h) (G : h.Ns mainGlobals mg) (c : Says w h K) : Pl K mg "_law_changed_right" s__law_changed_right := by
  obtain ⟨fd, F⟩ := c.t.d.def_ 39 (d := d__law_changed_right) rfl
  exact ⟨_, fd, F, He.glo_ok X G (c.t.d.fact 27 (f := .glo "_law_changed_right") rfl)⟩
theorem pl__law_hand_right (X : K.In h) (G : h.Ns mainGlobals mg) (c : Says w h K) : Pl K mg "_law_hand_right" s__law_hand_right := by
  obtain ⟨fd, F⟩ := c.t.d.def_ 40 (d := d__law_hand_right) rfl
  exact ⟨_, fd, F, He.glo_ok X G (c.t.d.fact 28 (f := .glo "_law_hand_right") rfl)⟩
theorem pl_law (X : K.In h) (G : h.Ns mainGlobals mg) (c : Says w h K) : Pl K mg "law" s_law := by
  obtain ⟨fd, F⟩ := c.t.d.def_ 41 (d := d_law) rfl
  exact ⟨_, fd, F, He.glo_ok X G (c.t.d.fact 29 (f := .glo "law") rfl)⟩
theorem plm_Laid_shows (c : Says w h K) : PlM K .laid "shows" "Laid.shows" s_Laid_shows := by
  obtain ⟨fd, F⟩ := c.t.d.def_ 7 (d := d_Laid_shows) rfl
  exact ⟨_, fd, F, exB_shows c.more (by decide) (by decide)⟩
theorem plm_Striped___init__ (c : Says w h K) : PlM K .striped "__init__" "Striped.__init__" s_Striped___init__ := by
  obtain ⟨fd, F⟩ := c.t.d.def_ 8 (d := d_Striped___init__) rfl
  exact ⟨_, fd, F, (exB_one c.more (by decide) (by decide)).2⟩
theorem plm_Striped_shows (c : Says w h K) : PlM K .striped "shows" "Striped.shows" s_Striped_shows := by
  obtain ⟨fd, F⟩ := c.t.d.def_ 9 (d := d_Striped_shows) rfl
  exact ⟨_, fd, F, exB_shows c.more (by decide) (by decide)⟩
theorem plm_Short___init__ (c : Says w h K) : PlM K .short "__init__" "Short.__init__" s_Short___init__ := by
  obtain ⟨fd, F⟩ := c.t.d.def_ 10 (d := d_Short___init__) rfl
  exact ⟨_, fd, F, (exB_one c.more (by decide) (by decide)).2⟩
theorem plm_Short_shows (c : Says w h K) : PlM K .short "shows" "Short.shows" s_Short_shows := by
  obtain ⟨fd, F⟩ := c.t.d.def_ 11 (d := d_Short_shows) rfl
  exact ⟨_, fd, F, exB_shows c.more (by decide) (by decide)⟩
theorem plm_Full_shows (c : Says w h K) : PlM K .full "shows" "Full.shows" s_Full_shows := by
  obtain ⟨fd, F⟩ := c.t.d.def_ 17 (d := d_Full_shows) rfl
  exact ⟨_, fd, F, exB_shows c.more (by decide) (by decide)⟩
theorem plm_Beyond___init__ (c : Says w h K) : PlM K .beyond "__init__" "Beyond.__init__" s_Beyond___init__ := by
  obtain ⟨fd, F⟩ := c.t.d.def_ 18 (d := d_Beyond___init__) rfl
  exact ⟨_, fd, F, (exB_one c.more (by decide) (by decide)).2⟩
theorem plm_Beyond_shows (c : Says w h K) : PlM K .beyond "shows" "Beyond.shows" s_Beyond_shows := by
  obtain ⟨fd, F⟩ := c.t.d.def_ 19 (d := d_Beyond_shows) rfl
  exact ⟨_, fd, F, exB_shows c.more (by decide) (by decide)⟩
theorem plm_Twice___init__ (c : Says w h K) : PlM K .twice "__init__" "Twice.__init__" s_Twice___init__ := by
  obtain ⟨fd, F⟩ := c.t.d.def_ 20 (d := d_Twice___init__) rfl
  exact ⟨_, fd, F, (exB_one c.more (by decide) (by decide)).2⟩
theorem plm_Twice_shows (c : Says w h K) : PlM K .twice "shows" "Twice.shows" s_Twice_shows := by
  obtain ⟨fd, F⟩ := c.t.d.def_ 21 (d := d_Twice_shows) rfl
  exact ⟨_, fd, F, exB_shows c.more (by decide) (by decide)⟩
theorem plm_Bare___init__ (c : Says w h K) : PlM K .bare "__init__" "Bare.__init__" s_Bare___init__ := by
  obtain ⟨fd, F⟩ := c.t.d.def_ 22 (d := d_Bare___init__) rfl
  exact ⟨_, fd, F, (exB_one c.more (by decide) (by decide)).2⟩
theorem plm_Bare_shows (c : Says w h K) : PlM K .bare "shows" "Bare.shows" s_Bare_shows := by
  obtain ⟨fd, F⟩ := c.t.d.def_ 23 (d := d_Bare_shows) rfl
  exact ⟨_, fd, F, exB_shows c.more (by decide) (by decide)⟩
theorem const_MOST (X : K.In h) (G : h.Ns mainGlobals mg) (c : Says w h K) : ∃ t, mg "MOST" = some (.int 400 t) := He.int_ok X G (c.t.d.fact 47 (f := .int "MOST" 400) rfl)
theorem bi_ok (X : K.In h) (G : h.Ns mainGlobals mg) (c : Says w h K) : Bi mg := ⟨He.free_ok X G (c.t.d.fact 30 (f := .free "ValueError") rfl), He.free_ok X G (c.t.d.fact 31 (f := .free "abs") rfl), He.free_ok X G (c.t.d.fact 32 (f := .free "all") rfl), He.free_ok X G (c.t.d.fact 33 (f := .free "any") rfl), He.free_ok X G (c.t.d.fact 34 (f := .free "bool") rfl), He.free_ok X G (c.t.d.fact 35 (f := .free "enumerate") rfl), He.free_ok X G (c.t.d.fact 36 (f := .free "int") rfl), He.free_ok X G (c.t.d.fact 37 (f := .free "isinstance") rfl), He.free_ok X G (c.t.d.fact 38 (f := .free "len") rfl), He.free_ok X G (c.t.d.fact 39 (f := .free "list") rfl), He.free_ok X G (c.t.d.fact 40 (f := .free "max") rfl), He.free_ok X G (c.t.d.fact 41 (f := .free "min") rfl), He.free_ok X G (c.t.d.fact 42 (f := .free "range") rfl), He.free_ok X G (c.t.d.fact 43 (f := .free "set") rfl), He.free_ok X G (c.t.d.fact 44 (f := .free "sorted") rfl), He.free_ok X G (c.t.d.fact 45 (f := .free "sum") rfl), He.free_ok X G (c.t.d.fact 46 (f := .free "tuple") rfl)⟩
end
end BF

namespace BF
open PySem PySem.Spec PyProof.Rows L2
theorem ci_ok {w : World} {K : PySem.W.Frag} {h : Heap} {mg : Str → Option Value} {P : Program} {base : Heap} (X : K.In h) (G : h.Ns mainGlobals mg) (c : Says w h K) (GC : ClG K mg) : ClI P w K mg base := by
  refine ⟨fun x hx h1 => (exB_one c.more hx (by cases x <;> first | rfl | exact h1.elim)).1, fun x hx h1 => ?_, fun x hx h0 => exB_zero c.more hx (by rcases h0 with rfl | rfl <;> rfl)⟩
  cases x with
  | striped => exact H_Striped___init__ (plm_Striped___init__ c) GC
  | short => exact H_Short___init__ (plm_Short___init__ c) GC
  | beyond => exact H_Beyond___init__ (plm_Beyond___init__ c) GC
  | twice => exact H_Twice___init__ (plm_Twice___init__ c) GC
  | bare => exact H_Bare___init__ (plm_Bare___init__ c) GC
  | _ => first | exact h1.elim | exact absurd hx (by decide)
end BF

namespace BF
open PySem PySem.Spec PyProof.Rows L2 LamX
def lawLevel : Nat := 10
section
variable {w : World} {K : PySem.W.Frag} {h : Heap} {mg : Str → Option Value} {P : Program} {base : Heap}
theorem plC_bad (X : K.In h) (G : h.Ns mainGlobals mg) (c : Says w h K) : PlC K mg "_law_bad_right" s__law_bad_right (cB K).1 := by
  obtain ⟨fd, F⟩ := c.t.d.def_ 36 (d := d__law_bad_right) rfl
  refine ⟨_, fd, F, He.glo_ok X G (c.t.d.fact 24 (f := .glo "_law_bad_right") rfl), ?_⟩
  obtain ⟨oc, od, dV, kV, doc, pm, an, cdv, ct, osl, rfl, lk, hcd, _, _⟩ := F.ex
  obtain ⟨c', rfl⟩ := He.codeIn_ref hcd
  exact congrArg Value.ref (He.codeOf_eq (p := ("_law_bad_right", none)) lk rfl).symm
theorem plC_sizes (X : K.In h) (G : h.Ns mainGlobals mg) (c : Says w h K) : PlC K mg "_law_sizes_refused" s__law_sizes_refused (cS K).1 := by
  obtain ⟨fd, F⟩ := c.t.d.def_ 37 (d := d__law_sizes_refused) rfl
  refine ⟨_, fd, F, He.glo_ok X G (c.t.d.fact 25 (f := .glo "_law_sizes_refused") rfl), ?_⟩
  obtain ⟨oc, od, dV, kV, doc, pm, an, cdv, ct, osl, rfl, lk, hcd, _, _⟩ := F.ex
  obtain ⟨c', rfl⟩ := He.codeIn_ref hcd
  exact congrArg Value.ref (He.codeOf_eq (p := ("_law_sizes_refused", none)) lk rfl).symm
theorem has_law (X : K.In h) (G : h.Ns mainGlobals mg) (c : Says w h K) (TB : TabB base mg (cB K).1 (cB K).2) (TS : TabB base mg (cS K).1 (cS K).2) : Has P w K mg base CX0 10 "law" ["_law_script"] (SpLaw8 K) := by
  have B := bi_ok X G c
  have GC := clB_ok X G (exB_cl c.more)
  have CI := ci_ok (P := P) (base := base) X G c GC
  have M := const_MOST X G c
  have more : (ersB K && decide ((cB K).2 ≠ (cS K).2)) = true := (He.ba (He.ba c.more).2).2
  have GE := ersB_ok X G (He.ba more).1
  have ne : (cB K).2 ≠ (cS K).2 := of_decide_eq_true (He.ba more).2
  have h1 := H_is_number (P := P) (w := w) (base := base) (pl_is_number X G c) B
  have h2 := H_check_sizes (pl_check_sizes X G c) h1
  have h3 := H_shared (P := P) (w := w) (base := base) (pl_shared X G c)
  have h4 := H_parts_of (pl_parts_of X G c) h3
  have h5 := H_is_striped (P := P) (w := w) (base := base) (pl_is_striped X G c)
  have h6 := H_what_bars (pl_what_bars X G c) B h5 h4
  have h7 := H_shows4 GC (plm_Laid_shows c) (plm_Striped_shows c) (plm_Short_shows c) h6 h5 h4
  have h8 := H_told (pl_told X G c) GC CI h2 h6
  have g1 := H_is_beyond (P := P) (w := w) (base := base) (pl_is_beyond X G c)
  have g2 := H_covers (P := P) (w := w) (base := base) (pl_covers X G c)
  have g3 := H_often (pl_often X G c) B g2
  have g4 := H_is_cell (pl_is_cell X G c) B h1
  have g5 := H_cells_of (P := P) (w := w) (base := base) (pl_cells_of X G c) B
  have g6 := H_shows5 B GC (plm_Full_shows c) (plm_Beyond_shows c) (plm_Twice_shows c) (plm_Bare_shows c) g1 g5 g4 g3
  have g7 := H_is_brick (pl_is_brick X G c) B h1
  have g8 := H_judged (pl_judged X G c) B GC CI M h2 g7 g1 g3
  have k1 := H_check_laid (pl_check_laid X G c) h2 h6
  have k2 := H_plan (pl_plan X G c) h4
  have k3 := H_brick_on (pl_brick_on X G c) k1 g4 k2
  have k4 := H_lying (pl_lying X G c) k1 k2
  have k5 := H_standing (pl_standing X G c) k4
  have k6 := H_sum_of (pl_sum_of X G c) h2 h4
  have s1 := H_pairs_to (P := P) (w := w) (base := base) (pl_pairs_to X G c) B
  have s2 := H_alike (pl_alike X G c) h2 h1 s1
  have x1 := HX_check_sizes (pl_check_sizes X G c) GE h1
  have x2 := HX_told (pl_told X G c) x1
  have x3 := HXS_check_laid (pl_check_laid X G c) x1
  have x4 := HXS_judged (pl_judged X G c) x1
  have x5 := HXS_sum_of (pl_sum_of X G c) x1
  have x6 := HXS_alike (pl_alike X G c) x1
  have x7 := HXS_lying (pl_lying X G c) x3
  have x8 := HXS_standing (pl_standing X G c) x7
  have x9 := HXS_brick_on (pl_brick_on X G c) x3
  have y1 := HN_is_cell (pl_is_cell X G c) B h1
  have y2 := HC_brick_on (pl_brick_on X G c) GE k1 y1
  have y3 := HC_alike (pl_alike X G c) GE h2 h1
  have y4 := HG_is_brick (pl_is_brick X G c) B h1
  have y5 := HB_judged (pl_judged X G c) B GE M h2 y4
  have y6 := HG_judged (pl_judged X G c) GE M h2
  have z1 := HX_check_laid (pl_check_laid X G c) GE h2 h6
  have z2 := HX_brick_on (pl_brick_on X G c) GE z1 g4 k2
  have z3 := HX_lying (pl_lying X G c) z1 k2
  have z4 := HX_standing (pl_standing X G c) z3
  have l1 := H__law_sizes_refused (plC_sizes X G c) (pl__law_refused X G c) B GE TS ne x2 x9 x7 x8 x4
  have l2 := H__law_spoiled (P := P) (w := w) (base := base) (pl__law_spoiled X G c) B
  have l3 := H__law_bad_right (plC_bad X G c) (pl__law_refused X G c) B GC GE TB ne l1 l2 x5 x6 y3 y2 z2 z3 z4 y6 y5 g8
  have l4 := H__law_changed_right (pl__law_changed_right X G c) B GC g6 g8 s2 k4 k5
  have l5 := H__law_hand_right (pl__law_hand_right X G c) B GC CI h7 g6 l4
  have l6 := H__law_great_right (pl__law_great_right X G c) B GC h8 h7 k6 s2 k3 k4 k5
  exact H_law (pl_law X G c) B l3 l6 l5
theorem law_at {f : Addr} (X : K.In h) (G : h.Ns mainGlobals mg) (c : Says w h K) (g : mg ("law" : Str) = some (.ref f)) : LamX.LawAtS PySem.Challenge.rw_brickfloor_k08_one_reason w K CX0 lawLevel 63 "_law_script" mg f h := by
  obtain ⟨f', fd, F, g'⟩ := pl_law X G c
  have e := g.symm.trans g'
  cases e
  have mem : ∀ p ∈ [cB K, cS K], p = cB K ∨ p = cS K := fun p hp => by simpa using hp
  have fst : (("_law_bad_right", none) : He.Defn) ∈ tfs := .head _
  have snd : (("_law_sizes_refused", none) : He.Defn) ∈ tfs := .tail _ (.head _)
  refine ⟨fd, [cB K, cS K], SpLaw8 K, fun p hp => ?_, fun p hp => ?_, fun p hp => ?_, fun s u => FunD.bindsA (ps := ["_law_script"]) F (fun _ _ _ _ _ _ us hl => match us, hl with | [_], _ => rfl) s [u] rfl, fun H a ns hl hb hT hS => .mk hl hb hS ?_ fun _ => rfl,
    fun base hK hG hTB => (has_law X G c (hTB _ (.head _)) (hTB _ (.tail _ (.head _)))).at F g'⟩
  · rcases mem p hp with rfl | rfl
    · exact c.empty _ fst
    · exact c.empty _ snd
  · rcases mem p hp with rfl | rfl
    · exact c.out _ fst
    · exact c.out _ snd
  · rcases mem p hp with rfl | rfl
    · exact PySem.W.codeHd_of_K X (c.hd _ fst)
    · exact PySem.W.codeHd_of_K X (c.hd _ snd)
  · intro p hp
    have z : p = ((cB K).2, qB) ∨ p = ((cS K).2, qS) := by simpa [tabs] using hp
    rcases z with rfl | rfl
    · exact TabS.nil (hT _ (.head _))
    · exact TabS.nil (hT _ (.tail _ (.head _)))
end
end BF

open PySem PySem.W PySem.Calls PyProof.Rows
set_option maxRecDepth 100000 in
set_option maxHeartbeats 8000000 in
theorem PySem.Challenge.cw_brickfloor_k08_one_reason_holds : PySem.Challenge.rw_brickfloor_k08_one_reason.Holds := by
  w_on; o_law
  refine HandSHeadRun.head_any (r := OpenLaw.row PySem.Challenge.rw_brickfloor_k08_one_reason) (q := view (OpenLaw.row PySem.Challenge.rw_brickfloor_k08_one_reason).prog [52]) (H := BF.hk) (ob := BF.ob) (loose := BF.looseN) (d := HandSHeadRun.topDef (OpenLaw.row PySem.Challenge.rw_brickfloor_k08_one_reason).prog 52) (kwd := []) BF.ob_eq
    (by kernel_rfl) (fun s => by kernel_rfl) BF.run (by kernel_rfl) (by kernel_rfl) (by kernel_rfl) (by rfl) (by first | assumption | decide +kernel) (by decide +kernel) ⟨rfl, rfl, rfl, rfl, rfl, by decide +kernel⟩ ?hw ?hc
  case hw => w_witness2
  case hc =>
    refine LamX.walk_ofTsE (l := PySem.Challenge.rw_brickfloor_k08_one_reason) (n := 63) (k := BF.lawLevel) (x := "_law_script") (CX := fun _ => L2.CX0) rfl (by decide) (by kernel_rfl) ⟨rfl, by decide, by decide⟩ ?F (fun _ _ _ _ _ z => z)
    intro w mg fa h Y G hmg0
    obtain ⟨K, KX, c⟩ := Y
    have hmg : mg ("law" : PySem.Str) = some (.ref fa) := by
      have e : (HandSHeadRun.topDef (OpenLaw.row PySem.Challenge.rw_brickfloor_k08_one_reason).prog 52).name = ("law" : PySem.Str) := by kernel_rfl
      rw [← e]
      exact hmg0
    exact ⟨K, KX, BF.law_at KX G c hmg⟩
