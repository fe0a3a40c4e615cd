import PyProof.Rows.All
import Wide.All
import OpenK.AllK
import Wide.FinOn
import KE.KStateDown
import HandS.ForMost
import HandS.ForExc
import HandS.More
import HandS.Wide
import HandS.WideBits
import HandS.Style
import HandS.Flow
import HandS.Zip
import HandS.TupLen
import HandS.Deep
import HandS.IsInst
import HandS.Defaults
import HandS.Head0
import HandS.Head1
import HandS.Head2
import HandS.HeadEnd
import HandS.HeadHook1
import HandS.HeadHook2
import HandS.HeadHook3
import HandS.HeadHook4
import HandS.HeadWalk
import HandS.Evl
import KE.DataMinMax
import KE.GoesMore
import PySem.Challenge.RW_brickfloor_k06_answers_by_hand
set_option pp.maxSteps 700
set_option Elab.async false
set_option linter.all false
set_option maxRecDepth 100000
set_option maxHeartbeats 4000000
/-! ### a def of the top, where it stands, and its promise -/
namespace BF
open PySem PySem.Spec PyProof.Rows L2
abbrev FnP (K : PySem.W.Frag) (x q : Str) (st : Stmt) (f : Addr) (fd : FuncData) : Prop := FunD K x q (defArgs st) (defBody st) (defScope st) [] [] f fd
/-- the def x of the top stands where the module's name says -/
def Pl (K : PySem.W.Frag) (mg : Str → Option Value) (x : Str) (st : Stmt) : Prop := ∃ f fd, FnP K x x st f fd ∧ mg x = some (.ref f)
/-- the def x keeps its promise, by calls at most k deep -/
def Has (P : Program) (w : World) (K : PySem.W.Frag) (mg : Str → Option Value) (base : Heap) (C : CXT) (k : Nat) (x : Str) (ps : List Str) (sp : Sp) : Prop :=
  ∃ f fd, FnOk P w K mg base C k f fd ps sp ∧ mg x = some (.ref f) ∧ PySem.W.keepIn K (.ref f) = true ∧ Binds K fd ps [] ∧ ∃ oc od osl, K.lookup f = some ⟨oc, od, .func fd, osl⟩
section
variable {P : Program} {w : World} {K : PySem.W.Frag} {mg : Str → Option Value} {base : Heap} {x : Str} {st : Stmt} {N ps : List Str} {k : Nat} {sp : Sp}
theorem Pl.mkX {C : CXT} (p : Pl K mg x st) (S : FnScope N ps (defScope st))
    (hb : ∀ (kV doc pm : Value) (an : Option Addr) (cdv ct : Value) (us : List Value), us.length = ps.length → bindArgs (PySem.W.fnOf x x (defArgs st) (defBody st) (defScope st) .none kV doc pm an cdv ct) ⟨us, []⟩ = pure (ps.zip us))
    (len : ∀ vs H Q E, sp vs H Q E → vs.length = ps.length)
    (body : ∀ (f : Addr) (cdv : Value) (A : Around) (outer : List Env) (s : Shared) (H : Hp) (vs : List V) (Q : VK) (E : XK), Room k (A.deeper (envOfC x (defScope st) s.heap.objs.size f cdv)) → sp vs H Q E →
      ∃ t, PSs (cxOf C P w K mg base N x (defScope st) f cdv A outer s H E) (defBody st) t ∧ t { nx := fun _ H' => Q .non H', rt := Q } (start N vs) H) : Has P w K mg base C (k + 1) x ps sp := by
  obtain ⟨f, fd, F, g⟩ := p
  obtain ⟨oc, od, _, _, _, _, _, _, _, osl, _, lk, _⟩ := F.ex
  exact ⟨f, fd, F.ok S len (body f), g, F.kp, F.bindsN hb, oc, od, osl, lk⟩
/-- of the def at f (the law) -/
theorem Has.at {C : CXT} {f : Addr} {fd : FuncData} (h : Has P w K mg base C k x ps sp) (F : FnP K x x st f fd) (g : mg x = some (.ref f)) : FnOk P w K mg base C k f fd ps sp := by
  obtain ⟨f', fd', G, g', _, _, oc, od, osl, lk⟩ := h
  obtain ⟨oc2, od2, _, _, _, _, _, _, _, osl2, _, lk2, _⟩ := F.ex
  have e : f' = f := by
    have z := g'.symm.trans g
    cases z
    rfl
  subst e
  have z := lk.symm.trans lk2
  cases z
  exact G
theorem Pl.mk0 (p : Pl K mg x st) (S : FnScope N ps (defScope st))
    (hb : ∀ (kV doc pm : Value) (an : Option Addr) (cdv ct : Value) (us : List Value), us.length = ps.length → bindArgs (PySem.W.fnOf x x (defArgs st) (defBody st) (defScope st) .none kV doc pm an cdv ct) ⟨us, []⟩ = pure (ps.zip us))
    (len : ∀ vs H Q E, sp vs H Q E → vs.length = ps.length)
    (body : ∀ (f : Addr) (cdv : Value) (A : Around) (outer : List Env) (s : Shared) (H : Hp) (vs : List V) (Q : VK) (E : XK), Room k (A.deeper (envOfC x (defScope st) s.heap.objs.size f cdv)) → sp vs H Q E →
      ∃ t, PSs (cxOf CX0 P w K mg base N x (defScope st) f cdv A outer s H E).nox (defBody st) t ∧ t { nx := fun _ H' => Q .non H', rt := Q } (start N vs) H) : Has P w K mg base CX0 (k + 1) x ps sp :=
  p.mkX S hb len fun f cdv A outer s H vs Q E hr h => by
    obtain ⟨t, a, b⟩ := body f cdv A outer s H vs Q E hr h
    exact ⟨t, a.nox, b⟩
end
section
variable {X : Cx} {C : CXT} {k : Nat} {ps : List Str} {sp : Sp} {E : XK} {x : Str} {p pos : Pos} {e : Expr} {es : List Expr} {t : TA}
theorem pe_fn (h : Has X.prog X.w X.K X.mg X.base C k x ps sp) (hr : Room k X.A) (hx : Passes C X E) (ha : PA X (e :: es) t) (hg : Gl X x := by rfl) (hdb : (x == ("__debug__" : Str)) = false := by decide)
    (he : starEach (e :: es) X.env = (false, eval e X.env) :: starEach es X.env := by rfl) (hpl : (backTo pos (starEach es X.env)).any (·.1) = false := by rfl) : PE X (.Call (.Name x p) (e :: es) [] pos) (tCall sp [] E t) := by
  obtain ⟨f, fd, F, hm, hk, hb, _⟩ := h
  exact pe_call F hr hg hm hk hb .nil hx ha hdb he hpl
theorem pe_fn0 (h : Has X.prog X.w X.K X.mg X.base C k x ps sp) (hr : Room k X.A) (hx : Passes C X E) (hg : Gl X x := by rfl) (hdb : (x == ("__debug__" : Str)) = false := by decide) : PE X (.Call (.Name x p) [] [] pos) (tCall sp [] E tNil) := by
  obtain ⟨f, fd, F, hm, hk, hb, _⟩ := h
  exact pe_call0 F hr hg hm hk hb .nil hx hdb
end
/-! ### sizes of ints -/
/-- of less than n bits -/
structure Bn (n : Nat) (x : Int) : Prop where
  lt : x.natAbs < 2 ^ n
theorem Bn.mono {n m : Nat} {x : Int} (h : Bn n x) (l : n ≤ m) : Bn m x := ⟨Nat.lt_of_lt_of_le h.lt (Nat.pow_le_pow_right (by decide) l)⟩
theorem bnl {n : Nat} {x : Int} (h : x.natAbs < 2 ^ n) : Bn n x := ⟨h⟩
theorem bn0 {n : Nat} : Bn n 0 := ⟨Nat.two_pow_pos _⟩
theorem Bn.mul {n m : Nat} {x y : Int} (h : Bn n x) (k : Bn m y) : Bn (n + m) (x * y) := ⟨wide_lt h.lt k.lt⟩
theorem Bn.add {n m : Nat} {x y : Int} (h : Bn n x) (k : Bn m y) : Bn (n + m + 1) (x + y) := by
  have h1 : x.natAbs < 2 ^ n := h.lt
  have h2 : y.natAbs < 2 ^ m := k.lt
  have a : 2 ^ n ≤ 2 ^ (n + m) := Nat.pow_le_pow_right (by decide) (by omega)
  have b : 2 ^ m ≤ 2 ^ (n + m) := Nat.pow_le_pow_right (by decide) (by omega)
  have c : 2 ^ (n + m + 1) = 2 ^ (n + m) * 2 := Nat.pow_succ 2 (n + m)
  have d := Int.natAbs_add_le x y
  refine ⟨?_⟩
  omega
theorem Bn.le {n : Nat} {x y : Int} (h : Bn n y) (l : x.natAbs ≤ y.natAbs) : Bn n x := ⟨Nat.lt_of_le_of_lt l h.lt⟩
theorem Bn.of_le {n : Nat} {x y : Int} (h : Bn n y) (h0 : 0 ≤ x) (l : x ≤ y) : Bn n x := h.le (by omega)
theorem Bn.neg {n : Nat} {x : Int} (h : Bn n x) : Bn n (-x) := h.le (by omega)
theorem Bn.sub {n m : Nat} {x y : Int} (h : Bn n x) (k : Bn m y) : Bn (n + m + 1) (x - y) := by
  rw [Int.sub_eq_add_neg]
  exact h.add k.neg
theorem Bn.mulOk {n m : Nat} {x y : Int} (h : Bn n x) (k : Bn m y) (l : n + m ≤ 134217728) : CMulX x y := mulx_ok h.lt k.lt l
theorem Bn.divOk {n : Nat} {x y : Int} (k : Bn n y) (p : 0 < y) (h0 : 0 < n) (l : n ≤ 9000) : CDivW x y := wide_div p k.lt h0 l
theorem divOk_lit {x : Int} {y : Int} (p : 0 < y) (l : y < 4294967296) : CDivW x y := wide_div (b := 32) p (by omega) (by decide) (by decide)
theorem Bn.div {n : Nat} {x y : Int} (h : Bn n x) (p : 0 < y) : Bn n (x / y) := by
  refine h.le ?_
  have a := Int.emod_add_mul_ediv x y
  have b := Int.emod_nonneg x (Int.ne_of_gt p)
  have c := Int.emod_lt_of_pos x p
  rcases Int.lt_or_le x 0 with hx | hx
  · -- x < 0: x / y ≥ x
    have d : x / y < 0 := Int.ediv_neg_of_neg_of_pos hx p
    have e : y * (x / y) ≤ 1 * (x / y) := Int.mul_le_mul_of_nonpos_right (by omega) (by omega)
    rcases Int.lt_or_le (x / y) x with f | f
    · have q1 : y * (x / y) ≤ y * (x - 1) := Int.mul_le_mul_of_nonneg_left (by omega) (by omega)
      have q2 : y * (x - 1) = y * x - y := by rw [Int.mul_sub, Int.mul_one]
      have q3 : y * x ≤ 1 * x := Int.mul_le_mul_of_nonpos_right (by omega) (by omega)
      omega
    · omega
  · have d : 0 ≤ x / y := Int.ediv_nonneg hx (Int.le_of_lt p)
    have e : 1 * (x / y) ≤ y * (x / y) := Int.mul_le_mul_of_nonneg_right (by omega) d
    omega
theorem Bn.mod {n : Nat} {x y : Int} (h : Bn n y) (p : 0 < y) : Bn n (x % y) := h.of_le (Int.emod_nonneg x (Int.ne_of_gt p)) (Int.le_of_lt (Int.emod_lt_of_pos x p))
theorem bn_bits {n : Nat} {x : Int} (h : Builtin.Int.intBits x ≤ n) : Bn (n + 1) x := by
  unfold Builtin.Int.intBits at h
  refine ⟨?_⟩
  split at h
  · rename_i z
    have e : x = 0 := by simpa using z
    rw [e]
    exact Nat.two_pow_pos _
  · have a : x.natAbs < 2 ^ (x.natAbs.log2 + 1) := Nat.lt_log2_self
    exact Nat.lt_of_lt_of_le a (Nat.pow_le_pow_right (by decide) (by omega))
theorem mulOk_left {x y : Int} (h : x.natAbs < 4294967296) (k : Bn 100000000 y) : CMulX x y := mulx_ok (a := 32) h k.lt (by decide)
/-- a size of the program: from 1 on, of less than 2000 bits -/
structure Sz (x : Int) : Prop where
  pos : 0 < x
  bn : Bn 2000 x
/-! ### heaps that grow -/
theorem same_upd {H : Hp} {p : Addr} {o : HO} (h : H p = none) : Same H (upd H p o) := fun b x e => by
  rw [upd_ne (ne_of_none e h)]
  exact e
theorem newH {H H2 : Hp} {p : Addr} {o : HO} (e : upd H p o = H2) (hp : H p = none) : Same H H2 ∧ H2 p = some o := by
  rw [← e]
  exact ⟨same_upd hp, upd_same⟩
theorem Same.tup {K : PySem.W.Frag} {H H' : Hp} {a : Addr} {xs : List V} (e : Same H H') (h : SqT K H a xs) : SqT K H' a xs := by
  rcases h with (h | ⟨o, h⟩) | h
  · exact .inl (.inl (e _ _ h))
  · exact .inl (.inr ⟨o, e _ _ h⟩)
  · exact .inr h
theorem sqL {K : PySem.W.Frag} {H : Hp} {a : Addr} {xs : List V} (h : H a = some (.lst xs)) : SqL K H a xs := .inl (.inl h)
theorem sqT {K : PySem.W.Frag} {H : Hp} {a : Addr} {xs : List V} (h : H a = some (.tup xs)) : SqT K H a xs := .inl (.inl h)
/-- the int that a slot holds, as a measure -/
def slotN (σ : L2.St) (i : Nat) : Nat := match σ[i]? with
  | some (some (.int n)) => n.toNat
  | _ => 0
section
variable {A B : Prop} {i j : Int}
theorem iteD {p : Prop} [Decidable p] (h1 : p → A) (h2 : ¬ p → B) : if decide p = true then A else B := ite2 (fun c => h1 (of_decide_eq_true c)) fun c => h2 fun z => c (decide_eq_true z)
theorem iteEq (h1 : i = j → A) (h2 : i ≠ j → B) : if decide (V.int i = V.int j) = true then A else B := iteD (fun c => h1 (V.int.inj c)) fun c => h2 fun z => c (by rw [z])
theorem iteNe (h1 : i ≠ j → A) (h2 : i = j → B) : if (!decide (V.int i = V.int j)) = true then A else B := by
  by_cases c : i = j
  · rw [decide_eq_true (show V.int i = V.int j by rw [c])]
    exact iteF (h2 c)
  · rw [decide_eq_false (show ¬ V.int i = V.int j from fun z => c (V.int.inj z))]
    exact iteT (h1 c)
theorem iteP {p : Prop} [Decidable p] (hp : p) (h : A) : if decide p = true then A else B := by
  rw [decide_eq_true hp]
  exact iteT h
theorem iteN {p : Prop} [Decidable p] (hp : ¬ p) (h : B) : if decide p = true then A else B := by
  rw [decide_eq_false hp]
  exact iteF h
theorem iteNP {p : Prop} [Decidable p] (hp : p) (h : B) : if (!decide p) = true then A else B := by
  rw [decide_eq_true hp]
  exact iteF h
theorem iteNN {p : Prop} [Decidable p] (hp : ¬ p) (h : A) : if (!decide p) = true then A else B := by
  rw [decide_eq_false hp]
  exact iteT h
theorem iteB {b : Bool} (h1 : b = true → A) (h2 : b = false → B) : if b = true then A else B := by
  cases b with
  | true => exact iteT (h1 rfl)
  | false => exact iteF (h2 rfl)
end
def rLen2 (K : PySem.W.Frag) : List V → Hp → VK → Prop := fun xs H Q => ∃ p ys, xs = [.ref p] ∧ (SqL K H p ys ∨ SqT K H p ys) ∧ Q (.int ys.length) H
theorem lc_yes {σ : L2.St} {H : Hp} {A B : Hp → Prop} (h : A H) : tYes σ H fun b H3 => if b = true then A H3 else B H3 := by
  show if true = true then A H else B H
  rw [if_pos rfl]
  exact h
/-- if t: .. where t is not so, in whatever way it is told -/
theorem if_no {T : TT} {R U : TS} {D : Ends} {σ : L2.St} {H H' : Hp} (hT : ∀ r : Bool → Hp → Prop, r false H' → T σ H r) (hU : U D σ H') : tSeq (tIfS T R tNext) U D σ H :=
  hT _ (by
    show if false = true then _ else _
    exact iteF hU)
theorem tn {D : Ends} {σ : L2.St} {H : Hp} (h : D.nx σ H) : tNext D σ H := h
theorem mul_in {x y A B : Int} (hx : 0 ≤ x) (ha : x ≤ A) (hy : 0 ≤ y) (hb : y ≤ B) : 0 ≤ x * y ∧ x * y ≤ A * B :=
  ⟨Int.mul_nonneg hx hy, Int.le_trans (Int.mul_le_mul_of_nonneg_left hb hx) (Int.mul_le_mul_of_nonneg_right ha (Int.le_trans hy hb))⟩
/-- go on from a word -/
theorem enter {t : TS} {D : Ends} {σ : L2.St} {H : Hp} (M : L2.St → Hp → Prop) (h : M σ H) (k : ∀ σ H, M σ H → t D σ H) : t D σ H := k σ H h
theorem size4 {n : Nat} (h : n ≤ 1000000) : n ≤ sizeLine := Nat.le_trans h (by decide)
end BF

/-! Plain mathematics: a size as a sum of two others, the fewest of the first one. -/
namespace BF
/-- m of the first and n of the second make the size -/
def Rep (s a b m n : Int) : Prop := 0 ≤ m ∧ 0 ≤ n ∧ m * a + n * b = s
def IsParts (s a b : Int) : Option (Int × Int) → Prop
  | none => ∀ m n, ¬ Rep s a b m n
  | some x => Rep s a b x.1 x.2 ∧ ∀ m n, Rep s a b m n → x.1 ≤ m
theorem IsParts.unique {s a b : Int} (hb : 0 < b) : ∀ {x y : Option (Int × Int)}, IsParts s a b x → IsParts s a b y → x = y
  | none, none, _, _ => rfl
  | none, some y, h, k => absurd k.1 (h _ _)
  | some x, none, h, k => absurd h.1 (k _ _)
  | some (m, n), some (m', n'), h, k => by
    have h1 := h.2 _ _ k.1
    have h2 := k.2 _ _ h.1
    have e : m = m' := Int.le_antisymm h1 h2
    subst e
    have e1 := h.1.2.2
    have e2 := k.1.2.2
    simp only at e1 e2
    have e3 : n * b = n' * b := by omega
    have e4 : n = n' := Int.eq_of_mul_eq_mul_right (Int.ne_of_gt hb) e3
    rw [e4]
open Classical in
/-- how s is a sum of a and b -/
noncomputable def parts (s a b : Int) : Option (Int × Int) := if h : ∃ x, IsParts s a b x then h.choose else none
theorem parts_eq {s a b : Int} {x : Option (Int × Int)} (hb : 0 < b) (h : IsParts s a b x) : parts s a b = x := by
  unfold parts
  have e : ∃ x, IsParts s a b x := ⟨x, h⟩
  rw [dif_pos e]
  exact IsParts.unique hb e.choose_spec h
/-- g goes into both, t of the first leave it by the second -/
structure Good (a b g t : Int) : Prop where
  pos : 0 < g
  ga : g ∣ a
  gb : g ∣ b
  mod : b ∣ t * a - g
theorem few_core {s a b g t : Int} (ha : 0 < a) (hb : 0 < b) (G : Good a b g t) (hs : g ∣ s) :
    b ∣ s - (s / g * t % (b / g)) * a ∧ 0 ≤ s / g * t % (b / g) ∧ ∀ m, 0 ≤ m → b ∣ s - m * a → s / g * t % (b / g) ≤ m := by
  obtain ⟨hg, ⟨a', ea⟩, ⟨b', eb⟩, ⟨k, ek⟩⟩ := G
  obtain ⟨s', es⟩ := hs
  have hb' : 0 < b' := by
    have h2 : 0 < g * b' := by rw [← eb]; exact hb
    rcases Int.lt_or_le 0 b' with h | h
    · exact h
    · have h3 : g * b' ≤ g * 0 := Int.mul_le_mul_of_nonneg_left h (Int.le_of_lt hg)
      omega
  have e1 : s / g = s' := by rw [es]; exact Int.mul_ediv_cancel_left s' (Int.ne_of_gt hg)
  have e2 : b / g = b' := by rw [eb]; exact Int.mul_ediv_cancel_left b' (Int.ne_of_gt hg)
  rw [e1, e2]
  have hmod := Int.emod_add_mul_ediv (s' * t) b'
  generalize hf : s' * t % b' = f at hmod ⊢
  generalize s' * t / b' = q at hmod
  have h0 : 0 ≤ f := by rw [← hf]; exact Int.emod_nonneg _ (Int.ne_of_gt hb')
  have h1 : f < b' := by rw [← hf]; exact Int.emod_lt_of_pos _ hb'
  have key : b ∣ s - f * a := by
    -- f = s't - b'q, so s - f a = s - s't a + b' q a = s - s'(g + bk) + b'q g a' = b (q a' - s' k)
    refine ⟨q * a' - s' * k, ?_⟩
    have ef : f = s' * t - b' * q := by omega
    have et : t * a = g + b * k := by omega
    calc s - f * a = s - (s' * t - b' * q) * a := by rw [ef]
      _ = s - s' * (t * a) + b' * q * a := by rw [Int.sub_mul, Int.mul_assoc s' t a]; omega
      _ = s - s' * (g + b * k) + b' * q * (g * a') := by rw [et, ← ea]
      _ = b * (q * a' - s' * k) := by
        rw [Int.mul_add, Int.mul_sub, es, eb]
        have x1 : s' * g = g * s' := Int.mul_comm _ _
        have x2 : s' * (g * b' * k) = g * b' * (s' * k) := by
          rw [Int.mul_left_comm]
        have x3 : b' * q * (g * a') = g * b' * (q * a') := by
          rw [Int.mul_comm g b', Int.mul_assoc b' q, Int.mul_assoc b' g, Int.mul_left_comm q g a']
        rw [x1, x2, x3]
        omega
  refine ⟨key, h0, fun m hm hd => ?_⟩
  -- b | (m - f) a, so b | (m - f) g, so b' | m - f
  have d1 : b ∣ (m - f) * a := by
    have : (m - f) * a = (s - f * a) - (s - m * a) := by rw [Int.sub_mul]; omega
    rw [this]
    exact Int.dvd_sub key hd
  have d2 : b ∣ (m - f) * g := by
    have e3 : (m - f) * g = (m - f) * a * t - b * ((m - f) * k) := by
      have et : t * a = g + b * k := by omega
      have : (m - f) * a * t = (m - f) * (t * a) := by rw [Int.mul_assoc, Int.mul_comm a t]
      rw [this, et, Int.mul_add, Int.mul_left_comm (m - f) b k]
      omega
    rw [e3]
    exact Int.dvd_sub (Int.dvd_trans d1 (Int.dvd_mul_right _ _)) (Int.dvd_mul_right _ _)
  have d3 : b' ∣ m - f := by
    obtain ⟨c, ec⟩ := d2
    refine ⟨c, ?_⟩
    have : g * (m - f) = g * (b' * c) := by rw [Int.mul_comm g (m - f), ec, eb, Int.mul_assoc]
    exact Int.eq_of_mul_eq_mul_left (Int.ne_of_gt hg) this
  obtain ⟨c, ec⟩ := d3
  -- m = f + b' c with m ≥ 0, f < b': c ≥ 0
  have hc : 0 ≤ c := by
    rcases Int.lt_or_le c 0 with hc | hc
    · have h2 : b' * c ≤ b' * (-1) := Int.mul_le_mul_of_nonneg_left (by omega) (Int.le_of_lt hb')
      omega
    · exact hc
  have h3 : 0 ≤ b' * c := Int.mul_nonneg (Int.le_of_lt hb') hc
  omega
theorem parts_good {s a b g t : Int} (ha : 0 < a) (hb : 0 < b) (G : Good a b g t) :
    parts s a b = if s % g ≠ 0 then none else if s / g * t % (b / g) * a > s then none else some (s / g * t % (b / g), (s - s / g * t % (b / g) * a) / b) := by
  refine parts_eq hb ?_
  by_cases hs : s % g ≠ 0
  · rw [if_pos hs]
    rintro m n ⟨_, _, e⟩
    refine hs (Int.emod_eq_zero_of_dvd ?_)
    rw [← e]
    exact Int.dvd_add (Int.dvd_trans G.ga (Int.dvd_mul_left _ _)) (Int.dvd_trans G.gb (Int.dvd_mul_left _ _))
  · rw [if_neg hs]
    have hd : g ∣ s := Int.dvd_of_emod_eq_zero (by omega)
    obtain ⟨k1, k2, k3⟩ := few_core ha hb G hd
    generalize s / g * t % (b / g) = f at k1 k2 k3
    have least : ∀ m n, Rep s a b m n → f ≤ m := fun m n ⟨h1, h2, h3⟩ => k3 m h1 ⟨n, by rw [Int.mul_comm b n]; omega⟩
    by_cases hf : f * a > s
    · rw [if_pos hf]
      rintro m n R
      have l := least m n R
      obtain ⟨h1, h2, h3⟩ := R
      have p1 : f * a ≤ m * a := Int.mul_le_mul_of_nonneg_right l (Int.le_of_lt ha)
      have p2 : 0 ≤ n * b := Int.mul_nonneg h2 (Int.le_of_lt hb)
      omega
    · rw [if_neg hf]
      refine ⟨⟨k2, Int.ediv_nonneg (by omega) (Int.le_of_lt hb), ?_⟩, least⟩
      show f * a + (s - f * a) / b * b = s
      rw [Int.ediv_mul_cancel k1]
      omega
/-- the law's number: the fewest of the first, -1 where there is none -/
def fewI : Option (Int × Int) → Int
  | none => -1
  | some x => x.1
theorem parts_some {s a b m n : Int} (hb : 0 < b) (h : parts s a b = some (m, n)) (ex : ∃ x, IsParts s a b x) : IsParts s a b (some (m, n)) := by
  obtain ⟨x, hx⟩ := ex
  have e := parts_eq hb hx
  rw [h] at e
  rw [e]
  exact hx
end BF

/-! ### plain mathematics of the loop in shared -/
namespace BF
structure ShInv (a b one other mine theirs : Int) : Prop where
  o1 : 0 < one
  o2 : 0 ≤ other
  l1 : one ≤ a ∨ one ≤ b
  l2 : other ≤ b
  dv : ∀ d : Int, (d ∣ one ∧ d ∣ other) ↔ (d ∣ a ∧ d ∣ b)
  m1 : b ∣ mine * a - one
  m2 : b ∣ theirs * a - other
  bd : ∃ M T : Int, 0 ≤ M ∧ 0 ≤ T ∧ M ≤ b ∧ T ≤ b ∧ T * one + M * other = b ∧ ((mine = M ∧ theirs = -T) ∨ (mine = -M ∧ theirs = T))
theorem ShInv.start {a b : Int} (ha : 0 < a) (hb : 0 < b) : ShInv a b a b 1 0 where
  o1 := ha
  o2 := Int.le_of_lt hb
  l1 := .inl (Int.le_refl _)
  l2 := Int.le_refl _
  dv := fun d => Iff.rfl
  m1 := by rw [Int.one_mul, Int.sub_self]; exact Int.dvd_zero b
  m2 := by rw [Int.zero_mul, Int.zero_sub]; exact Int.dvd_neg.mpr (Int.dvd_refl b)
  bd := ⟨1, 0, by omega, by omega, by omega, by omega, by omega, .inl ⟨rfl, by omega⟩⟩
theorem ShInv.turn {a b one other mine theirs : Int} (h : ShInv a b one other mine theirs) (ho : 0 < other) :
    ShInv a b other (one - one / other * other) theirs (mine - one / other * theirs) ∧ one - one / other * other < other ∧ 0 ≤ one - one / other * other := by
  obtain ⟨o1, o2, l1, l2, dv, m1, m2, M, T, hM, hT, lM, lT, e, sg⟩ := h
  have hm : one - one / other * other = one % other := by
    have := Int.emod_add_mul_ediv one other
    rw [Int.mul_comm] at this
    omega
  have h0 : 0 ≤ one % other := Int.emod_nonneg _ (Int.ne_of_gt ho)
  have h1 : one % other < other := Int.emod_lt_of_pos _ ho
  have hq : 0 ≤ one / other := Int.ediv_nonneg (Int.le_of_lt o1) o2
  refine ⟨?_, by omega, by omega⟩
  generalize hqq : one / other = q at *
  have key : (M + q * T) * other + T * (one - q * other) = b := by
    have x1 : (M + q * T) * other = M * other + q * T * other := Int.add_mul _ _ _
    have x2 : T * (one - q * other) = T * one - q * T * other := by rw [Int.mul_sub, ← Int.mul_assoc, Int.mul_comm T q]
    omega
  have hqT : 0 ≤ q * T := Int.mul_nonneg hq hT
  have hn : 0 ≤ T * (one - q * other) := Int.mul_nonneg hT (by omega)
  have l3 : M + q * T ≤ b := by
    have : (M + q * T) * 1 ≤ (M + q * T) * other := Int.mul_le_mul_of_nonneg_left (by omega) (by omega)
    omega
  refine ⟨ho, by omega, .inr l2, by omega, fun d => ?_, m2, ?_, T, M + q * T, hT, by omega, lT, l3, key, ?_⟩
  · rw [← dv d]
    constructor
    · rintro ⟨a1, a2⟩
      refine ⟨?_, a1⟩
      have : one = (one - q * other) + q * other := by omega
      rw [this]
      exact Int.dvd_add a2 (Int.dvd_trans a1 (Int.dvd_mul_left _ _))
    · rintro ⟨a1, a2⟩
      exact ⟨a2, Int.dvd_sub a1 (Int.dvd_trans a2 (Int.dvd_mul_left _ _))⟩
  · have : (mine - q * theirs) * a - (one - q * other) = (mine * a - one) - q * (theirs * a - other) := by
      rw [Int.sub_mul, Int.mul_sub, Int.mul_assoc]
      omega
    rw [this]
    exact Int.dvd_sub m1 (Int.dvd_trans m2 (Int.dvd_mul_left _ _))
  · rcases sg with ⟨r1, r2⟩ | ⟨r1, r2⟩
    · right
      subst r1 r2
      refine ⟨rfl, ?_⟩
      rw [Int.mul_neg]
      omega
    · left
      subst r1 r2
      exact ⟨rfl, by omega⟩
theorem ShInv.done {a b one mine theirs : Int} (ha : 0 < a) (hb : 0 < b) (h : ShInv a b one 0 mine theirs) : Good a b one (mine % b) ∧ one ≤ b := by
  have d := (h.dv one).mp ⟨Int.dvd_refl _, Int.dvd_zero _⟩
  refine ⟨⟨h.o1, d.1, d.2, ?_⟩, Int.le_of_dvd hb d.2⟩
  have e : mine % b * a - one = (mine * a - one) - b * (mine / b * a) := by
    have := Int.emod_add_mul_ediv mine b
    have x : mine % b = mine - b * (mine / b) := by omega
    rw [x, Int.sub_mul, Int.mul_assoc]
    omega
  rw [e]
  exact Int.dvd_sub h.m1 (Int.dvd_mul_right _ _)
theorem ShInv.theirs_le {a b one other mine theirs : Int} (h : ShInv a b one other mine theirs) : theirs.natAbs ≤ b.natAbs ∧ mine.natAbs ≤ b.natAbs := by
  obtain ⟨M, T, hM, hT, lM, lT, _, sg⟩ := h.bd
  rcases sg with ⟨r1, r2⟩ | ⟨r1, r2⟩ <;> (subst r1 r2; omega)
end BF

/-! ### plain mathematics of the law's own reckoning: the divisions' rows, and the way back -/
namespace BF
/-- rows: the quotients of the divisions that begin at one, other -/
inductive Eu : Int → Int → List Int → Prop where
  | nil {one : Int} (h : 0 < one) : Eu one 0 []
  | cons {one other : Int} {r : List Int} (h1 : 0 < one) (h2 : 0 < other) (h : Eu other (one % other) r) : Eu one other (one / other :: r)
def back : List Int → Int × Int
  | [] => (1, 0)
  | q :: r => ((back r).2, (back r).1 - q * (back r).2)
theorem Eu.pos : ∀ {one other : Int} {r : List Int}, Eu one other r → 0 < one ∧ 0 ≤ other
  | _, _, _, .nil h => ⟨h, Int.le_refl _⟩
  | _, _, _, .cons h1 h2 _ => ⟨h1, Int.le_of_lt h2⟩
theorem Eu.back : ∀ {one other : Int} {r : List Int}, Eu one other r → ∃ g, 0 < g ∧ (∀ d : Int, d ∣ g ↔ d ∣ one ∧ d ∣ other) ∧ (back r).1 * one + (back r).2 * other = g ∧ (r ≠ [] → (BF.back r).1.natAbs ≤ other.natAbs ∧ (BF.back r).2.natAbs ≤ one.natAbs)
  | _, _, _, .nil (one := one) h => by
    refine ⟨one, h, fun d => ⟨fun e => ⟨e, Int.dvd_zero d⟩, fun e => e.1⟩, ?_, fun z => absurd rfl z⟩
    show (1 : Int) * one + 0 * 0 = one
    omega
  | _, _, _, .cons (one := one) (other := other) (r := r) h1 h2 h => by
    obtain ⟨g, hg, dv, e, bd⟩ := Eu.back h
    have hm := Int.emod_add_mul_ediv one other
    have hq : 0 ≤ one / other := Int.ediv_nonneg (Int.le_of_lt h1) (Int.le_of_lt h2)
    have hr0 : 0 ≤ one % other := Int.emod_nonneg _ (Int.ne_of_gt h2)
    refine ⟨g, hg, fun d => ?_, ?_, fun _ => ?_⟩
    · rw [dv d]
      constructor
      · rintro ⟨a1, a2⟩
        refine ⟨?_, a1⟩
        rw [← hm]
        exact Int.dvd_add a2 (Int.dvd_trans a1 (Int.dvd_mul_right _ _))
      · rintro ⟨a1, a2⟩
        refine ⟨a2, ?_⟩
        have : one % other = one - other * (one / other) := by omega
        rw [this]
        exact Int.dvd_sub a1 (Int.dvd_trans a2 (Int.dvd_mul_right _ _))
    · show (BF.back r).2 * one + ((BF.back r).1 - one / other * (BF.back r).2) * other = g
      generalize (BF.back r).1 = m at *
      generalize (BF.back r).2 = t at *
      generalize one / other = q at *
      have x1 : (m - q * t) * other = m * other - t * (other * q) := by
        rw [Int.sub_mul, Int.mul_comm q t, Int.mul_assoc, Int.mul_comm q other]
      have x2 : t * one = t * (one % other) + t * (other * q) := by rw [← Int.mul_add, hm]
      omega
    · show (BF.back r).2.natAbs ≤ other.natAbs ∧ ((BF.back r).1 - one / other * (BF.back r).2).natAbs ≤ one.natAbs
      cases r with
      | nil =>
        show (0 : Int).natAbs ≤ other.natAbs ∧ ((1 : Int) - one / other * 0).natAbs ≤ one.natAbs
        omega
      | cons q' r' =>
        obtain ⟨b1, b2⟩ := bd (by simp)
        refine ⟨b2, ?_⟩
        generalize (BF.back (q' :: r')).1 = m at *
        generalize (BF.back (q' :: r')).2 = t at *
        have x3 : (one / other * t).natAbs ≤ (other * (one / other)).natAbs := by
          rw [Int.natAbs_mul, Int.natAbs_mul, Nat.mul_comm other.natAbs]
          exact Nat.mul_le_mul_left _ b2
        have x4 : 0 ≤ other * (one / other) := Int.mul_nonneg (Int.le_of_lt h2) hq
        omega
theorem Eu.drop {B : Int} : ∀ {one other : Int} {r : List Int}, Eu one other r → one ≤ B → other ≤ B → ∀ k, k ≤ r.length → ∃ x y, Eu x y (r.drop k) ∧ x ≤ B ∧ y ≤ B
  | _, _, _, .nil h, l1, l2, k, hk => ⟨_, _, by rw [List.drop_nil]; exact .nil h, l1, l2⟩
  | _, _, _, .cons h1 h2 h, l1, l2, 0, _ => ⟨_, _, .cons h1 h2 h, l1, l2⟩
  | _, _, _, .cons (one := one) (other := other) h1 h2 h, l1, l2, k + 1, hk => by
    have h3 : one % other < other := Int.emod_lt_of_pos _ h2
    exact Eu.drop h l2 (by omega) k (by simpa using hk)
theorem emod_le_self {x y : Int} (h : 0 < x) (hy : 0 < y) : x % y ≤ x := by
  have hm := Int.emod_add_mul_ediv x y
  have hq : 0 ≤ x / y := Int.ediv_nonneg (Int.le_of_lt h) (Int.le_of_lt hy)
  have : 0 ≤ y * (x / y) := Int.mul_nonneg (Int.le_of_lt hy) hq
  omega
/-- the loop that gathers the rows -/
structure FwInv (a b : Int) (rows : List Int) (one other : Int) : Prop where
  o1 : 0 < one
  o2 : 0 ≤ other
  l1 : one ≤ a ∨ one ≤ b
  l2 : other ≤ b
  go : ∀ r, Eu one other r → Eu a b (rows ++ r)
  less : rows ≠ [] → other < one
  fst : rows = [] → one = a ∧ other = b
  len : one * other * 2 ^ rows.length ≤ 2 * (a * b)
theorem FwInv.start {a b : Int} (ha : 0 < a) (hb : 0 < b) : FwInv a b [] a b where
  o1 := ha
  o2 := Int.le_of_lt hb
  l1 := .inl (Int.le_refl _)
  l2 := Int.le_refl _
  go := fun r h => h
  less := fun z => absurd rfl z
  fst := fun _ => ⟨rfl, rfl⟩
  len := by
    have : 0 < a * b := Int.mul_pos ha hb
    show a * b * 1 ≤ 2 * (a * b)
    omega
theorem FwInv.turn {a b one other : Int} {rows : List Int} (h : FwInv a b rows one other) (ho : 0 < other) : FwInv a b (rows ++ [one / other]) other (one % other) := by
  obtain ⟨o1, o2, l1, l2, go, less, fst, len⟩ := h
  have h0 : 0 ≤ one % other := Int.emod_nonneg _ (Int.ne_of_gt ho)
  have h1 : one % other < other := Int.emod_lt_of_pos _ ho
  refine ⟨ho, h0, .inr l2, by omega, fun r hr => ?_, fun _ => h1, fun z => by simp at z, ?_⟩
  · rw [List.append_assoc]
    exact go _ (.cons o1 ho hr)
  · rw [List.length_append, List.length_singleton, Int.pow_succ]
    have hp : (0 : Int) ≤ 2 ^ rows.length := Int.pow_nonneg (by decide)
    cases rows with
    | nil =>
      show other * (one % other) * (1 * 2) ≤ 2 * (a * b)
      obtain ⟨e1, e2⟩ := fst rfl
      subst e1 e2
      have x : other * (one % other) ≤ other * one := Int.mul_le_mul_of_nonneg_left (emod_le_self o1 ho) o2
      rw [Int.mul_comm other one] at x
      omega
    | cons q r =>
      have hl := less (by simp)
      have x : 2 * (one % other) ≤ one := by
        have hm := Int.emod_add_mul_ediv one other
        have hq : 1 ≤ one / other := by
          rcases Int.lt_or_le (one / other) 1 with c | c
          · have : other * (one / other) ≤ other * 0 := Int.mul_le_mul_of_nonneg_left (by omega) o2
            omega
          · exact c
        have : other * 1 ≤ other * (one / other) := Int.mul_le_mul_of_nonneg_left hq o2
        omega
      have y : other * (one % other) * ((2 : Int) ^ (q :: r).length * 2) = (other * (2 * (one % other))) * 2 ^ (q :: r).length := by
        rw [Int.mul_comm ((2 : Int) ^ (q :: r).length) 2, ← Int.mul_assoc, Int.mul_assoc other, Int.mul_comm (one % other) 2]
      rw [y]
      refine Int.le_trans (Int.mul_le_mul_of_nonneg_right ?_ hp) len
      rw [Int.mul_comm one other]
      exact Int.mul_le_mul_of_nonneg_left x o2
theorem two_pow_cast (n : Nat) : ((2 ^ n : Nat) : Int) = (2 : Int) ^ n := by
  rw [Int.natCast_pow]
  rfl
/-- at most 4001 rows -/
theorem FwInv.few {a b one other : Int} {rows : List Int} (h : FwInv a b rows one other) (ho : 0 < other) (ha : a.natAbs < 2 ^ 2000) (hb : b.natAbs < 2 ^ 2000) : rows.length ≤ 4001 := by
  have e := h.len
  have h1 : 1 ≤ one * other := Int.mul_pos h.o1 ho
  have hp : (0 : Int) ≤ 2 ^ rows.length := by
    rw [← two_pow_cast]
    exact Int.natCast_nonneg _
  have h2 : (1 : Int) * 2 ^ rows.length ≤ one * other * 2 ^ rows.length := Int.mul_le_mul_of_nonneg_right h1 hp
  have h3 : (a * b).natAbs < 2 ^ 4000 := by
    rw [Int.natAbs_mul, show (4000 : Nat) = 2000 + 2000 from rfl, Nat.pow_add]
    exact Nat.mul_lt_mul'' ha hb
  have h4 : ((2 ^ rows.length : Nat) : Int) ≤ 2 * (a * b) := by
    rw [two_pow_cast]
    omega
  have h5 : 2 ^ rows.length < 2 ^ 4001 := by
    rw [show (4001 : Nat) = 4000 + 1 from rfl, Nat.pow_succ]
    generalize 2 ^ 4000 = Z at *
    generalize 2 ^ rows.length = Y at *
    omega
  have h6 : rows.length < 4001 := (Nat.pow_lt_pow_iff_right (by decide)).mp h5
  omega
/-- the law's way back gives what the program's way gives -/
theorem few_back {s a b g g2 : Int} {rows : List Int} (hs : 0 < s) (ha : 0 < a) (hb : 0 < b) (hg : 0 < g) (dg : ∀ d : Int, d ∣ g ↔ d ∣ a ∧ d ∣ b) (E : Eu (a / g) (b / g) rows) (hz : s % g = 0) :
    fewI (parts s a b) = if s / g * (back rows).1 % (b / g) * (a / g) ≤ s / g then s / g * (back rows).1 % (b / g) else -1 := by
  obtain ⟨da, db⟩ := (dg g).mp (Int.dvd_refl g)
  obtain ⟨a', ea⟩ := da
  obtain ⟨b', eb⟩ := db
  obtain ⟨s', es⟩ := Int.dvd_of_emod_eq_zero hz
  have e1 : s / g = s' := by rw [es]; exact Int.mul_ediv_cancel_left s' (Int.ne_of_gt hg)
  have e2 : b / g = b' := by rw [eb]; exact Int.mul_ediv_cancel_left b' (Int.ne_of_gt hg)
  have e3 : a / g = a' := by rw [ea]; exact Int.mul_ediv_cancel_left a' (Int.ne_of_gt hg)
  rw [e2, e3] at E
  obtain ⟨h, hh, dh, eh, _⟩ := E.back
  have h1 : h = 1 := by
    obtain ⟨x1, x2⟩ := (dh h).mp (Int.dvd_refl h)
    have d1 : g * h ∣ g := (dg _).mpr ⟨by rw [ea]; exact Int.mul_dvd_mul_left g x1, by rw [eb]; exact Int.mul_dvd_mul_left g x2⟩
    have l1 := Int.le_of_dvd hg d1
    rcases Int.lt_or_le 1 h with c | c
    · have : g * 2 ≤ g * h := Int.mul_le_mul_of_nonneg_left (by omega) (Int.le_of_lt hg)
      omega
    · omega
  have G : Good a b g (back rows).1 := by
    refine ⟨hg, ⟨a', ea⟩, ⟨b', eb⟩, -(back rows).2, ?_⟩
    rw [h1] at eh
    generalize (back rows).1 = m at *
    generalize (back rows).2 = t at *
    have x1 : m * a = g * (m * a') := by rw [ea, Int.mul_left_comm]
    have x2 : b * -t = -(g * (t * b')) := by rw [Int.mul_neg, eb, Int.mul_assoc, Int.mul_comm b' t]
    have x3 : g * (m * a' + t * b') = g * 1 := by rw [eh]
    rw [Int.mul_add] at x3
    omega
  rw [parts_good ha hb G, if_neg (by simp [hz]), e1, e2, e3]
  have key : (s' * (back rows).1 % b' * a > s) ↔ ¬ (s' * (back rows).1 % b' * a' ≤ s') := by
    generalize s' * (back rows).1 % b' = f
    have x : f * a = g * (f * a') := by rw [ea, Int.mul_left_comm]
    rw [x, es]
    constructor
    · intro q z
      have := Int.mul_le_mul_of_nonneg_left z (Int.le_of_lt hg)
      omega
    · intro q
      have := Int.mul_lt_mul_of_pos_left (show s' < f * a' by omega) hg
      omega
  by_cases c : s' * (back rows).1 % b' * a' ≤ s'
  · rw [if_neg (fun z => key.mp z c), if_pos c]
    rfl
  · rw [if_pos (key.mpr c), if_neg c]
    rfl
theorem few_none {s a b g : Int} (hb : 0 < b) (dg : ∀ d : Int, d ∣ g ↔ d ∣ a ∧ d ∣ b) (hz : s % g ≠ 0) : fewI (parts s a b) = -1 := by
  have e : parts s a b = none := parts_eq hb (x := none) (by
    rintro m n ⟨_, _, e⟩
    obtain ⟨x1, x2⟩ := (dg g).mp (Int.dvd_refl g)
    refine hz (Int.emod_eq_zero_of_dvd ?_)
    rw [← e]
    exact Int.dvd_add (Int.dvd_trans x1 (Int.dvd_mul_left _ _)) (Int.dvd_trans x2 (Int.dvd_mul_left _ _)))
  rw [e]
  rfl
end BF

/-! ### there is always an answer; a search among few -/
namespace BF
theorem eu_ex : ∀ (n : Nat) (a b : Int), 0 < a → 0 ≤ b → b.toNat ≤ n → ∃ rows, Eu a b rows
  | 0, a, b, ha, hb, h => by
    have e : b = 0 := by omega
    subst e
    exact ⟨[], .nil ha⟩
  | n + 1, a, b, ha, hb, h => by
    rcases Int.lt_or_le 0 b with c | c
    · have h0 : 0 ≤ a % b := Int.emod_nonneg _ (Int.ne_of_gt c)
      have h1 : a % b < b := Int.emod_lt_of_pos _ c
      obtain ⟨r, hr⟩ := eu_ex n b (a % b) c h0 (by omega)
      exact ⟨_, .cons ha c hr⟩
    · have e : b = 0 := by omega
      subst e
      exact ⟨[], .nil ha⟩
theorem good_ex {a b : Int} (ha : 0 < a) (hb : 0 < b) : ∃ g t, Good a b g t := by
  obtain ⟨rows, E⟩ := eu_ex _ a b ha (Int.le_of_lt hb) (Nat.le_refl _)
  obtain ⟨g, hg, dv, e, _⟩ := E.back
  obtain ⟨d1, d2⟩ := (dv g).mp (Int.dvd_refl g)
  refine ⟨g, (back rows).1, hg, d1, d2, -(back rows).2, ?_⟩
  rw [Int.mul_neg, Int.mul_comm b]
  omega
theorem parts_is {s a b : Int} (ha : 0 < a) (hb : 0 < b) : IsParts s a b (parts s a b) := by
  obtain ⟨g, t, G⟩ := good_ex ha hb
  have ex : ∃ x, IsParts s a b x := by
    by_cases hs : s % g ≠ 0
    · refine ⟨none, ?_⟩
      rintro m n ⟨_, _, e⟩
      refine hs (Int.emod_eq_zero_of_dvd ?_)
      rw [← e]
      exact Int.dvd_add (Int.dvd_trans G.ga (Int.dvd_mul_left _ _)) (Int.dvd_trans G.gb (Int.dvd_mul_left _ _))
    · have hd : g ∣ s := Int.dvd_of_emod_eq_zero (by omega)
      obtain ⟨k1, k2, k3⟩ := few_core ha hb G hd
      generalize s / g * t % (b / g) = f at k1 k2 k3
      have least : ∀ m n, Rep s a b m n → f ≤ m := fun m n ⟨h1, h2, h3⟩ => k3 m h1 ⟨n, by rw [Int.mul_comm b n]; omega⟩
      by_cases hf : f * a > s
      · refine ⟨none, ?_⟩
        rintro m n R
        have l := least m n R
        obtain ⟨h1, h2, h3⟩ := R
        have p1 : f * a ≤ m * a := Int.mul_le_mul_of_nonneg_right l (Int.le_of_lt ha)
        have p2 : 0 ≤ n * b := Int.mul_nonneg h2 (Int.le_of_lt hb)
        omega
      · refine ⟨some (f, (s - f * a) / b), ⟨k2, Int.ediv_nonneg (by omega) (Int.le_of_lt hb), ?_⟩, least⟩
        show f * a + (s - f * a) / b * b = s
        rw [Int.ediv_mul_cancel k1]
        omega
  obtain ⟨x, hx⟩ := ex
  rw [parts_eq hb hx]
  exact hx
theorem few_neg {s a b : Int} (ha : 0 < a) (hb : 0 < b) : fewI (parts s a b) < 0 ↔ parts s a b = none := by
  have h := parts_is (s := s) ha hb
  cases e : parts s a b with
  | none => simp [fewI]
  | some x =>
    rw [e] at h
    have := h.1.1
    simp only [fewI, reduceCtorEq, iff_false]
    omega
/-- the counts of the first below n that leave a multiple of the second -/
def hits (s a b : Int) (n : Nat) : List Int := ((List.range n).filter (fun m : Nat => decide ((s - (m : Int) * a) % b = 0))).map (fun m : Nat => (m : Int))
theorem hits_succ (s a b : Int) (n : Nat) : hits s a b (n + 1) = hits s a b n ++ (if (s - (n : Int) * a) % b = 0 then [(n : Int)] else []) := by
  unfold hits
  rw [List.range_succ, List.filter_append, List.map_append]
  congr 1
  by_cases c : (s - (n : Int) * a) % b = 0
  · rw [if_pos c]
    simp [List.filter_cons, c]
  · rw [if_neg c]
    simp [List.filter_cons, c]
theorem hits_len (s a b : Int) (n : Nat) : (hits s a b n).length ≤ n := by
  unfold hits
  rw [List.length_map]
  exact Nat.le_trans (List.length_filter_le _ _) (by rw [List.length_range]; exact Nat.le_refl _)
theorem hits_few {s a b : Int} (hs : 0 < s) (ha : 0 < a) (hb : 0 < b) : (hits s a b (s / a + 1).toNat ++ [-1])[0]? = some (fewI (parts s a b)) := by
  have hq : 0 ≤ s / a := Int.ediv_nonneg (Int.le_of_lt hs) (Int.le_of_lt ha)
  have hm := Int.emod_add_mul_ediv s a
  have hr := Int.emod_nonneg s (Int.ne_of_gt ha)
  have rep : ∀ m : Nat, m < (s / a + 1).toNat → (s - (m : Int) * a) % b = 0 → Rep s a b m ((s - (m : Int) * a) / b) := fun m hl hz => by
    have l1 : (m : Int) ≤ s / a := by omega
    have l2 : a * (m : Int) ≤ a * (s / a) := Int.mul_le_mul_of_nonneg_left l1 (Int.le_of_lt ha)
    rw [Int.mul_comm a (m : Int)] at l2
    refine ⟨Int.natCast_nonneg m, Int.ediv_nonneg (by omega) (Int.le_of_lt hb), ?_⟩
    rw [Int.ediv_mul_cancel (Int.dvd_of_emod_eq_zero hz)]
    omega
  have h := parts_is (s := s) ha hb
  cases e : parts s a b with
  | none =>
    rw [e] at h
    have e0 : hits s a b (s / a + 1).toNat = [] := by
      unfold hits
      rw [List.filter_eq_nil_iff.mpr fun m hm2 => ?_]
      · rfl
      · intro z
        exact h _ _ (rep m (List.mem_range.mp hm2) (of_decide_eq_true z))
    rw [e0]
    rfl
  | some x =>
    rw [e] at h
    obtain ⟨⟨h1, h2, h3⟩, least⟩ := h
    obtain ⟨m, n⟩ := x
    simp only at h1 h2 h3 least
    obtain ⟨k, rfl⟩ := Int.eq_ofNat_of_zero_le h1
    have n0 : 0 ≤ n * b := Int.mul_nonneg h2 (Int.le_of_lt hb)
    have kl : (k : Int) ≤ s / a := by
      rcases Int.lt_or_le (s / a) k with c | c
      · have hl := Int.emod_lt_of_pos s ha
        have : a * (s / a + 1) ≤ a * (k : Int) := Int.mul_le_mul_of_nonneg_left (by omega) (Int.le_of_lt ha)
        rw [Int.mul_add, Int.mul_one, Int.mul_comm a (k : Int)] at this
        omega
      · exact c
    have hf : (List.range (s / a + 1).toNat).find? (fun m : Nat => decide ((s - (m : Int) * a) % b = 0)) = some k := by
      rw [List.find?_range_eq_some]
      refine ⟨decide_eq_true ?_, List.mem_range.mpr (by omega), fun j hj => ?_⟩
      · have : s - (k : Int) * a = n * b := by omega
        rw [this]
        exact Int.mul_emod_left n b
      · rw [Bool.not_eq_true', decide_eq_false_iff_not]
        intro z
        have := least _ _ (rep j (by omega) z)
        omega
    have hh : (hits s a b (s / a + 1).toNat)[0]? = some (k : Int) := by
      unfold hits
      rw [List.getElem?_map, ← List.head?_eq_getElem?, List.head?_filter, hf]
      rfl
    rw [List.getElem?_append_left (by
      rw [List.getElem?_eq_some_iff] at hh
      exact hh.1), hh]
    rfl
end BF

namespace BF
open PySem PySem.Spec PyProof.Rows L2
def topS (i : Nat) : Stmt := PySem.Challenge.pw_brickfloor_k06_answers_by_hand.main.body.getD i (.Pass ⟨0, 0, 0, 0⟩)
abbrev s_is_number : Stmt := topS 1
abbrev s_shared : Stmt := topS 2
abbrev s_parts_of : Stmt := topS 3
abbrev s_is_striped : Stmt := topS 6
abbrev s_what_bars : Stmt := topS 7
abbrev s_Laid_shows : Stmt := inClass (topS 8) 0
abbrev s_Striped___init__ : Stmt := inClass (topS 9) 0
abbrev s_Striped_shows : Stmt := inClass (topS 9) 1
abbrev s_Short___init__ : Stmt := inClass (topS 10) 0
abbrev s_Short_shows : Stmt := inClass (topS 10) 1
abbrev s_cells_of : Stmt := topS 11
abbrev s_is_beyond : Stmt := topS 12
abbrev s_covers : Stmt := topS 13
abbrev s_is_cell : Stmt := topS 14
abbrev s_often : Stmt := topS 15
abbrev s_Full_shows : Stmt := inClass (topS 16) 0
abbrev s_Beyond___init__ : Stmt := inClass (topS 17) 0
abbrev s_Beyond_shows : Stmt := inClass (topS 17) 1
abbrev s_Twice___init__ : Stmt := inClass (topS 18) 0
abbrev s_Twice_shows : Stmt := inClass (topS 18) 1
abbrev s_Bare___init__ : Stmt := inClass (topS 19) 0
abbrev s_Bare_shows : Stmt := inClass (topS 19) 1
abbrev s__law_number : Stmt := topS 21
abbrev s__law_four : Stmt := topS 22
abbrev s__law_common : Stmt := topS 23
abbrev s__law_few : Stmt := topS 24
abbrev s__law_bars : Stmt := topS 25
abbrev s__law_sides : Stmt := topS 26
abbrev s__law_over : Stmt := topS 27
abbrev s__law_out : Stmt := topS 28
abbrev s__law_full : Stmt := topS 29
abbrev s__law_bricks : Stmt := topS 30
abbrev s__law_says : Stmt := topS 31
abbrev s__law_sides_right : Stmt := topS 32
abbrev s__law_cell_right : Stmt := topS 33
abbrev s_law : Stmt := topS 34
theorem sc_is_number : FnScope ["thing"] ["thing"] (defScope s_is_number) := ⟨rfl, rfl, rfl, by decide +kernel, rfl, by decide +kernel, by decide +kernel⟩
theorem sc_shared : FnScope ["one", "other", "mine", "theirs", "by", "often"] ["one", "other"] (defScope s_shared) := ⟨rfl, rfl, rfl, by decide +kernel, rfl, by decide +kernel, by decide +kernel⟩
theorem sc_parts_of : FnScope ["size", "first", "second", "by", "turned", "few"] ["size", "first", "second"] (defScope s_parts_of) := ⟨rfl, rfl, rfl, by decide +kernel, rfl, by decide +kernel, by decide +kernel⟩
theorem sc_is_striped : FnScope ["length", "width", "side"] ["length", "width", "side"] (defScope s_is_striped) := ⟨rfl, rfl, rfl, by decide +kernel, rfl, by decide +kernel, by decide +kernel⟩
theorem sc_what_bars : FnScope ["length", "width", "first", "second", "striped", "short", "which", "side"] ["length", "width", "first", "second"] (defScope s_what_bars) := ⟨rfl, rfl, rfl, by decide +kernel, rfl, by decide +kernel, by decide +kernel⟩
theorem sc_Laid_shows : FnScope ["self", "length", "width", "first", "second"] ["self", "length", "width", "first", "second"] (defScope s_Laid_shows) := ⟨rfl, rfl, rfl, by decide +kernel, rfl, by decide +kernel, by decide +kernel⟩
theorem sc_Striped___init__ : FnScope ["self", "which"] ["self", "which"] (defScope s_Striped___init__) := ⟨rfl, rfl, rfl, by decide +kernel, rfl, by decide +kernel, by decide +kernel⟩
theorem sc_Striped_shows : FnScope ["self", "length", "width", "first", "second"] ["self", "length", "width", "first", "second"] (defScope s_Striped_shows) := ⟨rfl, rfl, rfl, by decide +kernel, rfl, by decide +kernel, by decide +kernel⟩
theorem sc_Short___init__ : FnScope ["self", "which"] ["self", "which"] (defScope s_Short___init__) := ⟨rfl, rfl, rfl, by decide +kernel, rfl, by decide +kernel, by decide +kernel⟩
theorem sc_Short_shows : FnScope ["self", "length", "width", "first", "second"] ["self", "length", "width", "first", "second"] (defScope s_Short_shows) := ⟨rfl, rfl, rfl, by decide +kernel, rfl, by decide +kernel, by decide +kernel⟩
theorem sc_cells_of : FnScope ["first", "second", "brick", "long", "high", "found", "along", "up"] ["first", "second", "brick"] (defScope s_cells_of) := ⟨rfl, rfl, rfl, by decide +kernel, rfl, by decide +kernel, by decide +kernel⟩
theorem sc_is_beyond : FnScope ["length", "width", "first", "second", "brick", "long", "high"] ["length", "width", "first", "second", "brick"] (defScope s_is_beyond) := ⟨rfl, rfl, rfl, by decide +kernel, rfl, by decide +kernel, by decide +kernel⟩
theorem sc_covers : FnScope ["first", "second", "brick", "cell", "long", "high"] ["first", "second", "brick", "cell"] (defScope s_covers) := ⟨rfl, rfl, rfl, by decide +kernel, rfl, by decide +kernel, by decide +kernel⟩
theorem sc_is_cell : FnScope ["length", "width", "thing"] ["length", "width", "thing"] (defScope s_is_cell) := ⟨rfl, rfl, rfl, by decide +kernel, rfl, by decide +kernel, by decide +kernel⟩
theorem sc_often : FnScope ["first", "second", "bricks", "cell", "brick"] ["first", "second", "bricks", "cell"] (defScope s_often) := ⟨rfl, rfl, rfl, by decide +kernel, rfl, by decide +kernel, by decide +kernel⟩
theorem sc_Full_shows : FnScope ["self", "length", "width", "first", "second", "bricks", "seen", "brick", "cell"] ["self", "length", "width", "first", "second", "bricks"] (defScope s_Full_shows) := ⟨rfl, rfl, rfl, by decide +kernel, rfl, by decide +kernel, by decide +kernel⟩
theorem sc_Beyond___init__ : FnScope ["self", "count"] ["self", "count"] (defScope s_Beyond___init__) := ⟨rfl, rfl, rfl, by decide +kernel, rfl, by decide +kernel, by decide +kernel⟩
theorem sc_Beyond_shows : FnScope ["self", "length", "width", "first", "second", "bricks"] ["self", "length", "width", "first", "second", "bricks"] (defScope s_Beyond_shows) := ⟨rfl, rfl, rfl, by decide +kernel, rfl, by decide +kernel, by decide +kernel⟩
theorem sc_Twice___init__ : FnScope ["self", "cell"] ["self", "cell"] (defScope s_Twice___init__) := ⟨rfl, rfl, rfl, by decide +kernel, rfl, by decide +kernel, by decide +kernel⟩
theorem sc_Twice_shows : FnScope ["self", "length", "width", "first", "second", "bricks"] ["self", "length", "width", "first", "second", "bricks"] (defScope s_Twice_shows) := ⟨rfl, rfl, rfl, by decide +kernel, rfl, by decide +kernel, by decide +kernel⟩
theorem sc_Bare___init__ : FnScope ["self", "cell"] ["self", "cell"] (defScope s_Bare___init__) := ⟨rfl, rfl, rfl, by decide +kernel, rfl, by decide +kernel, by decide +kernel⟩
theorem sc_Bare_shows : FnScope ["self", "length", "width", "first", "second", "bricks"] ["self", "length", "width", "first", "second", "bricks"] (defScope s_Bare_shows) := ⟨rfl, rfl, rfl, by decide +kernel, rfl, by decide +kernel, by decide +kernel⟩
theorem sc__law_number : FnScope ["_law_cell", "_law_at", "_law_whole", "_law_mixed", "_law_more"] ["_law_cell", "_law_at", "_law_whole"] (defScope s__law_number) := ⟨rfl, rfl, rfl, by decide +kernel, rfl, by decide +kernel, by decide +kernel⟩
theorem sc__law_four : FnScope ["_law_script", "_law_at", "_law_most", "_law_whole", "_law_number_here", "_law_other", "_law_first", "_law_second", "_law_few_here", "_law_more", "_law_less", "_law_kind", "_law_length", "_law_width"] ["_law_script", "_law_at", "_law_most"] (defScope s__law_four) := ⟨rfl, rfl, rfl, by decide +kernel, rfl, by decide +kernel, by decide +kernel⟩
theorem sc__law_common : FnScope ["_law_one", "_law_other"] ["_law_one", "_law_other"] (defScope s__law_common) := ⟨rfl, rfl, rfl, by decide +kernel, rfl, by decide +kernel, by decide +kernel⟩
theorem sc__law_few : FnScope ["_law_size", "_law_first", "_law_second", "_law_by", "_law_rows", "_law_one", "_law_other", "_law_mine", "_law_theirs", "_law_part", "_law_few_here"] ["_law_size", "_law_first", "_law_second"] (defScope s__law_few) := ⟨rfl, rfl, rfl, by decide +kernel, rfl, by decide +kernel, by decide +kernel⟩
theorem sc__law_bars : FnScope ["_law_four_here", "_law_which", "_law_length", "_law_width", "_law_first", "_law_second", "_law_side"] ["_law_four_here", "_law_which"] (defScope s__law_bars) := ⟨rfl, rfl, rfl, by decide +kernel, rfl, by decide +kernel, by decide +kernel⟩
theorem sc__law_sides : FnScope ["_law_first", "_law_second", "_law_lies"] ["_law_first", "_law_second", "_law_lies"] (defScope s__law_sides) := ⟨rfl, rfl, rfl, by decide +kernel, rfl, by decide +kernel, by decide +kernel⟩
theorem sc__law_over : FnScope ["_law_first", "_law_second", "_law_bricks_here", "_law_cell", "_law_found", "_law_along", "_law_up", "_law_lies", "_law_long", "_law_high"] ["_law_first", "_law_second", "_law_bricks_here", "_law_cell"] (defScope s__law_over) := ⟨rfl, rfl, rfl, by decide +kernel, rfl, by decide +kernel, by decide +kernel⟩
theorem sc__law_out : FnScope ["_law_floor", "_law_first", "_law_second", "_law_brick", "_law_long", "_law_high"] ["_law_floor", "_law_first", "_law_second", "_law_brick"] (defScope s__law_out) := ⟨rfl, rfl, rfl, by decide +kernel, rfl, by decide +kernel, by decide +kernel⟩
theorem sc__law_full : FnScope ["_law_floor", "_law_first", "_law_second", "_law_bricks_here", "_law_along", "_law_brick", "_law_up"] ["_law_floor", "_law_first", "_law_second", "_law_bricks_here"] (defScope s__law_full) := ⟨rfl, rfl, rfl, by decide +kernel, rfl, by decide +kernel, by decide +kernel⟩
theorem sc__law_bricks : FnScope ["_law_script", "_law_cells", "_law_whole", "_law_first", "_law_second", "_law_few_here", "_law_less", "_law_floor", "_law_found", "_law_along", "_law_at", "_law_cell", "_law_number_here", "_law_place", "_law_kind", "_law_brick", "_law_far", "_law_strange", "_law_up", "_law_lies"] ["_law_script"] (defScope s__law_bricks) := ⟨rfl, rfl, rfl, by decide +kernel, rfl, by decide +kernel, by decide +kernel⟩
theorem sc__law_says : FnScope ["_law_said", "_law_due"] ["_law_said", "_law_due"] (defScope s__law_says) := ⟨rfl, rfl, rfl, by decide +kernel, rfl, by decide +kernel, by decide +kernel⟩
theorem sc__law_sides_right : FnScope ["_law_four_here", "_law_bars_here", "_law_which", "_law_answer", "_law_due", "_law_good", "_law_said"] ["_law_four_here"] (defScope s__law_sides_right) := ⟨rfl, rfl, rfl, by decide +kernel, rfl, by decide +kernel, by decide +kernel⟩
theorem sc__law_cell_right : FnScope ["_law_floor", "_law_first", "_law_second", "_law_bricks_here", "_law_cell", "_law_within", "_law_many", "_law_answer", "_law_due", "_law_said"] ["_law_floor", "_law_first", "_law_second", "_law_bricks_here", "_law_cell"] (defScope s__law_cell_right) := ⟨rfl, rfl, rfl, by decide +kernel, rfl, by decide +kernel, by decide +kernel⟩
theorem sc_law : FnScope ["_law_script", "_law_whole", "_law_at", "_law_floor", "_law_first", "_law_second", "_law_bricks_here", "_law_some", "_law_count", "_law_due", "_law_said", "_law_along", "_law_up", "_law_good", "_law_bad"] ["_law_script"] (defScope s_law) := ⟨rfl, rfl, rfl, by decide +kernel, rfl, by decide +kernel, by decide +kernel⟩
/-- the built-ins that the text names are free -/
structure Bi (mg : Str → Option Value) : Prop where
  all : mg "all" = none
  any : mg "any" = none
  bool : mg "bool" = none
  enumerate : mg "enumerate" = none
  int : mg "int" = none
  isinstance : mg "isinstance" = none
  len : mg "len" = none
  max : mg "max" = none
  min : mg "min" = none
  range : mg "range" = none
  sum : mg "sum" = none
  tuple : mg "tuple" = none
end BF

/-! ### small helpers for the laws: the script's cells, picks out of four, sizes of drawn numbers -/
namespace BF
open PySem PySem.Spec PyProof.Rows L2
inductive SpLaw (K : PySem.W.Frag) : Sp where
  | mk {a : Addr} {ns : List Int} {H : Hp} {Q : VK} {E : XK} (hl : ns.length ≤ 63) (hb : ∀ z ∈ ns, Builtin.Int.intBits z ≤ 1048576) (hS : SqL K H a (ns.map V.int)) (q : ∀ H', Q (.bl true) H') : SpLaw K [.ref a] H Q E
theorem bn_of_lt {x : Int} (h0 : 0 ≤ x) (h : x < 10 ^ 60) : Bn 200 x := by
  refine ⟨?_⟩
  have e : (10 : Int) ^ 60 = ((10 ^ 60 : Nat) : Int) := by decide
  have l : (10 : Nat) ^ 60 < 2 ^ 200 := by decide
  rw [e] at h
  omega
theorem sz_of_lt {x : Int} (h0 : 0 < x) (h : x < 10 ^ 60) : Sz x := ⟨h0, (bn_of_lt (by omega) h).mono (by decide)⟩
theorem cut_map {α β : Type} (f : α → β) (xs : List α) (lo hi : Nat) : ((xs.map f).drop lo).take hi = ((xs.drop lo).take hi).map f := by
  rw [← List.map_drop, ← List.map_take]
theorem cut_ints (ns : List Int) (lo hi : Option Int) : ∃ ms : List Int, cutV (ns.map V.int) lo hi = ms.map V.int := by
  unfold cutV
  exact ⟨_, cut_map V.int ns _ _⟩
theorem at_cell {ns : List Int} {k : Int} (h0 : -(ns.length : Int) ≤ k) (h1 : k < ns.length) : ∃ c, c ∈ ns ∧ atI (ns.map V.int) k = some (.int c) := by
  rcases Int.lt_or_le k 0 with hk | hk
  · have hj : (k + ns.length).toNat < ns.length := by omega
    refine ⟨ns[(k + ns.length).toNat], List.getElem_mem _, ?_⟩
    have e : ixN (ns.map V.int).length k = some (k + ns.length).toNat := by
      unfold ixN
      rw [List.length_map, if_neg (by omega), if_pos (by omega)]
    unfold atI
    rw [e]
    show (ns.map V.int)[(k + ns.length).toNat]? = _
    rw [List.getElem?_map, List.getElem?_eq_getElem hj]
    rfl
  · have hj : k.toNat < ns.length := by omega
    refine ⟨ns[k.toNat], List.getElem_mem _, ?_⟩
    obtain ⟨j, rfl⟩ := Int.eq_ofNat_of_zero_le hk
    refine atI_nat ?_
    rw [List.getElem?_map]
    have hj2 : j < ns.length := by omega
    rw [List.getElem?_eq_getElem hj2]
    rfl
theorem pick4 {x0 x1 x2 x3 : V} {k : Int} (h0 : 0 ≤ k) (h4 : k < 4) : ∃ v, atI [x0, x1, x2, x3] k = some v ∧ (v = x0 ∨ v = x1 ∨ v = x2 ∨ v = x3) := by
  have e : k = 0 ∨ k = 1 ∨ k = 2 ∨ k = 3 := by omega
  rcases e with rfl | rfl | rfl | rfl
  · exact ⟨x0, rfl, .inl rfl⟩
  · exact ⟨x1, rfl, .inr (.inl rfl)⟩
  · exact ⟨x2, rfl, .inr (.inr (.inl rfl))⟩
  · exact ⟨x3, rfl, .inr (.inr (.inr rfl))⟩
end BF

/-! ### bricks and cells, in plain words -/
namespace BF
open PySem L2
structure Brick where
  x : Int
  y : Int
  l : Bool
def Brick.vs (b : Brick) : List V := [.int b.x, .int b.y, .bl b.l]
/-- along, up -/
def Brick.lo (f s : Int) (b : Brick) : Int := if b.l then f else s
def Brick.hi (f s : Int) (b : Brick) : Int := if b.l then s else f
def beyB (L W f s : Int) (b : Brick) : Bool := decide (b.x < 0) || (decide (b.y < 0) || (decide (L < b.x + b.lo f s) || decide (W < b.y + b.hi f s)))
def covB (f s : Int) (c : Int × Int) (b : Brick) : Bool := (decide (b.x ≤ c.1) && decide (c.1 < b.x + b.lo f s)) && (decide (b.y ≤ c.2) && decide (c.2 < b.y + b.hi f s))
def oftN (f s : Int) (bs : List Brick) (c : Int × Int) : Nat := (bs.filter (covB f s c)).length
def cellB (L W : Int) (c : Int × Int) : Bool := (decide (0 ≤ c.1) && decide (c.1 < L)) && (decide (0 ≤ c.2) && decide (c.2 < W))
/-- a column of cells, columns of cells -/
def colL (x y : Int) (n : Nat) : List (Int × Int) := (List.range n).map fun j : Nat => (x, y + (j : Int))
def colsL (x y : Int) (m n : Nat) : List (Int × Int) := (List.range m).flatMap fun i : Nat => colL (x + (i : Int)) y n
def cellsL (f s : Int) (b : Brick) : List (Int × Int) := colsL b.x b.y (b.lo f s).toNat (b.hi f s).toNat
theorem col_succ (x y : Int) (n : Nat) : colL x y (n + 1) = colL x y n ++ [(x, y + (n : Int))] := by
  unfold colL
  rw [List.range_succ, List.map_append]
  rfl
theorem col_len (x y : Int) (n : Nat) : (colL x y n).length = n := by
  unfold colL
  rw [List.length_map, List.length_range]
theorem cols_succ (x y : Int) (m n : Nat) : colsL x y (m + 1) n = colsL x y m n ++ colL (x + (m : Int)) y n := by
  unfold colsL
  rw [List.range_succ, List.flatMap_append]
  simp
theorem cols_len (x y : Int) (n : Nat) : ∀ m, (colsL x y m n).length = m * n
  | 0 => by simp [colsL]
  | m + 1 => by
    rw [cols_succ, List.length_append, cols_len x y n m, col_len, Nat.succ_mul]
theorem col_count (x y : Int) (c : Int × Int) : ∀ n : Nat, (colL x y n).count c = if c.1 = x ∧ y ≤ c.2 ∧ c.2 < y + (n : Int) then 1 else 0
  | 0 => by
    rw [if_neg (by omega)]
    rfl
  | n + 1 => by
    rw [col_succ, List.count_append, col_count x y c n]
    obtain ⟨a, b⟩ := c
    by_cases h : (a, b) = (x, y + (n : Int))
    · have h1 : a = x := congrArg Prod.fst h
      have h2 : b = y + (n : Int) := congrArg Prod.snd h
      rw [h, List.count_singleton_self]
      show (if x = x ∧ y ≤ y + (n : Int) ∧ y + (n : Int) < y + (n : Int) then 1 else 0) + 1 = if x = x ∧ y ≤ y + (n : Int) ∧ y + (n : Int) < y + ((n + 1 : Nat) : Int) then 1 else 0
      rw [if_neg (show ¬ (x = x ∧ y ≤ y + (n : Int) ∧ y + (n : Int) < y + (n : Int)) by omega), if_pos (show x = x ∧ y ≤ y + (n : Int) ∧ y + (n : Int) < y + ((n + 1 : Nat) : Int) by omega)]
    · have e : [(x, y + (n : Int))].count (a, b) = 0 := List.count_eq_zero_of_not_mem (by
        intro z
        exact h (List.mem_singleton.mp z))
      rw [e]
      have ne : ¬ (a = x ∧ b = y + (n : Int)) := fun z => h (by rw [z.1, z.2])
      simp only
      by_cases g : a = x ∧ y ≤ b ∧ b < y + (n : Int)
      · rw [if_pos g, if_pos (by omega)]
      · rw [if_neg g, if_neg (by omega)]
theorem cols_count (x y : Int) (n : Nat) (c : Int × Int) : ∀ m : Nat, (colsL x y m n).count c = if (x ≤ c.1 ∧ c.1 < x + (m : Int)) ∧ y ≤ c.2 ∧ c.2 < y + (n : Int) then 1 else 0
  | 0 => by
    rw [if_neg (by omega)]
    rfl
  | m + 1 => by
    rw [cols_succ, List.count_append, cols_count x y n c m, col_count]
    by_cases h : c.1 = x + (m : Int)
    · rw [if_neg (by omega)]
      by_cases g : y ≤ c.2 ∧ c.2 < y + (n : Int)
      · rw [if_pos (by omega), if_pos (by omega)]
      · rw [if_neg (by omega), if_neg (by omega)]
    · rw [if_neg (c := c.1 = x + (m : Int) ∧ y ≤ c.2 ∧ c.2 < y + (n : Int)) (by omega)]
      by_cases g : (x ≤ c.1 ∧ c.1 < x + (m : Int)) ∧ y ≤ c.2 ∧ c.2 < y + (n : Int)
      · rw [if_pos g, if_pos (by omega)]
      · rw [if_neg g, if_neg (by omega)]
theorem cells_count {f s : Int} (hf : 0 < f) (hs : 0 < s) (b : Brick) (c : Int × Int) : (cellsL f s b).count c = if covB f s c b then 1 else 0 := by
  unfold cellsL
  rw [cols_count]
  have h1 : 0 < b.lo f s := by unfold Brick.lo; split <;> omega
  have h2 : 0 < b.hi f s := by unfold Brick.hi; split <;> omega
  have e1 : ((b.lo f s).toNat : Int) = b.lo f s := Int.toNat_of_nonneg (by omega)
  have e2 : ((b.hi f s).toNat : Int) = b.hi f s := Int.toNat_of_nonneg (by omega)
  rw [e1, e2]
  unfold covB
  by_cases g : (b.x ≤ c.1 ∧ c.1 < b.x + b.lo f s) ∧ b.y ≤ c.2 ∧ c.2 < b.y + b.hi f s
  · rw [if_pos g, decide_eq_true g.1.1, decide_eq_true g.1.2, decide_eq_true g.2.1, decide_eq_true g.2.2]
    rfl
  · rw [if_neg g]
    have e : ((decide (b.x ≤ c.1) && decide (c.1 < b.x + b.lo f s)) && (decide (b.y ≤ c.2) && decide (c.2 < b.y + b.hi f s))) = false := by
      apply Bool.eq_false_iff.mpr
      intro z
      simp only [Bool.and_eq_true, decide_eq_true_eq] at z
      exact g ⟨⟨z.1.1, z.1.2⟩, z.2.1, z.2.2⟩
    rw [e]
    rfl
/-- all cells of all bricks -/
def allL (f s : Int) (bs : List Brick) : List (Int × Int) := bs.flatMap (cellsL f s)
theorem all_count {f s : Int} (hf : 0 < f) (hs : 0 < s) (c : Int × Int) : ∀ bs : List Brick, (allL f s bs).count c = oftN f s bs c
  | [] => rfl
  | b :: bs => by
    have ih := all_count hf hs c bs
    unfold allL at ih ⊢
    rw [List.flatMap_cons, List.count_append, ih, cells_count hf hs]
    unfold oftN
    rw [List.filter_cons]
    split <;> simp <;> omega
/-- the floor's cells -/
def gridL (L W : Int) : List (Int × Int) := colsL 0 0 L.toNat W.toNat
theorem grid_count {L W : Int} (hL : 0 ≤ L) (hW : 0 ≤ W) (c : Int × Int) : (gridL L W).count c = if cellB L W c then 1 else 0 := by
  unfold gridL
  rw [cols_count, Int.toNat_of_nonneg hL, Int.toNat_of_nonneg hW]
  unfold cellB
  by_cases g : (0 ≤ c.1 ∧ c.1 < 0 + L) ∧ 0 ≤ c.2 ∧ c.2 < 0 + W
  · rw [if_pos g, decide_eq_true g.1.1, decide_eq_true (show c.1 < L by omega), decide_eq_true g.2.1, decide_eq_true (show c.2 < W by omega)]
    rfl
  · rw [if_neg g]
    have e : ((decide (0 ≤ c.1) && decide (c.1 < L)) && (decide (0 ≤ c.2) && decide (c.2 < W))) = false := by
      apply Bool.eq_false_iff.mpr
      intro z
      simp only [Bool.and_eq_true, decide_eq_true_eq] at z
      omega
    rw [e]
    rfl
/-- a sum of counts over a list without doubles -/
theorem sum_counts {all : List (Int × Int)} : ∀ {g : List (Int × Int)}, (∀ c, g.count c ≤ 1) → (∀ c ∈ all, c ∈ g) → (g.map fun c => all.count c).sum = all.length := by
  induction all with
  | nil =>
    intro g k1 k2
    clear k1 k2
    show (g.map fun c => ([] : List (Int × Int)).count c).sum = 0
    induction g with
    | nil => rfl
    | cons a g ih =>
      rw [List.map_cons, List.sum_cons, ih]
      rfl
  | cons x all ih =>
    intro g h1 h2
    have hx : g.count x = 1 := by
      have := h1 x
      have := List.count_pos_iff.mpr (h2 x (by simp))
      omega
    have e : ∀ g : List (Int × Int), (g.map fun c => (x :: all).count c).sum = (g.map fun c => all.count c).sum + g.count x := by
      intro g
      induction g with
      | nil => rfl
      | cons a g ihg =>
        rw [List.map_cons, List.sum_cons, ihg, List.map_cons, List.sum_cons, List.count_cons, List.count_cons]
        by_cases z : a = x
        · subst z; simp; omega
        · have z1 : (x == a) = false := by simpa using fun h => z h.symm
          have z2 : (a == x) = false := by simpa using z
          rw [z1, z2]; simp; omega
    rw [e, ih h1 (fun c hc => h2 c (List.mem_cons_of_mem _ hc)), hx, List.length_cons]
theorem sum_ones {h : Int × Int → Nat} : ∀ {g : List (Int × Int)}, (∀ c ∈ g, h c ≤ 1) → (g.map h).sum = g.length → ∀ c ∈ g, h c = 1
  | [], _, _, c, hc => by cases hc
  | a :: g, h1, e, c, hc => by
    have le : ∀ g : List (Int × Int), (∀ c ∈ g, h c ≤ 1) → (g.map h).sum ≤ g.length := by
      intro g hg
      induction g with
      | nil => exact Nat.le_refl _
      | cons b g ih =>
        rw [List.map_cons, List.sum_cons, List.length_cons]
        have := hg b (by simp)
        have := ih fun c hc => hg c (List.mem_cons_of_mem _ hc)
        omega
    rw [List.map_cons, List.sum_cons, List.length_cons] at e
    have a1 := h1 a (by simp)
    have g1 := le g fun c hc => h1 c (List.mem_cons_of_mem _ hc)
    rcases List.mem_cons.mp hc with rfl | hc
    · omega
    · exact sum_ones (fun c hc => h1 c (List.mem_cons_of_mem _ hc)) (by omega) c hc
theorem all_ones {h : Int × Int → Nat} : ∀ {g : List (Int × Int)}, (∀ c ∈ g, h c = 1) → (g.map h).sum = g.length
  | [], _ => rfl
  | a :: g, e => by
    rw [List.map_cons, List.sum_cons, List.length_cons, e a (by simp), all_ones fun c hc => e c (List.mem_cons_of_mem _ hc)]
    omega
theorem cov_cell {L W f s : Int} {b : Brick} {c : Int × Int} (h : beyB L W f s b = false) (g : covB f s c b = true) : cellB L W c = true := by
  unfold beyB at h
  unfold covB at g
  unfold cellB
  simp only [Bool.or_eq_false_iff, decide_eq_false_iff_not] at h
  simp only [Bool.and_eq_true, decide_eq_true_eq] at g ⊢
  omega
theorem mem_cells {f s : Int} (hf : 0 < f) (hs : 0 < s) {b : Brick} {c : Int × Int} (h : c ∈ cellsL f s b) : covB f s c b = true := by
  have := List.count_pos_iff.mpr h
  rw [cells_count hf hs] at this
  by_cases g : covB f s c b = true
  · exact g
  · rw [if_neg g] at this; omega
theorem mem_grid {L W : Int} (hL : 0 ≤ L) (hW : 0 ≤ W) {c : Int × Int} : c ∈ gridL L W ↔ cellB L W c = true := by
  constructor
  · intro h
    have := List.count_pos_iff.mpr h
    rw [grid_count hL hW] at this
    by_cases g : cellB L W c = true
    · exact g
    · rw [if_neg g] at this; omega
  · intro h
    refine List.count_pos_iff.mp ?_
    rw [grid_count hL hW, if_pos h]
    omega
/-- laid: as the program reckons it, and cell by cell -/
theorem full_iff {L W f s : Int} (hL : 0 < L) (hW : 0 < W) (hf : 0 < f) (hs : 0 < s) {bs : List Brick} (hb : ∀ b ∈ bs, beyB L W f s b = false) :
    ((allL f s bs).Nodup ∧ ((allL f s bs).length : Int) = L * W) ↔ ∀ c, cellB L W c = true → oftN f s bs c = 1 := by
  have sub : ∀ c ∈ allL f s bs, c ∈ gridL L W := by
    intro c hc
    obtain ⟨b, hbm, hcb⟩ := List.mem_flatMap.mp hc
    exact (mem_grid (by omega) (by omega)).mpr (cov_cell (hb b hbm) (mem_cells hf hs hcb))
  have g1 : ∀ c, (gridL L W).count c ≤ 1 := fun c => by
    rw [grid_count (by omega) (by omega)]
    split <;> omega
  have gl : ((gridL L W).length : Int) = L * W := by
    unfold gridL
    rw [cols_len, Int.natCast_mul, Int.toNat_of_nonneg (by omega), Int.toNat_of_nonneg (by omega)]
  have sm := sum_counts g1 sub
  constructor
  · rintro ⟨nd, len⟩ c hc
    have e : ((gridL L W).map fun c => (allL f s bs).count c).sum = (gridL L W).length := by omega
    have := sum_ones (h := fun c => (allL f s bs).count c) (fun c _ => List.nodup_iff_count.mp nd c) e c ((mem_grid (by omega) (by omega)).mpr hc)
    rw [← all_count hf hs]
    exact this
  · intro h
    have e := all_ones (h := fun c => (allL f s bs).count c) (g := gridL L W) fun c hc => by
      show (allL f s bs).count c = 1
      rw [all_count hf hs]
      exact h c ((mem_grid (by omega) (by omega)).mp hc)
    refine ⟨List.nodup_iff_count.mpr fun c => ?_, by omega⟩
    by_cases hc : c ∈ allL f s bs
    · rw [all_count hf hs, h c ((mem_grid (by omega) (by omega)).mp (sub c hc))]
      exact Nat.le_refl _
    · rw [List.count_eq_zero_of_not_mem hc]
      omega
end BF

/-! ### the answers' classes -/
namespace BF
open PySem PySem.Spec PyProof.Rows L2
inductive Cl where
  | answer | laid | striped | short | full | beyond | twice | bare
deriving DecidableEq
def Cl.nm : Cl → Str
  | .answer => "Answer"
  | .laid => "Laid"
  | .striped => "Striped"
  | .short => "Short"
  | .full => "Full"
  | .beyond => "Beyond"
  | .twice => "Twice"
  | .bare => "Bare"
/-- its field -/
def Cl.fld : Cl → Str
  | .beyond => "count"
  | .twice => "cell"
  | .bare => "cell"
  | _ => "which"
def Cl.has : List Cl := [.answer, .laid, .striped, .short, .full, .beyond, .twice, .bare]
abbrev cl (K : PySem.W.Frag) (x : Cl) : Addr := He.ga K x.nm
structure ClF (K : PySem.W.Frag) (x : Cl) : Prop where
  c : Cls K (cl K x)
  ha : PySem.W.findIn K (.ref (cl K x)) "__class__" = some (some (.builtin "object.__class__"))
  hn : PySem.W.specialIn K (.builtin "object.__class__") "__get__" = some (some (.builtin "getset_descriptor.__get__"))
  tk : PySem.W.takesIn K (.builtin "object.__class__") = some true
  mr : PySem.W.mroIn K (cl K x) (.type "object") = some true
  kp : PySem.W.keepIn K (.ref (cl K x)) = true
  made : PySem.W.makesIn K (cl K x) = true
  no : NoAttr K (cl K x) x.fld
  kit : ∀ y ∈ Cl.has, PySem.W.kitOne K (.ref (cl K x)) (.ref (cl K y)) = some (decide (y = x) || decide (y = .answer))
  tyk : ∀ T ∈ ["int", "bool", "tuple", "list"], PySem.W.kitOne K (.ref (cl K x)) (.type T) = some false
structure ClG (K : PySem.W.Frag) (mg : Str → Option Value) : Prop where
  g : ∀ x ∈ Cl.has, mg x.nm = some (.ref (cl K x))
  f : ∀ x ∈ Cl.has, ClF K x
def clB (K : PySem.W.Frag) (x : Cl) : Bool := (He.Fa.glo x.nm).ok K && ((He.Fa.cls x.nm).ok K && (decide (PySem.W.findIn K (.ref (cl K x)) "__class__" = some (some (.builtin "object.__class__"))) &&
  (decide (PySem.W.specialIn K (.builtin "object.__class__") "__get__" = some (some (.builtin "getset_descriptor.__get__"))) && (decide (PySem.W.takesIn K (.builtin "object.__class__") = some true) &&
  (decide (PySem.W.mroIn K (cl K x) (.type "object") = some true) && (PySem.W.keepIn K (.ref (cl K x)) && (PySem.W.makesIn K (cl K x) && ((He.Fa.noat x.nm x.fld).ok K &&
  ((Cl.has.all fun y => decide (PySem.W.kitOne K (.ref (cl K x)) (.ref (cl K y)) = some (decide (y = x) || decide (y = .answer)))) && (["int", "bool", "tuple", "list"].all fun T => decide (PySem.W.kitOne K (.ref (cl K x)) (.type T) = some false)))))))))))
theorem clB_ok {K : PySem.W.Frag} {h : Heap} {mg : Str → Option Value} (X : K.In h) (G : h.Ns mainGlobals mg) (c : (Cl.has.all (clB K)) = true) : ClG K mg := by
  have a := List.all_eq_true.mp c
  refine ⟨fun x hx => ?_, fun x hx => ?_⟩
  · have b := a x hx
    unfold clB at b
    exact He.glo_ok X G (He.ba b).1
  · have b := a x hx
    unfold clB at b
    obtain ⟨_, b⟩ := He.ba b
    obtain ⟨b1, b⟩ := He.ba b
    obtain ⟨b2, b⟩ := He.ba b
    obtain ⟨b3, b⟩ := He.ba b
    obtain ⟨b4, b⟩ := He.ba b
    obtain ⟨b5, b⟩ := He.ba b
    obtain ⟨b6, b⟩ := He.ba b
    obtain ⟨b7, b⟩ := He.ba b
    obtain ⟨b8, b⟩ := He.ba b
    obtain ⟨b9, b10⟩ := He.ba b
    exact ⟨He.cls_ok b1, of_decide_eq_true b2, of_decide_eq_true b3, of_decide_eq_true b4, of_decide_eq_true b5, b6, b7, He.noat_ok b8, fun y hy => of_decide_eq_true (List.all_eq_true.mp b9 y hy), fun T hT => of_decide_eq_true (List.all_eq_true.mp b10 T hT)⟩
/-- an answer: its class, its field -/
inductive Ans where
  | laid | full
  | striped (v : V) | short (v : V) | beyond (v : V) | twice (v : V) | bare (v : V)
def Ans.cl : Ans → Cl
  | .laid => .laid
  | .full => .full
  | .striped _ => .striped
  | .short _ => .short
  | .beyond _ => .beyond
  | .twice _ => .twice
  | .bare _ => .bare
def Ans.fs : Ans → List (Str × V)
  | .laid => []
  | .full => []
  | .striped v => [("which", v)]
  | .short v => [("which", v)]
  | .beyond v => [("count", v)]
  | .twice v => [("cell", v)]
  | .bare v => [("cell", v)]
def AnsAt (K : PySem.W.Frag) (H : Hp) (p : Addr) (a : Ans) : Prop := ∃ dx, H p = some (.ins (cl K a.cl) dx a.fs)
theorem AnsAt.mono {K : PySem.W.Frag} {H H' : Hp} {p : Addr} {a : Ans} (h : AnsAt K H p a) (sm : Same H H') : AnsAt K H' p a := let ⟨dx, e⟩ := h; ⟨dx, sm _ _ e⟩
theorem AnsAt.ty {K : PySem.W.Frag} {H : Hp} {p : Addr} {a : Ans} (h : AnsAt K H p a) (F : ClF K a.cl) : TyX K H (.ref p) (.ref (BF.cl K a.cl)) := let ⟨_, e⟩ := h; .base (.ins e F.c F.ha F.hn F.tk F.mr)
theorem mem_has (a : Ans) : a.cl ∈ Cl.has := by
  generalize a.cl = x
  cases x <;> decide
/-- isinstance(answer, Class) -/
theorem tyA {K : PySem.W.Frag} {mg : Str → Option Value} {H : Hp} {p : Addr} {a : Ans} (G : ClG K mg) (h : AnsAt K H p a) (ha : a.cl ∈ Cl.has := by exact mem_has _) : TyX K H (.ref p) (.ref (BF.cl K a.cl)) := h.ty (G.f _ ha)
theorem kitA {K : PySem.W.Frag} {mg : Str → Option Value} (G : ClG K mg) (a : Ans) (y : Cl) (ha : a.cl ∈ Cl.has := by exact mem_has _) (hy : y ∈ Cl.has := by decide) : PySem.W.kitOne K (.ref (BF.cl K a.cl)) (.ref (BF.cl K y)) = some (decide (y = a.cl) || decide (y = .answer)) := (G.f _ ha).kit y hy
/-- a method of a class -/
def PlM (K : PySem.W.Frag) (x : Cl) (m q : Str) (st : Stmt) : Prop := ∃ f fd, FnP K m q st f fd ∧ Meth K (cl K x) m f
def HasM (P : Program) (w : World) (K : PySem.W.Frag) (mg : Str → Option Value) (base : Heap) (C : CXT) (k : Nat) (x : Cl) (m : Str) (ps : List Str) (sp : Sp) : Prop :=
  ∃ f fd, FnOk P w K mg base C k f fd ps sp ∧ Meth K (cl K x) m f ∧ Binds K fd ps []
section
variable {P : Program} {w : World} {K : PySem.W.Frag} {mg : Str → Option Value} {base : Heap} {x : Cl} {m q : Str} {st : Stmt} {N ps : List Str} {k : Nat} {sp : Sp}
theorem PlM.mk0 (p : PlM K x m q st) (S : FnScope N ps (defScope st))
    (hb : ∀ (kV doc pm : Value) (an : Option Addr) (cdv ct : Value) (us : List Value), us.length = ps.length → bindArgs (PySem.W.fnOf m q (defArgs st) (defBody st) (defScope st) .none kV doc pm an cdv ct) ⟨us, []⟩ = pure (ps.zip us))
    (len : ∀ vs H Q E, sp vs H Q E → vs.length = ps.length)
    (body : ∀ (f : Addr) (cdv : Value) (A : Around) (outer : List Env) (s : Shared) (H : Hp) (vs : List V) (Q : VK) (E : XK), Room k (A.deeper (envOfC q (defScope st) s.heap.objs.size f cdv)) → sp vs H Q E →
      ∃ t, PSs (cxOf CX0 P w K mg base N q (defScope st) f cdv A outer s H E).nox (defBody st) t ∧ t { nx := fun _ H' => Q .non H', rt := Q } (start N vs) H) : HasM P w K mg base CX0 (k + 1) x m ps sp := by
  obtain ⟨f, fd, F, g⟩ := p
  exact ⟨f, fd, F.ok S len (fun cdv A outer s H vs Q E hr h => by
    obtain ⟨t, a, b⟩ := body f cdv A outer s H vs Q E hr h
    exact ⟨t, a.nox, b⟩), g, F.bindsN hb⟩
end
section
variable {X : Cx} {CX : CXT} {k : Nat} {C : Addr} {ps : List Str} {E : XK} {m : Str} {pos apos : Pos} {e o : Expr} {es : List Expr} {ta : TE} {t : TA} {x : Cl}
theorem pe_any {ι : Type} {e : Expr} {Ok : ι → Prop} {t : ι → TE} (h : ∀ i, Ok i → PE X e (t i)) : PE X e (fun σ H Q => ∃ i, Ok i ∧ t i σ H Q) := ⟨fun pins s σ H Q I ⟨i, hi, q⟩ => (h i hi).run pins s σ H Q I q⟩
/-- o.m(..), o an answer of one of several classes -/
def tMethA (K : PySem.W.Frag) (Ok : Cl → Prop) (m : Str) (sp : Cl → Sp) (E : XK) (ta : TE) (t : TA) : TE := fun σ H Q => ∃ x, Ok x ∧ tMeth (cl K x) m (sp x) [] E ta t σ H Q
theorem pe_methA {pl : Sem Bool} {Ok : Cl → Prop} {sp : Cl → Sp} (h : ∀ x, Ok x → HasM X.prog X.w X.K X.mg X.base CX k x m ps (sp x)) (c : ∀ x, Ok x → Cls X.K (cl X.K x)) (hr : Room k X.A) (hx : Passes CX X E) (he : PE X o ta) (ha : PA X (e :: es) t)
    (hst : starEach (e :: es) X.env = (false, eval e X.env) :: starEach es X.env := by rfl) (hpl : (backTo pos (starEach es X.env)).any (·.1) = false := by rfl)
    (ht : eval (.Call (.Attribute o m apos) (e :: es) [] pos) X.env = (do
      let ov ← eval o X.env
      standAt apos.atName
      let (f, first) ← holding [ov] (getMethod ov m pl)
      callWith pos f first (backTo pos (starEach (e :: es) X.env)) (backToKw pos (keywordEach [] X.env))) := by rfl) :
    PE X (.Call (.Attribute o m apos) (e :: es) [] pos) (tMethA X.K Ok m sp E ta t) :=
  pe_any (Ok := Ok) (t := fun x => tMeth (cl X.K x) m (sp x) [] E ta t) fun x hx' => by
    obtain ⟨f, fd, F, M, b⟩ := h x hx'
    exact pe_meth (pl := pl) he (c x hx') M F hr b .nil hx ha hst hpl ht
/-- __init__(self, v): self.f = v -/
inductive SpInit (K : PySem.W.Frag) (x : Cl) : Sp where
  | mk {p dx : Addr} {v : V} {H : Hp} {Q : VK} {E : XK} (h : H p = some (.ins (cl K x) dx [])) (q : Q .non (upd H p (.ins (cl K x) dx [(x.fld, v)]))) : SpInit K x [.ref p, v] H Q E
def Cl.of : Cl → V → Ans
  | .striped, v => .striped v
  | .short, v => .short v
  | .beyond, v => .beyond v
  | .twice, v => .twice v
  | .bare, v => .bare v
  | .full, _ => .full
  | _, _ => .laid
def Cl.has1 : Cl → Prop
  | .striped => True
  | .short => True
  | .beyond => True
  | .twice => True
  | .bare => True
  | _ => False
theorem Cl.of_cl {x : Cl} (h : x.has1) (v : V) : (x.of v).cl = x ∧ (x.of v).fs = [(x.fld, v)] := by
  cases x <;> first | exact ⟨rfl, rfl⟩ | exact h.elim
/-- Class(e) -/
def tMk1 (K : PySem.W.Frag) (x : Cl) (t : TA) : TE := fun σ H Q => t σ H fun vs H1 => ∃ v, vs = [v] ∧ ∀ p H2, H1 p = none → Same H1 H2 → AnsAt K H2 p (x.of v) → Q (.ref p) H2
theorem pe_mk1 (M : Mk X.K (cl X.K x) (He.ma X.K (cl X.K x) "__init__")) (h : HasM X.prog X.w X.K X.mg X.base CX0 k x "__init__" ps (SpInit X.K x)) (h1 : x.has1) (hr : Room (k + 1) X.A) {y : Str} {p : Pos} (hm : X.mg y = some (.ref (cl X.K x))) (ha : PA X (e :: es) t)
    (hg : Gl X y := by rfl) (hdb : (y == ("__debug__" : Str)) = false := by decide) (he : starEach (e :: es) X.env = (false, eval e X.env) :: starEach es X.env := by rfl) (hpl : (backTo pos (starEach es X.env)).any (·.1) = false := by rfl) :
    PE X (.Call (.Name y p) (e :: es) [] pos) (tMk1 X.K x t) := by
  obtain ⟨f, fd, F, m, b⟩ := h
  refine ⟨fun pins s σ H Q I hh => wpAny_Call_Name_kw (ld_glob I hg hm ?_ hdb)⟩
  refine PySem.W.callWith_K (h₀ := X.base) I.ok.mod.kin M.kp (thn (ha.run pos pins s σ H _ I hh) fun us s1 ⟨vs, H1, J, r, v, ev, z⟩ => ⟨J.kIn, ?_⟩) he hpl
  subst ev
  have M2 : Mk X.K (cl X.K x) f := ⟨M.makes, m.at_, m.fn, M.kp⟩
  refine run_make (dvs := []) (E := E0) M2 F hr b .nil pass0 J r fun q dx nq nd ne => .mk (dx := dx) upd_same ⟨rfl, z q _ nq (fun b o eb => ?_) ?_⟩
  · have b1 := ne_of_none eb nq
    have b2 := ne_of_none eb nd
    rw [upd_ne b1, upd_ne b1, upd_ne b2]
    exact eb
  · refine ⟨dx, ?_⟩
    rw [(Cl.of_cl h1 v).1, (Cl.of_cl h1 v).2]
    exact upd_same
/-- Class(), without an __init__ -/
def tMk0 (K : PySem.W.Frag) (x : Cl) : TE := fun σ H Q => ∀ p H2, H p = none → Same H H2 → (∃ dx, H2 p = some (.ins (cl K x) dx [])) → Q (.ref p) H2
theorem run_plain {pins : List (Addr × Obj)} {σ : L2.St} {H : Hp} {s : Shared} {Q : VK} (hm : PySem.W.makesIn X.K C = true) (hi : PySem.W.findIn X.K (.ref C) "__init__" = some (some (.builtin "object.__init__"))) (I : Inv X pins σ H s)
    (h : ∀ x dx, H x = none → H dx = none → dx ≠ x → Q (.ref x) (upd (upd H dx (.own x)) x (.ins C dx []))) : wpAny (model X.prog X.w) X.A (call (.ref C) []) (EP X pins σ Q) X.xe s := by
  have J := Inv.made (C := C) I
  have z := h (s.heap.objs.size + 1) s.heap.objs.size (I.hok.fresh (Nat.le_succ _)) (I.hok.fresh (Nat.le_refl _)) (Nat.ne_of_lt (Nat.lt_succ_self _))
  have Y := PySem.W.makes_of (M := model X.prog X.w) I.kIn hm
  refine wpAny_call (make_map0 (K := X.K) I.kIn hm hi (fun self => PySem.W.Looks.of_pure (PySem.W.oi_bind self)) ?_)
  have e2 : ((s.heap.push PySem.W.emptyDict).push (PySem.W.instObj C s.heap.objs.size)).get? (s.heap.objs.size + 1) = some (PySem.W.instObj C s.heap.objs.size) := by
    have := Heap.get?_push_size (s.heap.push PySem.W.emptyDict) (o := PySem.W.instObj C s.heap.objs.size) rfl
    rwa [Heap.size_push] at this
  have u1 : PySem.W.Looks (model X.prog X.w) ((s.heap.push PySem.W.emptyDict).push (PySem.W.instObj C s.heap.objs.size)) (typeOf (.ref (s.heap.objs.size + 1))) (.ref C) := (PySem.W.Looks.ld e2).andThen .now
  have u2 : PySem.W.Looks (model X.prog X.w) ((s.heap.push PySem.W.emptyDict).push (PySem.W.instObj C s.heap.objs.size)) (isInstance (.ref (s.heap.objs.size + 1)) (.type "object")) true :=
    u1.andThen (Y.top.keeps fun b o e => Heap.get?_push_of_some _ (Heap.get?_push_of_some _ e))
  refine codeAny_call_builtin PySem.W.oi_plain PySem.W.entry_oi (@PySem.W.check_slot (model X.prog X.w) _ _ _ "object.__init__" "object" "__init__" (.ref (s.heap.objs.size + 1)) [] [] _ PySem.W.oi_kind PySem.W.oi_split u2 (PySem.W.oi_args (.ref (s.heap.objs.size + 1))) ?_)
  rw [PySem.W.oi_run]
  exact wpAny_pure (And.intro rfl ⟨.ref (s.heap.objs.size + 1), _, J, rfl, z⟩)
theorem pe_mk0 (F : ClF X.K x) (hi : PySem.W.findIn X.K (.ref (cl X.K x)) "__init__" = some (some (.builtin "object.__init__"))) {y : Str} {p : Pos} (hm : X.mg y = some (.ref (cl X.K x))) (hg : Gl X y := by rfl) (hdb : (y == ("__debug__" : Str)) = false := by decide) :
    PE X (.Call (.Name y p) [] [] pos) (tMk0 X.K x) := by
  refine ⟨fun pins s σ H Q I h => wpAny_Call_Name_kw (ld_glob I hg hm ?_ hdb)⟩
  refine PySem.W.callWith_K0 I.kIn F.kp (run_plain F.made hi I fun q dx nq nd ne => h q _ nq (fun b o eb => ?_) ⟨dx, upd_same⟩)
  have b1 := ne_of_none eb nq
  have b2 := ne_of_none eb nd
  rw [upd_ne b1, upd_ne b2]
  exact eb
end
structure ClI (P : Program) (w : World) (K : PySem.W.Frag) (mg : Str → Option Value) (base : Heap) : Prop where
  mk1 : ∀ x ∈ Cl.has, x.has1 → Mk K (cl K x) (He.ma K (cl K x) "__init__")
  in1 : ∀ x ∈ Cl.has, x.has1 → HasM P w K mg base CX0 1 x "__init__" ["self", x.fld] (SpInit K x)
  in0 : ∀ x ∈ Cl.has, (x = .laid ∨ x = .full) → PySem.W.findIn K (.ref (cl K x)) "__init__" = some (some (.builtin "object.__init__"))
section
variable {X : Cx} {pos : Pos} {e : Expr} {es : List Expr} {t : TA} {x : Cl}
theorem pe_mkI (CI : ClI X.prog X.w X.K X.mg X.base) (G : ClG X.K X.mg) (hx : x ∈ Cl.has) (h1 : x.has1) (hr : Room 2 X.A) {y : Str} {p : Pos} (ha : PA X (e :: es) t) (hy : y = x.nm := by rfl) (hg : Gl X y := by rfl) (hdb : (y == ("__debug__" : Str)) = false := by decide)
    (he : starEach (e :: es) X.env = (false, eval e X.env) :: starEach es X.env := by rfl) (hpl : (backTo pos (starEach es X.env)).any (·.1) = false := by rfl) : PE X (.Call (.Name y p) (e :: es) [] pos) (tMk1 X.K x t) :=
  pe_mk1 (CI.mk1 x hx h1) (CI.in1 x hx h1) h1 hr (by rw [hy]; exact G.g x hx) ha hg hdb he hpl
theorem pe_mkN (CI : ClI X.prog X.w X.K X.mg X.base) (G : ClG X.K X.mg) (hx : x ∈ Cl.has) (h0 : x = .laid ∨ x = .full) {y : Str} {p : Pos} (hy : y = x.nm := by rfl) (hg : Gl X y := by rfl) (hdb : (y == ("__debug__" : Str)) = false := by decide) :
    PE X (.Call (.Name y p) [] [] pos) (tMk0 X.K x) := pe_mk0 (G.f x hx) (CI.in0 x hx h0) (by rw [hy]; exact G.g x hx) hg hdb
end
theorem HasM.mono {P : Program} {w : World} {K : PySem.W.Frag} {mg : Str → Option Value} {base : Heap} {C : CXT} {j k : Nat} {x : Cl} {m : Str} {ps : List Str} {sp : Sp} (h : HasM P w K mg base C j x m ps sp) (l : j ≤ k) : HasM P w K mg base C k x m ps sp :=
  let ⟨f, fd, F, r⟩ := h; ⟨f, fd, F.mono l, r⟩
def Ok4 (x : Cl) : Prop := x ∈ [Cl.laid, .striped, .short]
def Ok5 (x : Cl) : Prop := x ∈ [Cl.full, .beyond, .twice, .bare]
theorem ok4 {x : Cl} (h : Ok4 x) : x ∈ Cl.has := by
  unfold Ok4 at h
  cases x <;> first | decide | exact absurd h (by decide)
theorem ok5 {x : Cl} (h : Ok5 x) : x ∈ Cl.has := by
  unfold Ok5 at h
  cases x <;> first | decide | exact absurd h (by decide)
end BF

/-! ### data at any depth, in a heap that grows -/
namespace BF
open PySem PySem.Spec PyProof.Rows L2
theorem at0 {x : V} {xs : List V} : atI (x :: xs) 0 = some x := by
  show atI (x :: xs) ((0 : Nat) : Int) = some x
  exact atI_nat rfl
mutual
theorem dpS {K : PySem.W.Frag} {H H' : Hp} (sm : Same H H') : ∀ {d : PyData} {v : V}, Dp K H v d → Dp K H' v d
  | .none, _, h => by cases h; exact .non
  | .bool b, _, h => by cases h; exact .bl b
  | .int i, _, h => by cases h; exact .int i
  | .str x, _, h => by cases h; exact .str x
  | .list ds, _, h => by
    cases h with
    | lst hs ha => exact .lst (sm.seq hs) (dpsS sm ha)
  | .tuple ds, _, h => by
    cases h with
    | tup hs ha => exact .tup (Same.tup sm hs) (dpsS sm ha)
theorem dpsS {K : PySem.W.Frag} {H H' : Hp} (sm : Same H H') : ∀ {ds : List PyData} {vs : List V}, DpAll K H vs ds → DpAll K H' vs ds
  | [], _, h => by cases h; exact .nil
  | d :: ds, _, h => by
    cases h with
    | cons h1 h2 => exact .cons (dpS sm h1) (dpsS sm h2)
end
/-- shaped, at most n deep -/
structure Shp (n : Nat) (d : PyData) : Prop where
  c : PyData.canLay0 d = true
  h : PyData.depth d ≤ n
theorem Shp.ok {n : Nat} {d : PyData} (s : Shp n d) (h : n ≤ 64) : SeqAt.shaped d = true := Bool.and_eq_true_iff.mpr ⟨s.c, decide_eq_true (Nat.le_trans s.h h)⟩
theorem shp_all {n : Nat} : ∀ {ds : List PyData}, (∀ d ∈ ds, Shp n d) → PyData.canLayAll0 ds = true ∧ PyData.depthAll ds ≤ n
  | [], _ => ⟨rfl, by simp [PyData.depthAll]⟩
  | d :: ds, h => by
    obtain ⟨a, b⟩ := shp_all (ds := ds) fun d hd => h d (List.mem_cons_of_mem _ hd)
    have c := h d (by simp)
    refine ⟨?_, ?_⟩
    · rw [PyData.canLayAll0, c.c, a]
      rfl
    · rw [PyData.depthAll]
      exact Nat.max_le.mpr ⟨c.h, b⟩
theorem shp_list {n : Nat} {ds : List PyData} (h : ∀ d ∈ ds, Shp n d) : Shp (n + 1) (.list ds) := by
  obtain ⟨a, b⟩ := shp_all h
  refine ⟨by rw [PyData.canLay0]; exact a, ?_⟩
  rw [PyData.depth]
  omega
theorem shp_tuple {n : Nat} {ds : List PyData} (h : ∀ d ∈ ds, Shp n d) : Shp (n + 1) (.tuple ds) := by
  obtain ⟨a, b⟩ := shp_all h
  refine ⟨by rw [PyData.canLay0]; exact a, ?_⟩
  rw [PyData.depth]
  omega
theorem shp_int (i : Int) : Shp 1 (.int i) := ⟨rfl, by simp [PyData.depth]⟩
theorem shp_bool (b : Bool) : Shp 1 (.bool b) := ⟨rfl, by simp [PyData.depth]⟩
theorem shp_ints (xs : List Int) : SeqAt.shaped (.list (xs.map .int)) = true := (shp_list (n := 1) fun d hd => by
  obtain ⟨i, _, rfl⟩ := List.mem_map.mp hd
  exact shp_int i).ok (by decide)
theorem ne_nil (xs : List Int) : (!PyData.eqv (.list (xs.map .int)) (.list [])) = !xs.isEmpty := by
  cases xs with
  | nil => rfl
  | cons x xs => rfl
theorem dp_ints {K : PySem.W.Frag} {H : Hp} : ∀ xs : List Int, DpAll K H (xs.map V.int) (xs.map PyData.int)
  | [] => .nil
  | x :: xs => .cons (.int x) (dp_ints xs)
end BF

/-! ### enumerate(tuple) -/
namespace BF
open PySem PySem.Spec PyProof.Rows L2
open PySem.AutoSeq1 (wpAny_loadPart')
theorem enum_newT (l : Addr) (its : Array Value) (n : Nat) (dd : Option Addr) (sl : Array (Option Value)) :
    Meets (Builtin.«enumerate.__new__» ⟨[.type "enumerate", .ref l], []⟩) (fun _ R s => s.heap.get? l = some { cls := .type "tuple", dict := dd, data := .seq its n, slots := sl } ∧
      R (.ok (.ret (.ref (s.heap.push { cls := .type "tuple_iterator", data := .fields #[.ref l, .int 0 0] }).objs.size)))
        { s with heap := (s.heap.push { cls := .type "tuple_iterator", data := .fields #[.ref l, .int 0 0] }).push { cls := .type "enumerate", data := .fields #[.none, .bool false, .ref s.heap.objs.size, rawInt 0, .none, .none] } }) :=
  .of_wp fun prog w A R s h => by
    obtain ⟨hp, g, d, tk, os⟩ := s
    obtain ⟨hl, h⟩ := h
    have sub := sub_enumerate
    have tl : Heap.IsTuple (Shared.heap ⟨hp, g, d, tk, os⟩) l its := ⟨_, hl, rfl, n, rfl⟩
    wp_walk using wpAny_loadPart' hl
    refine wpAny_stack_any fun st => wpAny_pure ?_
    split
    · rename_i c _ _ _ _ _
      cases (c == Value.type "enumerate") <;> (wp_walk using wpAny_loadPart' hl, wpAny_pyIter_tuple tl; exact ⟨_, rfl, h⟩)
    · wp_walk using wpAny_loadPart' hl, wpAny_pyIter_tuple tl
      exact ⟨_, rfl, h⟩
theorem call_enumT {prog : Program} {w : World} {A : Around} {E : Value → Shared → Prop} {s : Shared} {l : Addr} {items : Array Value} {Q : Value → Shared → Prop} (hL : IsTup s.heap l items)
    (h : ∀ h', IsEnum h' (s.heap.objs.size + 1) s.heap.objs.size 0 .none → h'.IsTupleIter s.heap.objs.size l 0 → (∀ b o, s.heap.get? b = some o → h'.get? b = some o) → Q (.ref (s.heap.objs.size + 1)) { s with heap := h' }) :
    wpAny (model prog w) A (call (.type "enumerate") [.ref l]) Q E s := by
  obtain ⟨⟨c, dd, dt, sl⟩, hl, e1, n, e2⟩ := hL
  simp only at e1 e2
  subst e1 e2
  refine callType_new F.called_enumerate (by decide) (F.typeCall_enumerate_1 _) (F.newCall_enumerate_1 _) (fun obj => F.args_object_init_2 obj _) F.entry_enumerate_new (enum_newT l items n dd sl) ⟨hl, ?_⟩
  have hz : (s.heap.push { cls := .type "tuple_iterator", data := .fields #[.ref l, .int 0 0] }).objs.size = s.heap.objs.size + 1 := Heap.size_push ..
  show _ ∧ _
  rw [hz]
  have he : IsEnum ((s.heap.push { cls := .type "tuple_iterator", data := .fields #[.ref l, .int 0 0] }).push { cls := .type "enumerate", data := .fields #[.none, .bool false, .ref s.heap.objs.size, rawInt 0, .none, .none] }) (s.heap.objs.size + 1) s.heap.objs.size 0 .none := by
    have z := Heap.get?_push_size (s.heap.push { cls := .type "tuple_iterator", data := .fields #[.ref l, .int 0 0] }) (o := { cls := .type "enumerate", data := .fields #[.none, .bool false, .ref s.heap.objs.size, rawInt 0, .none, .none] }) rfl
    rw [hz] at z
    exact z
  exact ⟨⟨_, he, rfl⟩, h _ he ⟨_, Heap.get?_push_of_some _ (Heap.get?_push_size _ rfl), rfl, rfl⟩ fun b o x => Heap.get?_push_of_some _ (Heap.get?_push_of_some _ x)⟩
theorem enum_endT {prog : Program} {w : World} {A : Around} {E : Value → Shared → Prop} {s : Shared} {e it t : Addr} {j : Nat} {i : Int} {old : Value} {items : Array Value} {Q : Option Value → Shared → Prop} (hh : A.in1.handled = none) (he : IsEnum s.heap e it i old)
    (hit : s.heap.IsTupleIter it t j) (ht : s.heap.IsTuple t items) (hx : items[j]? = none) (hQ : ∀ h', Heap.ExtBut it s.heap h' → Q none { s with heap := h' }) : wpAny (model prog w) A (pyNext (.ref e)) Q E s := by
  have ty : s.TypeIs (.ref e) "enumerate" := ⟨_, he, rfl⟩
  unfold pyNext
  refine wpAny_bind (wpAny_attempt (wpAny_callSpecial?_slot (name := Str.ofString "__next__") ty F.slot_enumerate_next (wpAny_call_entry F.slot_enumerate_next ty F.entry_enumerate_next ?_ (F.args_enumerate_next_1 _))))
  show wpAny _ _ (field (.ref e) 2 >>= _) _ _ _
  refine wpAny_bind (wpAny_field he rfl (x := .ref it) rfl (wpAny_bind (wpAny_nextOf_tuple_end hh hit ht hx fun h' x he' ⟨o, ho, hc⟩ => ?_)))
  exact wpAny_bind (wpAny_isInstance (T := "StopIteration") (b := true) ⟨o, ho, hc⟩ isSubtype_stop (wpAny_pure (hQ _ he')))
/-- the tuple at a, each item in a new pair -/
def IteT (K : PySem.W.Frag) (a : Addr) : It :=
  ⟨fun i H => ∃ (xs : List V) (x : V), SqT K H a xs ∧ xs[i]? = some x, fun i H v H' => ∃ T x, v = .ref T ∧ H T = none ∧ H' = upd H T (.tup [.int (i : Nat), x]) ∧ ∀ xs, SqT K H a xs → xs[i]? = some x, fun i H => ∃ xs : List V, SqT K H a xs ∧ xs.length ≤ i⟩
theorem turn_enumT {P : Program} {w : World} {K : PySem.W.Frag} {elts : List Expr} {kk : Nat} {tpos : Pos} (a e it : Addr) :
    Turn P w K (.Tuple elts kk tpos) (IteT K a) [e, it] e (fun i h => (∃ old, IsEnum h e it ((i : Nat) : Int) old) ∧ h.IsTupleIter it a i ∧ e ≠ it ∧ a ≠ it ∧ e ≠ a) where
  mem := by simp
  obj := fun i h st b hb => by
    obtain ⟨⟨old, he⟩, ⟨o, ho, hc, hd⟩, _⟩ := st
    have z : b = e ∨ b = it := by simpa using hb
    rcases z with rfl | rfl
    · exact ⟨_, he, fun v q => nomatch q⟩
    · exact ⟨o, ho, fun v q => by rw [hd] at q; cases q⟩
  keep := fun i h h' st k => let ⟨⟨old, he⟩, hi, r⟩ := st; ⟨⟨old, k e (by simp) _ he⟩, hi.at fun o q => k it (by simp) o q, r⟩
  item := by
    intro X hP hw hK hc i pins s σ H E I hf st hg
    subst hP hw hK
    obtain ⟨⟨old, he⟩, hit, hne, hai, hea⟩ := st
    obtain ⟨xs, x, hq, hx⟩ := hg
    obtain ⟨its, rv, p, hz⟩ := I.tuple hq
    obtain ⟨u, hu, ru⟩ := rv.get hx
    have hel : e < s.heap.objs.size := Heap.lt_size he
    have hil : it < s.heap.objs.size := by obtain ⟨_, q, _⟩ := hit; exact Heap.lt_size q
    have hd : X.A.in1.handled = none := I.ok.hd hc
    have hlt : i < its.toArray.size := by
      have := (List.getElem?_eq_some_iff.mp hu).1
      simpa using this
    refine wpAny_pyNext_enum_itemD (Draws.tuple hd it a hai its.toArray) he ⟨hit, p⟩ hlt hne (by simp [hne, hea]) fun u' h' tk hu' ho hst hT hsz hk => ?_
    have eu : u' = u := by
      have hu2 : its[i]? = some u' := by simpa using hu'
      rw [hu] at hu2
      exact (Option.some.inj hu2).symm
    subst eu
    refine ⟨_, rfl, wpAny_letOwnedTupleGo_enum (s := { s with heap := h', toks := tk + 1 }) ho fun h'' he' sb => ?_⟩
    have hT2 : h''.get? s.heap.objs.size = some { cls := .type "tuple", data := .seq #[.int i tk, u'] } := (sb.2 _ (Nat.ne_of_gt hel)).trans hT
    have new : ObjOk X.prog X.w (upd H s.heap.objs.size (.tup [.int (i : Nat), x])) h'' s.heap.objs.size (.tup [.int (i : Nat), x]) := ⟨by show 2 ≤ sizeLine; decide, [.int i tk, u'], .cons ⟨_, rfl⟩ (.cons ru .nil), ⟨_, hT2, rfl, _, rfl⟩⟩
    have J : Inv X pins σ (upd H s.heap.objs.size (.tup [.int (i : Nat), x])) { s with heap := h'', toks := tk + 1 } := I.turnedNew (ch := [e, it]) (fun b ob hb q => (sb.2 b (fun z => hb (by simp [z]))).trans (hk b ob (fun z => hb (by simp [z])) (fun z => hb (by simp [z])) q)) hf (Nat.le_refl _) new
    refine ⟨.ref s.heap.objs.size, _, J, rfl, ⟨_, x, rfl, I.hok.fresh (Nat.le_refl _), rfl, fun ys hy => by rw [I.tuple_inj hy hq]; exact hx⟩, ⟨⟨u', ?_⟩, hst.1.at fun o q => (sb.2 it (Ne.symm hne)).trans q, hne, hai, hea⟩, fun b hb => ?_⟩
    · rw [show ((i + 1 : Nat) : Int) = (i : Int) + 1 by omega]
      exact he'
    · have hb' : b < s.heap.objs.size := by
        have z : b = e ∨ b = it := by simpa using hb
        rcases z with rfl | rfl
        · exact hel
        · exact hil
      rw [upd_ne (Nat.ne_of_lt hb')]
      exact (hf b hb).1
  done := by
    intro X hP hw hK hc i pins s σ H E I hf st hg
    subst hP hw hK
    obtain ⟨⟨old, he⟩, hit, hne, hai, hea⟩ := st
    obtain ⟨xs, hq, hx⟩ := hg
    obtain ⟨its, rv, p, hz⟩ := I.tuple hq
    obtain ⟨f0, f1, f2, f3, f4, f5⟩ := hf it (by simp)
    have hd : X.A.in1.handled = none := I.ok.hd hc
    have hl := rv.length
    exact enum_endT hd he hit p (by simp; omega) fun h' eb => ⟨rfl, I.turned (t' := s.toks) (fun b o hb q => eb b o hb q) f0 f1 f3 f4 f5⟩
  self := fun A i s Q E st h => let ⟨⟨_, he⟩, _⟩ := st; wpAny_pyIter_enum he h
def iEnumT (K : PySem.W.Frag) (ta : TA) : TI := fun σ H R => ta σ H fun vs H1 => ∃ a xs, vs = [.ref a] ∧ SqT K H1 a xs ∧ R (IteT K a) H1
theorem pi_enumT {X : Cx} {e : Expr} {ta : TA} {p pos tpos : Pos} {elts : List Expr} {kk : Nat} (hg : Gl X "enumerate") (hm : X.mg "enumerate" = none) (ha : PA X [e] ta) (hs : starEach [e] X.env = [(false, eval e X.env)] := by rfl) :
    PI X (.Tuple elts kk tpos) (.Call (.Name "enumerate" p) [e] [] pos) (iEnumT X.K ta) := by
  refine ⟨fun pins s σ H R I h => Call_ (ld_blt I hg hm boot_enumerate (PyProof.Rows.callWith_type1 (thn (ha.run pos pins s σ H _ I h) fun us s1 ⟨vs, H1, J, r1, q1⟩ => ?_) hs rfl))⟩
  obtain ⟨a, xs, ex, hq, q⟩ := q1
  subst ex
  cases r1 with
  | cons r rr =>
    cases rr
    cases r
    obtain ⟨its, rv, tp, hz⟩ := J.tuple hq
    have hal : a < s1.heap.objs.size := by
      obtain ⟨o, ho, _⟩ := tp
      exact Heap.lt_size ho
    refine call_enumT tp fun h' he hit hk => wpAny_pyIter_enum he ?_
    have J2 : Inv X pins σ H1 { s1 with heap := h' } := J.kept (t' := s1.toks) hk
    refine ⟨s1.heap.objs.size + 1, [s1.heap.objs.size + 1, s1.heap.objs.size], _, _, H1, rfl, J2, turn_enumT a (s1.heap.objs.size + 1) s1.heap.objs.size, ⟨⟨.none, he⟩, hit, Nat.succ_ne_self _, Nat.ne_of_lt hal, Nat.ne_of_gt (Nat.lt_succ_of_lt hal)⟩, fun b hb => ?_, q⟩
    have z : b = s1.heap.objs.size + 1 ∨ b = s1.heap.objs.size := by simpa using hb
    have hle : s1.heap.objs.size ≤ b := by
      rcases z with rfl | rfl
      · exact Nat.le_succ _
      · exact Nat.le_refl _
    exact J.fpOk hle (J.hok.fresh hle)
/-- a comprehension over enumerate(tuple) -/
theorem lc_enumT {K : PySem.W.Frag} {a : Addr} {xs : List V} {g : TG} {tt : TT} {te : TE} {vs : List Nat} {σ : L2.St} {H1 : Hp} {D : Addr} {Qd : Hp → Prop} (Pv : Nat → Hp → Prop) (h0 : Pv 0 (upd H1 D (.lst []))) (hl : ∀ i H, i ≤ xs.length → Pv i H → SqT K H a xs)
    (hs : ∀ i x T H, xs[i]? = some x → Pv i H → H T = none → g (.ref T) (wipe σ vs) (upd H T (.tup [.int (i : Nat), x])) fun σ2 H2 => wipe σ2 vs = wipe σ vs ∧ tt σ2 H2 fun b H3 =>
      if b = true then te σ2 H3 fun y H4 => ∃ acc, H4 D = some (.lst acc) ∧ acc.length < sizeLine ∧ Pv (i + 1) (upd H4 D (.lst (acc ++ [y]))) else Pv (i + 1) H3) (hd : ∀ H, Pv xs.length H → Qd H) :
    ∃ W : Nat → Nat → Hp → Prop, (∃ m, W 0 m (upd H1 D (.lst []))) ∧ ∀ i m H, W i m H →
      ((IteT K a).stop i H ∧ Qd H) ∨ ((IteT K a).go i H ∧ ∃ Nx : Hp → Prop, (∀ H', Nx H' → ∃ m', m' < m ∧ W (i + 1) m' H') ∧ ∀ x H', (IteT K a).yld i H x H' → g x (wipe σ vs) H' fun σ2 H2 => wipe σ2 vs = wipe σ vs ∧ tt σ2 H2 fun b H3 =>
        if b = true then te σ2 H3 fun y H4 => ∃ acc, H4 D = some (.lst acc) ∧ acc.length < sizeLine ∧ Nx (upd H4 D (.lst (acc ++ [y]))) else Nx H3) := by
  refine ⟨fun i m H => m = xs.length - i ∧ i ≤ xs.length ∧ Pv i H, ⟨_, rfl, Nat.zero_le _, h0⟩, ?_⟩
  rintro i m H ⟨rfl, hi, p⟩
  have sq := hl i H hi p
  by_cases c : i < xs.length
  · refine .inr ⟨⟨xs, xs[i], sq, by simp [c]⟩, Pv (i + 1), fun H' p' => ⟨xs.length - (i + 1), by omega, rfl, c, p'⟩, fun x H' y => ?_⟩
    obtain ⟨T, z, rfl, hT, rfl, hx⟩ := y
    exact hs i z T H (hx xs sq) p hT
  · have e : i = xs.length := by omega
    subst e
    exact .inl ⟨⟨xs, sq, Nat.le_refl _⟩, hd H p⟩
end BF

/-! short words for readings: walk_at "rd" takes all steps that are plain -/
local macro_rules | `(tactic| walk_at "bn") => `(tactic| first | with_reducible assumption | ((with_reducible show BF.Bn _ ((_ : Int) % _)); exact BF.Bn.mod (by walk_at "bn") (by walk_at "ps")) | ((with_reducible show BF.Bn _ ((_ : Int) / _)); exact BF.Bn.div (by walk_at "bn") (by walk_at "ps")) | ((with_reducible show BF.Bn _ ((_ : Int) * _)); exact BF.Bn.mul (by walk_at "bn") (by walk_at "bn")) | ((with_reducible show BF.Bn _ ((_ : Int) + _)); exact BF.Bn.add (by walk_at "bn") (by walk_at "bn")) | ((with_reducible show BF.Bn _ ((_ : Int) - _)); exact BF.Bn.sub (by walk_at "bn") (by walk_at "bn")) | exact BF.Sz.bn (by with_reducible assumption) | exact BF.bnl (n := 80) (by decide))
local macro_rules | `(tactic| walk_at "ps") => `(tactic| first | with_reducible assumption | decide | exact BF.Sz.pos (by with_reducible assumption) | omega)
local macro_rules | `(tactic| walk_at "sd") => `(tactic| first | with_reducible assumption | ((with_reducible show L2.CPow _ _); exact ⟨by decide, by decide, by decide⟩) | ((with_reducible show L2.CDivW _ _); first | exact BF.divOk_lit (by decide) (by decide) | exact BF.Bn.divOk (by walk_at "bn") (by walk_at "ps") (by decide) (by decide)) | ((with_reducible show L2.CMulX _ _); exact BF.Bn.mulOk (by walk_at "bn") (by walk_at "bn") (by decide)) | ((with_reducible show _ ≤ PySem.sizeLine); exact BF.size4 (by simp)) | ((with_reducible show (0 : Int) < _); walk_at "ps") | ((with_reducible show (_ : Int) ≤ _); omega) | ((with_reducible show (_ : Int) < _); omega))
local macro_rules | `(tactic| walk_at "rd1") => `(tactic| first | refine And.intro (by walk_at "sd") ?_ | refine ⟨_, rfl, ?_⟩ | refine And.intro rfl ?_ | refine ⟨_, _, rfl, rfl, ?_⟩ | refine ⟨_, _, rfl, ?_⟩ | refine ⟨_, _, _, rfl, ?_⟩)
local macro_rules | `(tactic| walk_at "rd") => `(tactic| repeat walk_at "rd1")

/-! ### sums.py -/
namespace BF
open PySem PySem.Spec PyProof.Rows L2
/-- is_number(x): x of the built-in type T -/
inductive SpIsNumber (K : PySem.W.Frag) : Sp where
  | mk {x : V} {T : String} {i b : Bool} {H : Hp} {Q : VK} {E : XK} (ty : TyX K H x (.type T)) (hi : kitB T "int" = some i) (hb : kitB T "bool" = some b) (q : Q (.bl (i && !b)) H) : SpIsNumber K [x] H Q E
theorem num_int {K : PySem.W.Frag} {H : Hp} {Q : VK} {E : XK} {n : Int} (q : Q (.bl true) H) : SpIsNumber K [.int n] H Q E := .mk (T := "int") (i := true) (b := false) (.base (.int n)) (by decide +kernel) (by decide +kernel) q
section
variable {P : Program} {w : World} {K : PySem.W.Frag} {mg : Str → Option Value} {base : Heap}
theorem H_is_number (p : Pl K mg "is_number" s_is_number) (B : Bi mg) : Has P w K mg base CX0 1 "is_number" ["thing"] (SpIsNumber K) := by
  refine p.mk0 sc_is_number (fun _ _ _ _ _ _ us hl => match us, hl with | [_], _ => rfl) (fun vs H Q E h => ?_) (fun f cdv A outer s H vs Q E hr h => ?_)
  · cases h; rfl
  · obtain @⟨x, T, i, b, _, _, _, hT, hi, hb, q⟩ := h
    refine ⟨_, (pss_one (ps_ret (pe_and (pe_callB (r := rIsi K) call_isi (by rfl) B.isinstance (by decide +kernel) (pa_cons (pv 0) (pa_cons (pe_bltn (v := .ty "int") (by rfl) B.int (by decide +kernel) rfl) pa_nil))) (pe_one (pe_not (pe_callB (r := rIsi K) call_isi (by rfl) B.isinstance (by decide +kernel) (pa_cons (pv 0) (pa_cons (pe_bltn (v := .ty "bool") (by rfl) B.bool (by decide +kernel) rfl) pa_nil)))))))), ?_⟩
    refine ⟨_, rfl, x, _, _, _, i, rfl, .ty "int", hT, kit_ty hi, i, rfl, ?_⟩
    cases i with
    | false => exact iteF q
    | true => exact iteT ⟨_, rfl, x, _, _, _, b, rfl, .ty "bool", hT, kit_ty hb, b, rfl, q⟩
theorem ints_at {ns : List Int} {i : Nat} {y : V} (h : (ns.map V.int)[i]? = some y) : ∃ n, ns[i]? = some n ∧ y = .int n := by
  rw [List.getElem?_map] at h
  cases e : ns[i]? with
  | none => rw [e] at h; cases h
  | some n =>
    rw [e] at h
    exact ⟨n, rfl, (Option.some.inj h).symm⟩
end
end BF

namespace BF
open PySem PySem.Spec PyProof.Rows L2
inductive SpShared : Sp where
  | mk {a b : Int} {H : Hp} {Q : VK} {E : XK} (ha : Sz a) (hb : Sz b) (q : ∀ g t p H', Good a b g t → g ≤ b → 0 ≤ t → t < b → Same H H' → H' p = some (.tup [.int g, .int t]) → Q (.ref p) H') : SpShared [.int a, .int b] H Q E
/-- what parts_of hands back: None, or a new pair -/
def tellParts (x : Option (Int × Int)) (H : Hp) (Q : VK) : Prop := match x with
  | none => ∀ H', Same H H' → Q .non H'
  | some y => ∀ p H', Same H H' → H p = none → H' p = some (.tup [.int y.1, .int y.2]) → Q (.ref p) H'
theorem tellParts.mono {x : Option (Int × Int)} {H H' : Hp} {Q : VK} (q : tellParts x H Q) (sm : Same H H') : tellParts x H' Q := by
  cases x with
  | none => exact fun H2 s2 => q H2 (sm.trans s2)
  | some y => exact fun p H2 s2 hn hp => q p H2 (sm.trans s2) (sm.free hn) hp
/-- the value that tells x -/
def Told (x : Option (Int × Int)) (H : Hp) (v : V) : Prop := match x with
  | none => v = .non
  | some y => ∃ p, v = .ref p ∧ H p = some (.tup [.int y.1, .int y.2])
theorem Told.mono {x : Option (Int × Int)} {H H' : Hp} {v : V} (h : Told x H v) (sm : Same H H') : Told x H' v := by
  cases x with
  | none => exact h
  | some y =>
    obtain ⟨p, e, hp⟩ := h
    exact ⟨p, e, sm _ _ hp⟩
theorem tell_of {x : Option (Int × Int)} {H : Hp} {Q : VK} (q : ∀ v H', Same H H' → Told x H' v → Q v H') : tellParts x H Q := by
  cases x with
  | none => exact fun H' sm => q _ H' sm rfl
  | some y => exact fun p H' sm _ hp => q _ H' sm ⟨p, rfl, hp⟩
inductive SpParts : Sp where
  | mk {s a b : Int} {H : Hp} {Q : VK} {E : XK} (hs : Sz s) (ha : Sz a) (hb : Sz b) (q : tellParts (parts s a b) H Q) : SpParts [.int s, .int a, .int b] H Q E
section
variable {P : Program} {w : World} {K : PySem.W.Frag} {mg : Str → Option Value} {base : Heap}
theorem H_shared (p : Pl K mg "shared" s_shared) : Has P w K mg base CX0 1 "shared" ["one", "other"] SpShared := by
  refine p.mk0 sc_shared (fun _ _ _ _ _ _ us hl => match us, hl with | [_, _], _ => rfl) (fun vs H Q E h => ?_) (fun f cdv A outer s H vs Q E hr h => ?_)
  · cases h; rfl
  · obtain @⟨a, b, _, _, _, ha, hb, q⟩ := h
    refine ⟨_, (pss_cons (ps_asg (pe_tup (pa_cons pe_int (pa_cons pe_int pa_nil))) (pg_tup (by rfl) (pgs_cons (pg_name (i := 2) sc_shared.nd rfl (Or.inl rfl)) (pgs_cons (pg_name (i := 3) sc_shared.nd rfl (Or.inl rfl)) pgs_nil))))
      (pss_cons (ps_set (i := 4) sc_shared.nd rfl (Or.inl rfl) (pv 1))
      (pss_cons (ps_while PassesOwn.never (pt_cmpR op_gt (pv 1) pe_int (nomark _)) (pss_cons (ps_set (i := 5) sc_shared.nd rfl (Or.inl rfl) (pe_op op_fdivW (pv 0) (pv 1)))
      (pss_cons (ps_par (i := 0) (j := 1) (by rfl) sc_shared.nd rfl rfl (by decide) rfl rfl (pa_cons (pv 1) (pa_cons (pe_op op_sub (pv 0) (pe_op op_mulX (pv 5) (pv 1))) pa_nil)) (by rfl))
      (pss_one (ps_par (i := 2) (j := 3) (by rfl) sc_shared.nd rfl rfl (by decide) rfl rfl (pa_cons (pv 3) (pa_cons (pe_op op_sub (pv 2) (pe_op op_mulX (pv 5) (pv 3))) pa_nil)) (by rfl))))))
      (pss_one (ps_ret (pe_tup (pa_cons (pv 0) (pa_cons (pe_op op_mod (pv 2) (pv 4)) pa_nil)))))))), ?_⟩
    refine ⟨by show 2 ≤ sizeLine; decide, fun p0 hp0 => ⟨p0, _, rfl, sqT upd_same, rfl, _, _, rfl, _, _, rfl, rfl, ?_⟩⟩
    have sm0 : Same H (upd H p0 (.tup [.int 1, .int 0])) := same_upd hp0
    refine ⟨_, rfl, while_by (fun σ H' => Same H H' ∧ ∃ one other mine theirs y, σ = [some (.int one), some (.int other), some (.int mine), some (.int theirs), some (.int b), y] ∧ ShInv a b one other mine theirs)
      (fun σ _ => slotN σ 1) ⟨sm0, a, b, 1, 0, none, rfl, ShInv.start ha.pos hb.pos⟩ ?_ (fun σ H Q Q' hq h => ?_)⟩
    · rintro σ H' ⟨sm, one, other, mine, theirs, y, rfl, I⟩
      have b1 : Bn 2000 one := by
        rcases I.l1 with l | l
        · exact ha.bn.of_le (Int.le_of_lt I.o1) l
        · exact hb.bn.of_le (Int.le_of_lt I.o1) l
      have b2 : Bn 2000 other := hb.bn.of_le I.o2 I.l2
      have b3 : Bn 2000 theirs := hb.bn.le I.theirs_le.1
      refine ⟨_, rfl, _, _, rfl, rfl, _, rfl, iteD (fun ho => ?_) (fun ho' => ?_)⟩
      · have ho : 0 < other := ho
        have bq : Bn 2000 (one / other) := b1.div ho
        obtain ⟨t1, t2, t3⟩ := I.turn ho
        refine ⟨_, rfl, _, rfl, _, _, rfl, rfl, b2.divOk ho (by decide) (by decide), ?_⟩
        refine ⟨_, rfl, _, rfl, _, rfl, _, rfl, _, _, rfl, rfl, bq.mulOk b2 (by decide), _, _, rfl, rfl, _, _, rfl, ?_⟩
        refine ⟨_, rfl, _, rfl, _, rfl, _, rfl, _, _, rfl, rfl, bq.mulOk b3 (by decide), _, _, rfl, rfl, _, _, rfl, ?_⟩
        exact ⟨⟨sm, _, _, _, _, _, rfl, t1⟩, (show (one - one / other * other).toNat < other.toNat by omega)⟩
      · have ho : other = 0 := by
          have h1 : ¬ 0 < other := ho'
          have h2 := I.o2
          omega
        subst ho
        obtain ⟨G, l⟩ := I.done ha.pos hb.pos
        refine ⟨_, rfl, _, rfl, _, rfl, _, _, rfl, rfl, hb.pos, by show 2 ≤ sizeLine; decide, fun p hp => ?_⟩
        exact q _ _ p _ G l (Int.emod_nonneg _ (Int.ne_of_gt hb.pos)) (Int.emod_lt_of_pos _ hb.pos) (sm.trans (same_upd hp)) upd_same
    · obtain ⟨v, e, i, j, e1, e2, k, e3, q⟩ := h
      exact ⟨v, e, i, j, e1, e2, k, e3, hq _ _ q⟩
theorem H_parts_of (p : Pl K mg "parts_of" s_parts_of) (h_shared : Has P w K mg base CX0 1 "shared" ["one", "other"] SpShared) : Has P w K mg base CX0 2 "parts_of" ["size", "first", "second"] SpParts := by
  refine p.mk0 sc_parts_of (fun _ _ _ _ _ _ us hl => match us, hl with | [_, _, _], _ => rfl) (fun vs H Q E h => ?_) (fun f cdv A outer s H vs Q E hr h => ?_)
  · cases h; rfl
  · obtain @⟨sz, a, b, _, _, _, hs, ha, hb, q⟩ := h
    refine ⟨_, (pss_cons (ps_asg (pe_fn h_shared (hr.mono (by decide)) pass0 (pa_cons (pv 1) (pa_cons (pv 2) pa_nil))) (pg_tup (by rfl) (pgs_cons (pg_name (i := 3) sc_parts_of.nd rfl (Or.inl rfl)) (pgs_cons (pg_name (i := 4) sc_parts_of.nd rfl (Or.inl rfl)) pgs_nil))))
      (pss_cons (ps_if (pt_cmpR op_ne (pe_op op_mod (pv 0) (pv 3)) pe_int (nomark _)) (pss_one (ps_ret pe_non)) pss_nil)
      (pss_cons (ps_set (i := 5) sc_parts_of.nd rfl (Or.inl rfl) (pe_op op_mod (pe_op op_mulX (pe_op op_fdivW (pv 0) (pv 3)) (pv 4)) (pe_op op_fdivW (pv 2) (pv 3))))
      (pss_cons (ps_if (pt_cmpR op_gt (pe_op op_mulX (pv 5) (pv 1)) (pv 0) (nomark _)) (pss_one (ps_ret pe_non)) pss_nil)
      (pss_one (ps_ret (pe_tup (pa_cons (pv 5) (pa_cons (pe_op op_fdivW (pe_op op_sub (pv 0) (pe_op op_mulX (pv 5) (pv 1))) (pv 2)) pa_nil))))))))), ?_⟩
    refine ⟨_, rfl, _, rfl, .mk ha hb fun g t p H1 G lg t0 t1 sm hp => ?_⟩
    refine ⟨p, _, rfl, sqT hp, rfl, _, _, rfl, _, _, rfl, rfl, ?_⟩
    have e := parts_good (s := sz) ha.pos hb.pos G
    have bg : Bn 2000 g := hb.bn.of_le (Int.le_of_lt G.pos) lg
    have bt : Bn 2000 t := hb.bn.of_le t0 (Int.le_of_lt t1)
    have hbg : 0 < b / g := by
      obtain ⟨c, ec⟩ := G.gb
      have := hb.pos
      have e2 : b / g = c := by rw [ec]; exact Int.mul_ediv_cancel_left c (Int.ne_of_gt G.pos)
      rw [e2]
      rcases Int.lt_or_le 0 c with h | h
      · exact h
      · have h3 : g * c ≤ g * 0 := Int.mul_le_mul_of_nonneg_left h (Int.le_of_lt G.pos)
        omega
    refine ⟨_, rfl, _, rfl, _, _, rfl, rfl, G.pos, rfl, _, rfl, iteNe (fun c1 => ?_) (fun c2 => ?_)⟩
    · have c1 : sz % g ≠ 0 := c1
      rw [if_pos c1] at e
      rw [e] at q
      exact q _ sm
    · have c1 : ¬ sz % g ≠ 0 := fun z => z c2
      rw [if_neg c1] at e
      have bf : Bn 2000 (sz / g * t % (b / g)) := (hb.bn.div G.pos).mod hbg
      refine ⟨_, rfl, _, rfl, _, _, rfl, rfl, bg.divOk G.pos (by decide) (by decide), _, rfl, _, _, rfl, rfl, (hs.bn.div G.pos).mulOk bt (by decide), _, rfl, _, rfl, _, _, rfl, rfl, bg.divOk G.pos (by decide) (by decide), _, _, rfl, rfl, hbg, ?_⟩
      refine ⟨_, rfl, _, rfl, _, _, rfl, rfl, bf.mulOk ha.bn (by decide), _, rfl, _, _, rfl, rfl, _, rfl, iteD (fun d => ?_) (fun d => ?_)⟩
      · rw [if_pos d] at e
        rw [e] at q
        exact q _ sm
      · rw [if_neg d] at e
        rw [e] at q
        refine ⟨_, rfl, _, rfl, _, rfl, _, rfl, _, _, rfl, rfl, bf.mulOk ha.bn (by decide), _, _, rfl, rfl, _, rfl, _, _, rfl, rfl, hb.bn.divOk hb.pos (by decide) (by decide), by show 2 ≤ sizeLine; decide, fun p' hp' => ?_⟩
        exact q p' _ (sm.trans (same_upd hp')) (sm.free hp') upd_same
end
end BF

/-! ### the laws' own helpers: a drawn number, the fewest -/
namespace BF
open PySem PySem.Spec PyProof.Rows L2
/-- some number -/
inductive SpNumber : Sp where
  | mk {cell at_ whole : Int} {H : Hp} {Q : VK} {E : XK} (hc : Bn 1048577 cell) (ha : Bn 10 at_) (q : ∀ n, Q (.int n) H) : SpNumber [.int cell, .int at_, .int whole] H Q E
section
variable {P : Program} {w : World} {K : PySem.W.Frag} {mg : Str → Option Value} {base : Heap}
theorem H__law_number (p : Pl K mg "_law_number" s__law_number) : Has P w K mg base CX0 1 "_law_number" ["_law_cell", "_law_at", "_law_whole"] SpNumber := by
  refine p.mk0 sc__law_number (fun _ _ _ _ _ _ us hl => match us, hl with | [_, _, _], _ => rfl) (fun vs H Q E h => ?_) (fun f cdv A outer s H vs Q E hr h => ?_)
  · cases h; rfl
  · obtain @⟨cell, at_, whole, _, _, _, hc, ha, q⟩ := h
    refine ⟨_, (pss_cons (ps_if (pt_cmpR op_ge (pv 0) (pe_op op_pow pe_int pe_int) (nomark _)) (pss_one (ps_ret (pv 0))) pss_nil)
      (pss_cons (ps_set (i := 3) sc__law_number.nd rfl (Or.inl rfl) (pe_op op_mod (pe_op op_add (pe_op op_mulX (pe_op op_add (pv 0) (pe_op op_mulX pe_int (pv 1))) pe_int) (pv 2)) pe_int))
      (pss_cons (ps_set (i := 4) sc__law_number.nd rfl (Or.inl rfl) (pe_op op_mulX (pe_op op_mulX (pv 3) (pe_op op_add (pe_op op_add (pv 3) (pe_op op_mulX pe_int (pv 1))) pe_int)) (pe_op op_add (pe_op op_add (pv 3) (pv 0)) pe_int)))
      (pss_one (ps_ret (pe_op op_fdivW (pe_op op_mulX (pv 4) (pe_op op_add (pv 4) pe_int)) pe_int)))))), ?_⟩
    refine ⟨_, rfl, _, _, rfl, rfl, ⟨by decide, by decide, by decide⟩, _, _, rfl, rfl, _, rfl, iteD (fun _ => ⟨_, rfl, q _⟩) (fun _ => ?_)⟩
    have b1 : Bn 20 (977 * at_) := ((bnl (n := 10) (x := 977) (by decide)).mul ha).mono (by decide)
    have b2 : Bn 1048598 (cell + 977 * at_) := (hc.add b1).mono (by decide)
    refine ⟨_, rfl, _, rfl, _, _, rfl, rfl, (bnl (n := 10) (by decide)).mulOk ha (by decide), _, _, rfl, rfl, _, _, rfl, rfl, b2.mulOk (bnl (n := 16) (by decide)) (by decide), _, rfl, _, _, rfl, rfl, _, _, rfl, rfl, by show (0 : Int) < 2147483647; decide, ?_⟩
    dsimp only
    generalize hm : ((cell + 977 * at_) * 48271 + whole) % 2147483647 = m
    have b3 : Bn 31 m := by
      rw [← hm]
      exact Bn.mod (bnl (by decide)) (by decide)
    have b4 : Bn 17 (31 * at_) := ((bnl (n := 5) (x := 31) (by decide)).mul ha).mono (by decide)
    have b5 : Bn 60 (m + 31 * at_ + 7) := ((b3.add b4).add (bnl (n := 3) (x := 7) (by decide))).mono (by decide)
    have b6 : Bn 1048700 (m + cell + 5) := ((b3.add hc).add (bnl (n := 3) (x := 5) (by decide))).mono (by decide)
    have b7 : Bn 91 (m * (m + 31 * at_ + 7)) := (b3.mul b5).mono (by decide)
    refine ⟨_, rfl, _, rfl, _, rfl, _, _, rfl, rfl, (bnl (n := 5) (by decide)).mulOk ha (by decide), _, _, rfl, rfl, _, _, rfl, rfl, _, _, rfl, rfl, b3.mulOk b5 (by decide), _, rfl, _, rfl, _, _, rfl, rfl, _, _, rfl, rfl, _, _, rfl, rfl, b7.mulOk b6 (by decide), ?_⟩
    have b8 : Bn 1048791 (m * (m + 31 * at_ + 7) * (m + cell + 5)) := (b7.mul b6).mono (by decide)
    dsimp only
    generalize m * (m + 31 * at_ + 7) * (m + cell + 5) = x at b8 ⊢
    have b9 : Bn 1048900 (x + 48271) := (b8.add (bnl (n := 16) (x := 48271) (by decide))).mono (by decide)
    exact ⟨_, rfl, _, rfl, _, _, rfl, rfl, _, _, rfl, rfl, b8.mulOk b9 (by decide), _, _, rfl, rfl, divOk_lit (by decide) (by decide), q _⟩

end
end BF

/-! ### what bars, in plain words -/
namespace BF
open PySem L2
def strB (L W d : Int) : Bool := !decide (L % d = 0) && !decide (W % d = 0)
noncomputable def shoB (x f s : Int) : Bool := (parts x f s).isNone
/-- those of 0, 1 that are so -/
def two (a b : Bool) : List Int := (if a then [0] else []) ++ (if b then [1] else [])
def strL (L W f s : Int) : List Int := two (strB L W f) (strB L W s)
noncomputable def shoL (L W f s : Int) : List Int := two (shoB L f s) (shoB W f s)
/-- whether a side bars: 0, 1 of the brick, 2, 3 of the floor -/
noncomputable def barB (L W f s : Int) (k : Int) : Bool := if k < 2 then strB L W (if k = 0 then f else s) else shoB (if k = 2 then L else W) f s
end BF
namespace BF
theorem sho_no {x f s m n : Int} (hf : 0 < f) (hs : 0 < s) (h : Rep x f s m n) : shoB x f s = false := by
  have p := parts_is (s := x) hf hs
  unfold shoB
  cases e : parts x f s with
  | none =>
    rw [e] at p
    exact absurd h (p m n)
  | some y => rfl
theorem sho_yes {x f s : Int} (hs : 0 < s) (h : ∀ m n, ¬ Rep x f s m n) : shoB x f s = true := by
  have p := parts_eq (s := x) (a := f) (b := s) (x := none) hs h
  unfold shoB
  rw [p]
  rfl
end BF

/-! ### answers.py: what bars -/
namespace BF
open PySem PySem.Spec PyProof.Rows L2
inductive SpStriped : Sp where
  | mk {L W d : Int} {H : Hp} {Q : VK} {E : XK} (hd : 0 < d) (q : Q (.bl (strB L W d)) H) : SpStriped [.int L, .int W, .int d] H Q E
inductive SpBars : Sp where
  | mk {L W f s : Int} {H : Hp} {Q : VK} {E : XK} (hL : Sz L) (hW : Sz W) (hf : Sz f) (hs : Sz s)
      (q : ∀ p p1 p2 H', Same H H' → H' p = some (.tup [.ref p1, .ref p2]) → H' p1 = some (.lst ((strL L W f s).map V.int)) → H' p2 = some (.lst ((shoL L W f s).map V.int)) → Q (.ref p) H') : SpBars [.int L, .int W, .int f, .int s] H Q E
/-- what two tests have picked behind i turns -/
def twoN (a b : Bool) : Nat → List Int
  | 0 => []
  | 1 => if a then [0] else []
  | _ => two a b
section
variable {P : Program} {w : World} {K : PySem.W.Frag} {mg : Str → Option Value} {base : Heap}
theorem H_is_striped (p : Pl K mg "is_striped" s_is_striped) : Has P w K mg base CX0 1 "is_striped" ["length", "width", "side"] SpStriped := by
  refine p.mk0 sc_is_striped (fun _ _ _ _ _ _ us hl => match us, hl with | [_, _, _], _ => rfl) (fun vs H Q E h => ?_) (fun f cdv A outer s H vs Q E hr h => ?_)
  · cases h; rfl
  · obtain @⟨L, W, d, _, _, _, hd, q⟩ := h
    refine ⟨_, (pss_one (ps_ret (pe_and (pe_cmpR op_ne (pe_op op_mod (pv 0) (pv 2)) pe_int (nomark _)) (pe_one (pe_cmpR op_ne (pe_op op_mod (pv 1) (pv 2)) pe_int (nomark _)))))), ?_⟩
    unfold strB at q
    walk_at "rd"
    refine iteNe (fun c => ?_) (fun c => ?_)
    · rw [decide_eq_false c] at q
      walk_at "rd"
      have e : decide (V.int (W % d) = V.int 0) = decide (W % d = 0) := decide_eq_decide.mpr ⟨fun z => V.int.inj z, fun z => congrArg V.int z⟩
      rw [show (!decide (V.int (W % d) = V.int 0)) = (!false && !decide (W % d = 0)) by rw [e]; rfl]
      exact q
    · rw [decide_eq_true c] at q
      exact q
theorem H_what_bars (p : Pl K mg "what_bars" s_what_bars) (B : Bi mg) (h_is_striped : Has P w K mg base CX0 1 "is_striped" ["length", "width", "side"] SpStriped) (h_parts_of : Has P w K mg base CX0 2 "parts_of" ["size", "first", "second"] SpParts) :
    Has P w K mg base CX0 3 "what_bars" ["length", "width", "first", "second"] SpBars := by
  refine p.mk0 sc_what_bars (fun _ _ _ _ _ _ us hl => match us, hl with | [_, _, _, _], _ => rfl) (fun vs H Q E h => ?_) (fun f cdv A outer s H vs Q E hr h => ?_)
  · cases h; rfl
  · obtain @⟨L, W, fi, se, _, _, _, hL, hW, hf, hs, q⟩ := h
    refine ⟨_, (pss_cons (ps_setLc (i := 4) (own := [("which", 6), ("side", 7)]) (g := (gTup K 2 (gCons (gName 6) (gCons (gName 7) gNil)))) (by rfl) sc_what_bars.nd rfl rfl (sw_true rfl rfl rfl (by decide +kernel)) (pi_enumT (by rfl) B.enumerate (pa_cons (pe_tup (pa_cons (pv 2) (pa_cons (pv 3) pa_nil))) pa_nil)) (blkOk_by (own := [("which", 6), ("side", 7)]) (N := ["length", "width", "first", "second", "striped", "short", "which", "side"]) (sc := defScope s_what_bars) (by decide +kernel)) (fun _ _ _ _ _ => (pg_tup (by rfl) (pgs_cons (pg_name (i := 6) sc_what_bars.nd rfl (Or.inl rfl)) (pgs_cons (pg_name (i := 7) sc_what_bars.nd rfl (Or.inl rfl)) pgs_nil)))) (fun _ _ _ _ _ => pts_one (pt_val (pe_fn h_is_striped (hr.mono (by decide)) pass0 (pa_cons (pv 0) (pa_cons (pv 1) (pa_cons (pv 7) pa_nil)))))) (fun _ _ _ _ _ => (pv 6)))
      (pss_cons (ps_setLc (i := 5) (own := [("which", 6), ("side", 7)]) (g := (gTup K 2 (gCons (gName 6) (gCons (gName 7) gNil)))) (by rfl) sc_what_bars.nd rfl rfl (sw_true rfl rfl rfl (by decide +kernel)) (pi_enumT (by rfl) B.enumerate (pa_cons (pe_tup (pa_cons (pv 0) (pa_cons (pv 1) pa_nil))) pa_nil)) (blkOk_by (own := [("which", 6), ("side", 7)]) (N := ["length", "width", "first", "second", "striped", "short", "which", "side"]) (sc := defScope s_what_bars) (by decide +kernel)) (fun _ _ _ _ _ => (pg_tup (by rfl) (pgs_cons (pg_name (i := 6) sc_what_bars.nd rfl (Or.inl rfl)) (pgs_cons (pg_name (i := 7) sc_what_bars.nd rfl (Or.inl rfl)) pgs_nil)))) (fun _ _ _ _ _ => pts_one (pt_cmpR op_isN (pe_fn h_parts_of (hr.mono (by decide)) pass0 (pa_cons (pv 7) (pa_cons (pv 2) (pa_cons (pv 3) pa_nil)))) pe_non (nomark _))) (fun _ _ _ _ _ => (pv 6)))
      (pss_one (ps_ret (pe_tup (pa_cons (pv 4) (pa_cons (pv 5) pa_nil))))))), ?_⟩
    walk_at "rd"
    intro t1 ht1
    generalize hH1 : upd H t1 _ = H1
    obtain ⟨sm1, up1⟩ : Same H H1 ∧ H1 t1 = some (.tup [.int fi, .int se]) := newH hH1 ht1
    clear hH1
    refine ⟨t1, _, rfl, sqT up1, fun D1 hD1 => lc_enumT (K := K) (a := t1) (xs := [.int fi, .int se]) (fun i H' => Same H1 H' ∧ H' D1 = some (.lst ((twoN (strB L W fi) (strB L W se) i).map V.int))) ⟨same_upd hD1, upd_same⟩ (fun i H' _ ⟨sm, _⟩ => sqT (sm _ _ up1)) ?_ ?_⟩
    · rintro i x T H' hx ⟨sm, eD⟩ hT
      obtain ⟨d, rfl, hd⟩ : ∃ d : Int, x = .int d ∧ ((i = 0 ∧ d = fi) ∨ (i = 1 ∧ d = se)) := by
        match i, hx with
        | 0, e => cases e; exact ⟨_, rfl, .inl ⟨rfl, rfl⟩⟩
        | 1, e => cases e; exact ⟨_, rfl, .inr ⟨rfl, rfl⟩⟩
        | n + 2, e => cases e
      have hdp : 0 < d := by
        rcases hd with ⟨_, rfl⟩ | ⟨_, rfl⟩
        · exact hf.pos
        · exact hs.pos
      have eD2 := same_upd (o := .tup [.int (i : Nat), .int d]) hT _ _ eD
      refine ⟨T, _, rfl, sqT upd_same, rfl, ?_⟩
      have sm2 : Same H1 (upd H' T (.tup [.int (i : Nat), .int d])) := sm.trans (same_upd hT)
      generalize upd H' T (.tup [.int (i : Nat), .int d]) = H2 at eD2 sm2 ⊢
      walk_at "rd"
      refine .mk hdp ⟨_, rfl, iteB (fun c => ?_) (fun c => ?_)⟩
      · refine ⟨_, rfl, _, eD2, ?_, ?_, ?_⟩
        · rw [List.length_map]
          refine Nat.lt_of_le_of_lt (m := 2) ?_ (by decide)
          rcases hd with ⟨rfl, _⟩ | ⟨rfl, _⟩
          · exact Nat.zero_le _
          · show (if strB L W fi then [(0 : Int)] else []).length ≤ 2; split <;> decide
        · exact fun b o e => by rw [upd_ne (ne_of_none e hD1)]; exact sm2 b o e
        · rw [upd_same]
          rcases hd with ⟨rfl, rfl⟩ | ⟨rfl, rfl⟩
          · show some (HO.lst ([] ++ [V.int 0])) = some (HO.lst ((if strB L W d then [0] else []).map V.int))
            rw [c]
            rfl
          · show some (HO.lst ((if strB L W fi then [0] else []).map V.int ++ [V.int 1])) = some (HO.lst ((two (strB L W fi) (strB L W d)).map V.int))
            unfold two
            rw [c, List.map_append]
            rfl
      · refine ⟨sm2, ?_⟩
        rw [eD2]
        rcases hd with ⟨rfl, rfl⟩ | ⟨rfl, rfl⟩
        · show some (HO.lst []) = some (HO.lst ((if strB L W d then [0] else []).map V.int))
          rw [c]
          rfl
        · show some (HO.lst ((if strB L W fi then [0] else []).map V.int)) = some (HO.lst ((two (strB L W fi) (strB L W d)).map V.int))
          unfold two
          rw [c]
          simp
    · rintro H2 ⟨sm2, eD1⟩
      walk_at "rd"
      intro t2 ht2
      generalize hH3 : upd H2 t2 _ = H3
      obtain ⟨sm3, up3⟩ : Same H2 H3 ∧ H3 t2 = some (.tup [.int L, .int W]) := newH hH3 ht2
      clear hH3
      refine ⟨t2, _, rfl, sqT up3, fun D2 hD2 => lc_enumT (K := K) (a := t2) (xs := [.int L, .int W]) (fun i H' => Same H3 H' ∧ H' D2 = some (.lst ((twoN (shoB L fi se) (shoB W fi se) i).map V.int))) ⟨same_upd hD2, upd_same⟩ (fun i H' _ ⟨sm, _⟩ => sqT (sm _ _ up3)) ?_ ?_⟩
      · rintro i x T H' hx ⟨sm, eD⟩ hT
        obtain ⟨d, rfl, hd⟩ : ∃ d : Int, x = .int d ∧ ((i = 0 ∧ d = L) ∨ (i = 1 ∧ d = W)) := by
          match i, hx with
          | 0, e => cases e; exact ⟨_, rfl, .inl ⟨rfl, rfl⟩⟩
          | 1, e => cases e; exact ⟨_, rfl, .inr ⟨rfl, rfl⟩⟩
          | n + 2, e => cases e
        have hdp : Sz d := by
          rcases hd with ⟨_, rfl⟩ | ⟨_, rfl⟩
          · exact hL
          · exact hW
        have eD2 := same_upd (o := .tup [.int (i : Nat), .int d]) hT _ _ eD
        refine ⟨T, _, rfl, sqT upd_same, rfl, ?_⟩
        have sm4 : Same H3 (upd H' T (.tup [.int (i : Nat), .int d])) := sm.trans (same_upd hT)
        generalize upd H' T (.tup [.int (i : Nat), .int d]) = H4 at eD2 sm4 ⊢
        walk_at "rd"
        refine .mk hdp hf hs (tell_of fun v H5 sm5 tv => ?_)
        have ev : (decide (v = .non)) = shoB d fi se := by
          unfold shoB
          cases hp : parts d fi se with
          | none =>
            rw [hp] at tv
            obtain rfl : v = .non := tv
            rfl
          | some y =>
            rw [hp] at tv
            obtain ⟨p5, rfl, _⟩ := tv
            rfl
        refine ⟨rfl, _, rfl, ?_⟩
        rw [ev]
        replace eD2 := sm5 _ _ eD2
        replace sm4 := sm4.trans sm5
        refine iteB (fun c => ?_) (fun c => ?_)
        · refine ⟨_, rfl, _, eD2, ?_, ?_, ?_⟩
          · rw [List.length_map]
            refine Nat.lt_of_le_of_lt (m := 2) ?_ (by decide)
            rcases hd with ⟨rfl, _⟩ | ⟨rfl, _⟩
            · exact Nat.zero_le _
            · show (if shoB L fi se then [(0 : Int)] else []).length ≤ 2; split <;> decide
          · exact fun b o e => by rw [upd_ne (ne_of_none e hD2)]; exact sm4 b o e
          · rw [upd_same]
            rcases hd with ⟨rfl, rfl⟩ | ⟨rfl, rfl⟩
            · show some (HO.lst ([] ++ [V.int 0])) = some (HO.lst ((if shoB d fi se then [0] else []).map V.int))
              rw [c]
              rfl
            · show some (HO.lst ((if shoB L fi se then [0] else []).map V.int ++ [V.int 1])) = some (HO.lst ((two (shoB L fi se) (shoB d fi se)).map V.int))
              unfold two
              rw [c, List.map_append]
              rfl
        · refine ⟨sm4, ?_⟩
          rw [eD2]
          rcases hd with ⟨rfl, rfl⟩ | ⟨rfl, rfl⟩
          · show some (HO.lst []) = some (HO.lst ((if shoB d fi se then [0] else []).map V.int))
            rw [c]
            rfl
          · show some (HO.lst ((if shoB L fi se then [0] else []).map V.int)) = some (HO.lst ((two (shoB L fi se) (shoB d fi se)).map V.int))
            unfold two
            rw [c]
            simp
      · rintro H4 ⟨sm4, eD2⟩
        walk_at "rd"
        intro t3 ht3
        have e1 : H4 D1 = _ := sm4 _ _ (sm3 _ _ eD1)
        exact q t3 D1 D2 _ (sm1.trans (sm2.trans (sm3.trans (sm4.trans (same_upd ht3))))) upd_same (same_upd ht3 _ _ e1) (same_upd ht3 _ _ eD2)
end
end BF

/-! ### Laid, Striped, Short: what they show -/
namespace BF
open PySem PySem.Spec PyProof.Rows L2
/-- whether an answer is as told -/
noncomputable def due4 (L W f s : Int) : Ans → Bool
  | .laid => (strL L W f s).isEmpty && (shoL L W f s).isEmpty
  | .striped (.int i) => if i = 0 then strB L W f else if i = 1 then strB L W s else false
  | .short (.int i) => if i = 0 then shoB L f s else if i = 1 then shoB W f s else false
  | _ => false
/-- answers of these classes -/
inductive A4 : Ans → Prop where
  | laid : A4 .laid
  | striped (i : Int) : A4 (.striped (.int i))
  | short (i : Int) : A4 (.short (.int i))
inductive SpShows4 (K : PySem.W.Frag) (x : Cl) : Sp where
  | mk {p : Addr} {a : Ans} {L W f s : Int} {H : Hp} {Q : VK} {E : XK} (ha : AnsAt K H p a) (hx : a.cl = x) (h4 : A4 a) (hL : Sz L) (hW : Sz W) (hf : Sz f) (hs : Sz s) (q : ∀ H', Same H H' → Q (.bl (due4 L W f s a)) H') :
    SpShows4 K x [.ref p, .int L, .int W, .int f, .int s] H Q E
theorem two_eqv (a b c d : Bool) : PyData.eqv (.tuple [.list ((two a b).map .int), .list ((two c d).map .int)]) (.tuple [.list [], .list []]) = ((two a b).isEmpty && (two c d).isEmpty) := by
  cases a <;> cases b <;> cases c <;> cases d <;> rfl
theorem two_shaped (a b c d : Bool) : SeqAt.shaped (.tuple [.list ((two a b).map .int), .list ((two c d).map .int)]) = true := by
  cases a <;> cases b <;> cases c <;> cases d <;> rfl
theorem in01 (i : Int) : inV (.int i) [.int 0, .int 1] = (decide (i = 0) || decide (i = 1)) := by
  by_cases h0 : i = 0
  · subst h0; rfl
  · by_cases h1 : i = 1
    · subst h1; rfl
    · rw [decide_eq_false h0, decide_eq_false h1]
      have e0 : ((0 : Int) == i) = false := beq_eq_false_iff_ne.mpr (Ne.symm h0)
      have e1 : ((1 : Int) == i) = false := beq_eq_false_iff_ne.mpr (Ne.symm h1)
      show (((0 : Int) == i) || (((1 : Int) == i) || false)) = (false || false)
      rw [e0, e1]
      rfl
section
variable {P : Program} {w : World} {K : PySem.W.Frag} {mg : Str → Option Value} {base : Heap}
theorem H_Laid_shows (p : PlM K .laid "shows" "Laid.shows" s_Laid_shows) (h_what_bars : Has P w K mg base CX0 3 "what_bars" ["length", "width", "first", "second"] SpBars) :
    HasM P w K mg base CX0 4 .laid "shows" ["self", "length", "width", "first", "second"] (SpShows4 K .laid) := by
  refine p.mk0 sc_Laid_shows (fun _ _ _ _ _ _ us hl => match us, hl with | [_, _, _, _, _], _ => rfl) (fun vs H Q E h => ?_) (fun f cdv A outer s H vs Q E hr h => ?_)
  · cases h; rfl
  · obtain @⟨p, a, L, W, fi, se, _, _, _, ha, hx, h4, hL, hW, hf, hs, q⟩ := h
    refine ⟨_, (pss_one (ps_ret (pe_cmpR (r := rEqD K) (op_eqD hr.units) (pe_fn h_what_bars (hr.mono (by decide)) pass0 (pa_cons (pv 1) (pa_cons (pv 2) (pa_cons (pv 3) (pa_cons (pv 4) pa_nil))))) (pe_tup (pa_cons (pe_lst pa_nil) (pa_cons (pe_lst pa_nil) pa_nil))) (nomark _)))), ?_⟩
    cases h4 with
    | striped i => cases hx
    | short i => cases hx
    | laid =>
      walk_at "rd"
      refine .mk hL hW hf hs fun t p1 p2 H1 sm1 ht hp1 hp2 => ?_
      walk_at "rd"
      intro l1 hl1
      generalize hH2 : upd H1 l1 _ = H2
      obtain ⟨sm2, up2⟩ : Same H1 H2 ∧ H2 l1 = some (.lst []) := newH hH2 hl1
      clear hH2
      walk_at "rd"
      intro l2 hl2
      generalize hH3 : upd H2 l2 _ = H3
      obtain ⟨sm3, up3⟩ : Same H2 H3 ∧ H3 l2 = some (.lst []) := newH hH3 hl2
      clear hH3
      walk_at "rd"
      intro l3 hl3
      generalize hH4 : upd H3 l3 _ = H4
      obtain ⟨sm4, up4⟩ : Same H3 H4 ∧ H4 l3 = some (.tup [.ref l1, .ref l2]) := newH hH4 hl3
      clear hH4
      have smA : Same H1 H4 := sm2.trans (sm3.trans sm4)
      refine ⟨.tuple [.list ((strL L W fi se).map .int), .list ((shoL L W fi se).map .int)], .tuple [.list [], .list []],
        .tup (sqT (smA _ _ ht)) (.cons (.lst (sqL (smA _ _ hp1)) (dp_ints _)) (.cons (.lst (sqL (smA _ _ hp2)) (dp_ints _)) .nil)), .tup (sqT up4) (.cons (.lst (sqL (sm4 _ _ (sm3 _ _ up2))) .nil) (.cons (.lst (sqL (sm4 _ _ up3)) .nil) .nil)), two_shaped _ _ _ _, rfl, ?_⟩
      have e : PyData.eqv (.tuple [.list ((strL L W fi se).map .int), .list ((shoL L W fi se).map .int)]) (.tuple [.list [], .list []]) = due4 L W fi se .laid := two_eqv _ _ _ _
      rw [e]
      exact q _ (sm1.trans smA)
theorem H_Striped_shows (p : PlM K .striped "shows" "Striped.shows" s_Striped_shows) (G : ClG K mg) (h_is_striped : Has P w K mg base CX0 1 "is_striped" ["length", "width", "side"] SpStriped) :
    HasM P w K mg base CX0 2 .striped "shows" ["self", "length", "width", "first", "second"] (SpShows4 K .striped) := by
  refine p.mk0 sc_Striped_shows (fun _ _ _ _ _ _ us hl => match us, hl with | [_, _, _, _, _], _ => rfl) (fun vs H Q E h => ?_) (fun f cdv A outer s H vs Q E hr h => ?_)
  · cases h; rfl
  · obtain @⟨p, a, L, W, fi, se, _, _, _, ha, hx, h4, hL, hW, hf, hs, q⟩ := h
    refine ⟨_, (pss_one (ps_ret (pe_and (pe_cmpR (r := rIn K false) op_in_seq (pe_fld (pv 0) rfl) (pe_tup (pa_cons pe_int (pa_cons pe_int pa_nil))) (by rfl)) (pe_one (pe_fn h_is_striped (hr.mono (by decide)) pass0 (pa_cons (pv 1) (pa_cons (pv 2) (pa_cons (pe_ix (r := rIxT K) ix_tup (pe_tup (pa_cons (pv 3) (pa_cons (pv 4) pa_nil))) (pe_fld (pv 0) rfl) (fun _ _ => rfl)) pa_nil)))))))), ?_⟩
    cases h4 with
    | laid => cases hx
    | short i => cases hx
    | striped i =>
      obtain ⟨dx, hp⟩ := ha
      have F := G.f .striped (by decide)
      refine ⟨_, rfl, p, _, dx, _, _, rfl, hp, F.c, F.no, rfl, ?_⟩
      walk_at "rd"
      intro l1 hl1
      generalize hH1 : upd H l1 _ = H1
      obtain ⟨sm1, up1⟩ : Same H H1 ∧ H1 l1 = some (.tup [.int 0, .int 1]) := newH hH1 hl1
      clear hH1
      refine ⟨l1, _, rfl, .inr (sqT up1), rfl, rfl, _, rfl, ?_⟩
      rw [show (if false = true then !inV (.int i) [.int 0, .int 1] else inV (.int i) [.int 0, .int 1]) = (decide (i = 0) || decide (i = 1)) from in01 i]
      refine iteB (fun c => ?_) (fun c => ?_)
      · walk_at "rd"
        intro l2 hl2
        generalize hH2 : upd H1 l2 _ = H2
        obtain ⟨sm2, up2⟩ : Same H1 H2 ∧ H2 l2 = some (.tup [.int fi, .int se]) := newH hH2 hl2
        clear hH2
        have c2 : i = 0 ∨ i = 1 := by simpa using c
        refine ⟨_, rfl, p, _, dx, _, _, rfl, sm2 _ _ (sm1 _ _ hp), F.c, F.no, rfl, ?_⟩
        rcases c2 with rfl | rfl
        · exact ⟨l2, _, 0, .int fi, rfl, rfl, sqT up2, rfl, .mk hf.pos (q _ (sm1.trans sm2))⟩
        · exact ⟨l2, _, 1, .int se, rfl, rfl, sqT up2, rfl, .mk hs.pos (q _ (sm1.trans sm2))⟩
      · have c2 : ¬ i = 0 ∧ ¬ i = 1 := by simpa using c
        have e : due4 L W fi se (.striped (.int i)) = false := by
          show (if i = 0 then strB L W fi else if i = 1 then strB L W se else false) = false
          rw [if_neg c2.1, if_neg c2.2]
        rw [e] at q
        exact q _ sm1
theorem H_Short_shows (p : PlM K .short "shows" "Short.shows" s_Short_shows) (G : ClG K mg) (h_parts_of : Has P w K mg base CX0 2 "parts_of" ["size", "first", "second"] SpParts) :
    HasM P w K mg base CX0 3 .short "shows" ["self", "length", "width", "first", "second"] (SpShows4 K .short) := by
  refine p.mk0 sc_Short_shows (fun _ _ _ _ _ _ us hl => match us, hl with | [_, _, _, _, _], _ => rfl) (fun vs H Q E h => ?_) (fun f cdv A outer s H vs Q E hr h => ?_)
  · cases h; rfl
  · obtain @⟨p, a, L, W, fi, se, _, _, _, ha, hx, h4, hL, hW, hf, hs, q⟩ := h
    refine ⟨_, (pss_one (ps_ret (pe_and (pe_cmpR (r := rIn K false) op_in_seq (pe_fld (pv 0) rfl) (pe_tup (pa_cons pe_int (pa_cons pe_int pa_nil))) (by rfl)) (pe_one (pe_cmpR op_isN (pe_fn h_parts_of (hr.mono (by decide)) pass0 (pa_cons (pe_ix (r := rIxT K) ix_tup (pe_tup (pa_cons (pv 1) (pa_cons (pv 2) pa_nil))) (pe_fld (pv 0) rfl) (fun _ _ => rfl)) (pa_cons (pv 3) (pa_cons (pv 4) pa_nil)))) pe_non (nomark _)))))), ?_⟩
    cases h4 with
    | laid => cases hx
    | striped i => cases hx
    | short i =>
      obtain ⟨dx, hp⟩ := ha
      have F := G.f .short (by decide)
      have ev : ∀ (d : Int) (v : V) (H' : Hp), Told (parts d fi se) H' v → (decide (v = .non)) = shoB d fi se := fun d v H' tv => by
        unfold shoB
        cases hp : parts d fi se with
        | none =>
          rw [hp] at tv
          obtain rfl : v = .non := tv
          rfl
        | some y =>
          rw [hp] at tv
          obtain ⟨p5, rfl, _⟩ := tv
          rfl
      refine ⟨_, rfl, p, _, dx, _, _, rfl, hp, F.c, F.no, rfl, ?_⟩
      walk_at "rd"
      intro l1 hl1
      generalize hH1 : upd H l1 _ = H1
      obtain ⟨sm1, up1⟩ : Same H H1 ∧ H1 l1 = some (.tup [.int 0, .int 1]) := newH hH1 hl1
      clear hH1
      refine ⟨l1, _, rfl, .inr (sqT up1), rfl, rfl, _, rfl, ?_⟩
      rw [show (if false = true then !inV (.int i) [.int 0, .int 1] else inV (.int i) [.int 0, .int 1]) = (decide (i = 0) || decide (i = 1)) from in01 i]
      refine iteB (fun c => ?_) (fun c => ?_)
      · walk_at "rd"
        intro l2 hl2
        generalize hH2 : upd H1 l2 _ = H2
        obtain ⟨sm2, up2⟩ : Same H1 H2 ∧ H2 l2 = some (.tup [.int L, .int W]) := newH hH2 hl2
        clear hH2
        have c2 : i = 0 ∨ i = 1 := by simpa using c
        refine ⟨_, rfl, p, _, dx, _, _, rfl, sm2 _ _ (sm1 _ _ hp), F.c, F.no, rfl, ?_⟩
        rcases c2 with rfl | rfl
        · refine ⟨l2, _, 0, .int L, rfl, rfl, sqT up2, rfl, _, rfl, _, rfl, .mk hL hf hs (tell_of fun v H5 sm5 tv => ⟨rfl, ?_⟩)⟩
          rw [ev L v H5 tv]
          exact q _ (sm1.trans (sm2.trans sm5))
        · refine ⟨l2, _, 1, .int W, rfl, rfl, sqT up2, rfl, _, rfl, _, rfl, .mk hW hf hs (tell_of fun v H5 sm5 tv => ⟨rfl, ?_⟩)⟩
          rw [ev W v H5 tv]
          exact q _ (sm1.trans (sm2.trans sm5))
      · have c2 : ¬ i = 0 ∧ ¬ i = 1 := by simpa using c
        have e : due4 L W fi se (.short (.int i)) = false := by
          show (if i = 0 then shoB L fi se else if i = 1 then shoB W fi se else false) = false
          rw [if_neg c2.1, if_neg c2.2]
        rw [e] at q
        exact q _ sm1
theorem H_shows4 (G : ClG K mg) (p1 : PlM K .laid "shows" "Laid.shows" s_Laid_shows) (p2 : PlM K .striped "shows" "Striped.shows" s_Striped_shows) (p3 : PlM K .short "shows" "Short.shows" s_Short_shows)
    (h_what_bars : Has P w K mg base CX0 3 "what_bars" ["length", "width", "first", "second"] SpBars) (h_is_striped : Has P w K mg base CX0 1 "is_striped" ["length", "width", "side"] SpStriped)
    (h_parts_of : Has P w K mg base CX0 2 "parts_of" ["size", "first", "second"] SpParts) : ∀ x, Ok4 x → HasM P w K mg base CX0 4 x "shows" ["self", "length", "width", "first", "second"] (SpShows4 K x) := by
  intro x hx
  have e : x = .laid ∨ x = .striped ∨ x = .short := by simpa [Ok4] using hx
  rcases e with rfl | rfl | rfl
  · exact H_Laid_shows p1 h_what_bars
  · exact (H_Striped_shows p2 G h_is_striped).mono (by decide)
  · exact (H_Short_shows p3 G h_parts_of).mono (by decide)
end
end BF

namespace BF
open PySem PySem.Spec PyProof.Rows L2
noncomputable def barsL (L W f s : Int) (n : Nat) : List Bool := (List.range n).map fun k : Nat => barB L W f s (k : Int)
theorem bars_succ (L W f s : Int) (n : Nat) : barsL L W f s (n + 1) = barsL L W f s n ++ [barB L W f s (n : Int)] := by
  unfold barsL
  rw [List.range_succ, List.map_append]
  rfl
theorem bars_len (L W f s : Int) (n : Nat) : (barsL L W f s n).length = n := by
  unfold barsL
  rw [List.length_map, List.length_range]
theorem two_em (a b : Bool) : (two a b).isEmpty = (!a && !b) := by cases a <;> cases b <;> rfl
theorem bars_due (L W f s : Int) : (!(barsL L W f s 4).any id) = due4 L W f s .laid := by
  show (!(barB L W f s 0 || (barB L W f s 1 || (barB L W f s 2 || (barB L W f s 3 || false))))) = ((two (strB L W f) (strB L W s)).isEmpty && (two (shoB L f s) (shoB W f s)).isEmpty)
  rw [two_em, two_em]
  show (!(strB L W f || (strB L W s || (shoB L f s || (shoB W f s || false))))) = _
  cases strB L W f <;> cases strB L W s <;> cases shoB L f s <;> cases shoB W f s <;> rfl
end BF

/-! ### the answers' own __init__ -/
namespace BF
open PySem PySem.Spec PyProof.Rows L2
section
variable {P : Program} {w : World} {K : PySem.W.Frag} {mg : Str → Option Value} {base : Heap}
theorem H_Striped___init__ (p : PlM K .striped "__init__" "Striped.__init__" s_Striped___init__) (G : ClG K mg) : HasM P w K mg base CX0 1 .striped "__init__" ["self", "which"] (SpInit K .striped) := by
  refine p.mk0 sc_Striped___init__ (fun _ _ _ _ _ _ us hl => match us, hl with | [_, _], _ => rfl) (fun vs H Q E h => ?_) (fun f cdv A outer s H vs Q E hr h => ?_)
  · cases h; rfl
  · obtain @⟨p, dx, v, _, _, _, hp, q⟩ := h
    have F := G.f .striped (by decide)
    exact ⟨_, (pss_one (ps_fld (pv 0) (pv 1) rfl)), ⟨_, rfl, _, rfl, p, _, dx, [], rfl, hp, F.c, F.no, by decide, q⟩⟩
theorem H_Short___init__ (p : PlM K .short "__init__" "Short.__init__" s_Short___init__) (G : ClG K mg) : HasM P w K mg base CX0 1 .short "__init__" ["self", "which"] (SpInit K .short) := by
  refine p.mk0 sc_Short___init__ (fun _ _ _ _ _ _ us hl => match us, hl with | [_, _], _ => rfl) (fun vs H Q E h => ?_) (fun f cdv A outer s H vs Q E hr h => ?_)
  · cases h; rfl
  · obtain @⟨p, dx, v, _, _, _, hp, q⟩ := h
    have F := G.f .short (by decide)
    exact ⟨_, (pss_one (ps_fld (pv 0) (pv 1) rfl)), ⟨_, rfl, _, rfl, p, _, dx, [], rfl, hp, F.c, F.no, by decide, q⟩⟩
theorem H_Beyond___init__ (p : PlM K .beyond "__init__" "Beyond.__init__" s_Beyond___init__) (G : ClG K mg) : HasM P w K mg base CX0 1 .beyond "__init__" ["self", "count"] (SpInit K .beyond) := by
  refine p.mk0 sc_Beyond___init__ (fun _ _ _ _ _ _ us hl => match us, hl with | [_, _], _ => rfl) (fun vs H Q E h => ?_) (fun f cdv A outer s H vs Q E hr h => ?_)
  · cases h; rfl
  · obtain @⟨p, dx, v, _, _, _, hp, q⟩ := h
    have F := G.f .beyond (by decide)
    exact ⟨_, (pss_one (ps_fld (pv 0) (pv 1) rfl)), ⟨_, rfl, _, rfl, p, _, dx, [], rfl, hp, F.c, F.no, by decide, q⟩⟩
theorem H_Twice___init__ (p : PlM K .twice "__init__" "Twice.__init__" s_Twice___init__) (G : ClG K mg) : HasM P w K mg base CX0 1 .twice "__init__" ["self", "cell"] (SpInit K .twice) := by
  refine p.mk0 sc_Twice___init__ (fun _ _ _ _ _ _ us hl => match us, hl with | [_, _], _ => rfl) (fun vs H Q E h => ?_) (fun f cdv A outer s H vs Q E hr h => ?_)
  · cases h; rfl
  · obtain @⟨p, dx, v, _, _, _, hp, q⟩ := h
    have F := G.f .twice (by decide)
    exact ⟨_, (pss_one (ps_fld (pv 0) (pv 1) rfl)), ⟨_, rfl, _, rfl, p, _, dx, [], rfl, hp, F.c, F.no, by decide, q⟩⟩
theorem H_Bare___init__ (p : PlM K .bare "__init__" "Bare.__init__" s_Bare___init__) (G : ClG K mg) : HasM P w K mg base CX0 1 .bare "__init__" ["self", "cell"] (SpInit K .bare) := by
  refine p.mk0 sc_Bare___init__ (fun _ _ _ _ _ _ us hl => match us, hl with | [_, _], _ => rfl) (fun vs H Q E h => ?_) (fun f cdv A outer s H vs Q E hr h => ?_)
  · cases h; rfl
  · obtain @⟨p, dx, v, _, _, _, hp, q⟩ := h
    have F := G.f .bare (by decide)
    exact ⟨_, (pss_one (ps_fld (pv 0) (pv 1) rfl)), ⟨_, rfl, _, rfl, p, _, dx, [], rfl, hp, F.c, F.no, by decide, q⟩⟩
end
end BF

/-! ### answers.py: bricks and cells -/
namespace BF
open PySem PySem.Spec PyProof.Rows L2
def cellV (c : Int × Int) : List V := [.int c.1, .int c.2]
/-- a brick's tuple, a list of bricks -/
def BrAll (K : PySem.W.Frag) (H : Hp) (ps : List (Addr × Brick)) : Prop := ∀ p ∈ ps, SqT K H p.1 p.2.vs
def refs {α : Type} (ps : List (Addr × α)) : List V := ps.map fun p => V.ref p.1
def vals {α : Type} (ps : List (Addr × α)) : List α := ps.map (·.2)
theorem BrAll.mono {K : PySem.W.Frag} {H H' : Hp} {ps : List (Addr × Brick)} (h : BrAll K H ps) (sm : Same H H') : BrAll K H' ps := fun p hp => Same.tup sm (h p hp)
theorem refs_at {α : Type} {ps : List (Addr × α)} {i : Nat} {v : V} (h : (refs ps)[i]? = some v) : ∃ p, ps[i]? = some p ∧ v = .ref p.1 ∧ p ∈ ps := by
  unfold refs at h
  rw [List.getElem?_map] at h
  cases e : ps[i]? with
  | none => rw [e] at h; cases h
  | some p =>
    rw [e] at h
    exact ⟨p, rfl, (Option.some.inj h).symm, List.mem_of_getElem? e⟩
theorem refs_len {α : Type} (ps : List (Addr × α)) : (refs ps).length = ps.length := List.length_map _
theorem vals_len {α : Type} (ps : List (Addr × α)) : (vals ps).length = ps.length := List.length_map _
inductive SpBeyond (K : PySem.W.Frag) : Sp where
  | mk {o : Addr} {b : Brick} {L W f s : Int} {H : Hp} {Q : VK} {E : XK} (ho : SqT K H o b.vs) (q : ∀ H', Same H H' → Q (.bl (beyB L W f s b)) H') : SpBeyond K [.int L, .int W, .int f, .int s, .ref o] H Q E
inductive SpCovers (K : PySem.W.Frag) : Sp where
  | mk {o t : Addr} {b : Brick} {c : Int × Int} {f s : Int} {H : Hp} {Q : VK} {E : XK} (ho : SqT K H o b.vs) (ht : SqT K H t (cellV c)) (q : ∀ H', Same H H' → Q (.bl (covB f s c b)) H') : SpCovers K [.int f, .int s, .ref o, .ref t] H Q E
inductive SpOften (K : PySem.W.Frag) : Sp where
  | mk {l t : Addr} {ps : List (Addr × Brick)} {c : Int × Int} {f s : Int} {H : Hp} {Q : VK} {E : XK} (hl : SqL K H l (refs ps)) (hb : BrAll K H ps) (hn : ps.length ≤ 10000) (ht : SqT K H t (cellV c)) (q : ∀ H', Same H H' → Q (.int (oftN f s (vals ps) c : Nat)) H') :
    SpOften K [.int f, .int s, .ref l, .ref t] H Q E
section
variable {P : Program} {w : World} {K : PySem.W.Frag} {mg : Str → Option Value} {base : Heap}
theorem H_is_beyond (p : Pl K mg "is_beyond" s_is_beyond) : Has P w K mg base CX0 1 "is_beyond" ["length", "width", "first", "second", "brick"] (SpBeyond K) := by
  refine p.mk0 sc_is_beyond (fun _ _ _ _ _ _ us hl => match us, hl with | [_, _, _, _, _], _ => rfl) (fun vs H Q E h => ?_) (fun f cdv A outer s H vs Q E hr h => ?_)
  · cases h; rfl
  · obtain @⟨o, ⟨x, y, l⟩, L, W, fi, se, _, _, _, ho, q⟩ := h
    refine ⟨_, (pss_cons (ps_asg (pe_ifExp (pt_val (pe_ix (r := rIxT K) ix_tup (pv 4) pe_int (fun _ _ => rfl))) (pe_tup (pa_cons (pv 2) (pa_cons (pv 3) pa_nil))) (pe_tup (pa_cons (pv 3) (pa_cons (pv 2) pa_nil)))) (pg_tup (by rfl) (pgs_cons (pg_name (i := 5) sc_is_beyond.nd rfl (Or.inl rfl)) (pgs_cons (pg_name (i := 6) sc_is_beyond.nd rfl (Or.inl rfl)) pgs_nil))))
      (pss_one (ps_ret (pe_or (pe_cmpR op_lt (pe_ix (r := rIxT K) ix_tup (pv 4) pe_int (fun _ _ => rfl)) pe_int (nomark _)) (pe_or (pe_cmpR op_lt (pe_ix (r := rIxT K) ix_tup (pv 4) pe_int (fun _ _ => rfl)) pe_int (nomark _)) (pe_or (pe_cmpR op_gt (pe_op op_add (pe_ix (r := rIxT K) ix_tup (pv 4) pe_int (fun _ _ => rfl)) (pv 5)) (pv 0) (nomark _)) (pe_one (pe_cmpR op_gt (pe_op op_add (pe_ix (r := rIxT K) ix_tup (pv 4) pe_int (fun _ _ => rfl)) (pv 6)) (pv 1) (nomark _))))))))), ?_⟩
    unfold beyB Brick.lo Brick.hi at q
    cases l
    all_goals
      simp only [Bool.false_eq_true, if_false, if_true] at q
      refine ⟨_, rfl, o, _, 2, _, rfl, rfl, ho, rfl, _, rfl, ?_⟩
      first | refine iteF ?_ | refine iteT ?_
      walk_at "rd"
      intro t ht
      generalize hH1 : upd H t _ = H1
      obtain ⟨sm1, up1⟩ := newH hH1 ht
      clear hH1
      have ho1 := Same.tup sm1 ho
      refine ⟨t, _, rfl, sqT up1, rfl, ?_⟩
      walk_at "rd"
      refine ⟨o, _, 0, _, rfl, rfl, ho1, rfl, _, _, rfl, rfl, _, rfl, iteD (fun c => ?_) (fun c => ?_)⟩
      · have c : x < 0 := c
        simp only [decide_eq_true c, Bool.true_or] at q
        exact q _ sm1
      have c : ¬ x < 0 := c
      simp only [decide_eq_false c, Bool.false_or] at q
      refine ⟨_, rfl, o, _, 1, _, rfl, rfl, ho1, rfl, _, _, rfl, rfl, _, rfl, iteD (fun c => ?_) (fun c => ?_)⟩
      · have c : y < 0 := c
        simp only [decide_eq_true c, Bool.true_or] at q
        exact q _ sm1
      have c : ¬ y < 0 := c
      simp only [decide_eq_false c, Bool.false_or] at q
      refine ⟨_, rfl, o, _, 0, _, rfl, rfl, ho1, rfl, ?_⟩
      walk_at "rd"
      refine iteD (fun c => ?_) (fun c => ?_)
      · simp only [decide_eq_true c, Bool.true_or] at q
        exact q _ sm1
      simp only [decide_eq_false c, Bool.false_or] at q
      refine ⟨_, rfl, o, _, 1, _, rfl, rfl, ho1, rfl, ?_⟩
      walk_at "rd"
      exact q _ sm1
theorem H_covers (p : Pl K mg "covers" s_covers) : Has P w K mg base CX0 1 "covers" ["first", "second", "brick", "cell"] (SpCovers K) := by
  refine p.mk0 sc_covers (fun _ _ _ _ _ _ us hl => match us, hl with | [_, _, _, _], _ => rfl) (fun vs H Q E h => ?_) (fun f cdv A outer s H vs Q E hr h => ?_)
  · cases h; rfl
  · obtain @⟨o, t, ⟨x, y, l⟩, ⟨c1, c2⟩, fi, se, _, _, _, ho, ht, q⟩ := h
    refine ⟨_, (pss_cons (ps_asg (pe_ifExp (pt_val (pe_ix (r := rIxT K) ix_tup (pv 2) pe_int (fun _ _ => rfl))) (pe_tup (pa_cons (pv 0) (pa_cons (pv 1) pa_nil))) (pe_tup (pa_cons (pv 1) (pa_cons (pv 0) pa_nil)))) (pg_tup (by rfl) (pgs_cons (pg_name (i := 4) sc_covers.nd rfl (Or.inl rfl)) (pgs_cons (pg_name (i := 5) sc_covers.nd rfl (Or.inl rfl)) pgs_nil))))
      (pss_one (ps_ret (pe_and (pe_chain op_le op_lt (pe_ix (r := rIxT K) ix_tup (pv 2) pe_int (fun _ _ => rfl)) (pe_ix (r := rIxT K) ix_tup (pv 3) pe_int (fun _ _ => rfl)) (pe_op op_add (pe_ix (r := rIxT K) ix_tup (pv 2) pe_int (fun _ _ => rfl)) (pv 4))) (pe_one (pe_chain op_le op_lt (pe_ix (r := rIxT K) ix_tup (pv 2) pe_int (fun _ _ => rfl)) (pe_ix (r := rIxT K) ix_tup (pv 3) pe_int (fun _ _ => rfl)) (pe_op op_add (pe_ix (r := rIxT K) ix_tup (pv 2) pe_int (fun _ _ => rfl)) (pv 5)))))))), ?_⟩
    unfold covB Brick.lo Brick.hi at q
    cases l
    all_goals
      simp only [Bool.false_eq_true, if_false, if_true] at q
      refine ⟨_, rfl, o, _, 2, _, rfl, rfl, ho, rfl, _, rfl, ?_⟩
      first | refine iteF ?_ | refine iteT ?_
      walk_at "rd"
      intro p1 hp1
      generalize hH1 : upd H p1 _ = H1
      obtain ⟨sm1, up1⟩ := newH hH1 hp1
      clear hH1
      have ho1 := Same.tup sm1 ho
      have ht1 := Same.tup sm1 ht
      refine ⟨p1, _, rfl, sqT up1, rfl, ?_⟩
      walk_at "rd"
      refine ⟨o, _, 0, _, rfl, rfl, ho1, rfl, _, rfl, t, _, 0, _, rfl, rfl, ht1, rfl, ?_⟩
      walk_at "rd"
      refine iteD (fun c => ?_) (fun c => ?_)
      · simp only [decide_eq_true c, Bool.true_and] at q
        refine ⟨_, rfl, o, _, 0, _, rfl, rfl, ho1, rfl, ?_⟩
        walk_at "rd"
        refine iteD (fun c => ?_) (fun c => ?_)
        · simp only [decide_eq_true c, Bool.true_and] at q
          refine ⟨_, rfl, o, _, 1, _, rfl, rfl, ho1, rfl, _, rfl, t, _, 1, _, rfl, rfl, ht1, rfl, ?_⟩
          walk_at "rd"
          refine iteD (fun c => ?_) (fun c => ?_)
          · simp only [decide_eq_true c, Bool.true_and] at q
            refine ⟨_, rfl, o, _, 1, _, rfl, rfl, ho1, rfl, ?_⟩
            walk_at "rd"
            exact q _ sm1
          · simp only [decide_eq_false c, Bool.false_and] at q
            exact q _ sm1
        · simp only [decide_eq_false c, Bool.false_and] at q
          exact q _ sm1
      · simp only [decide_eq_false c, Bool.false_and] at q
        exact ⟨_, rfl, iteF (q _ sm1)⟩
theorem H_often (p : Pl K mg "often" s_often) (B : Bi mg) (h_covers : Has P w K mg base CX0 1 "covers" ["first", "second", "brick", "cell"] (SpCovers K)) : Has P w K mg base CX0 2 "often" ["first", "second", "bricks", "cell"] (SpOften K) := by
  refine p.mk0 sc_often (fun _ _ _ _ _ _ us hl => match us, hl with | [_, _, _, _], _ => rfl) (fun vs H Q E h => ?_) (fun f cdv A outer s H vs Q E hr h => ?_)
  · cases h; rfl
  · obtain @⟨l, t, ps, c, fi, se, _, _, _, hl, hb, hn, ht, q⟩ := h
    refine ⟨_, (pss_one (ps_ret (pe_callB (r := rLen2 K) call_len_seq (by rfl) B.len PySem.boot_len (pa_cons (pe_lc (own := [("brick", 4)]) (by rfl) sc_often.nd (pi_list (pv 2)) (blkOk_by (own := [("brick", 4)]) (N := ["first", "second", "bricks", "cell", "brick"]) (sc := defScope s_often) (by decide +kernel)) (fun _ _ _ _ _ => (pg_name (i := 4) sc_often.nd rfl (Or.inl rfl))) (fun _ _ _ _ _ => pts_one (pt_val (pe_fn h_covers (hr.mono (by decide)) pass0 (pa_cons (pv 0) (pa_cons (pv 1) (pa_cons (pv 4) (pa_cons (pv 3) pa_nil))))))) (fun _ _ _ _ _ => (pv 4))) pa_nil)))), ?_⟩
    refine ⟨_, rfl, l, rfl, ⟨_, hl⟩, fun D hD => ?_⟩
    refine lc_list (K := K) (a := l) (xs := refs ps) (fun i H' => Same H H' ∧ ∃ vs, H' D = some (.lst vs) ∧ vs.length = oftN fi se ((vals ps).take i) c) ⟨same_upd hD, [], upd_same, rfl⟩ (fun i H' _ ⟨sm, _⟩ => sm.seq hl) ?_ ?_
    · rintro i v H' hi ⟨sm, vs, eD, ev⟩
      obtain ⟨pb, hpb, rfl, hm⟩ := refs_at hi
      have hlt : i < ps.length := (List.getElem?_eq_some_iff.mp hpb).1
      have et : (vals ps).take (i + 1) = (vals ps).take i ++ [pb.2] := by
        unfold vals
        rw [List.take_add_one, List.getElem?_map, hpb]
        rfl
      have eo : oftN fi se ((vals ps).take (i + 1)) c = oftN fi se ((vals ps).take i) c + if covB fi se c pb.2 then 1 else 0 := by
        rw [et]
        unfold oftN
        rw [List.filter_append, List.length_append, List.filter_cons]
        split <;> rfl
      have hle : oftN fi se ((vals ps).take i) c ≤ ps.length := by
        unfold oftN
        refine Nat.le_trans (List.length_filter_le _ _) ?_
        rw [List.length_take, vals_len]
        exact Nat.min_le_right _ _
      refine ⟨rfl, ?_⟩
      walk_at "rd"
      refine .mk (Same.tup sm (hb pb hm)) (Same.tup sm ht) fun H2 sm2 => ⟨_, rfl, iteB (fun c => ?_) (fun c => ?_)⟩
      · rw [c, if_pos rfl] at eo
        refine ⟨_, rfl, vs, sm2 _ _ eD, ?_, ?_, vs ++ [.ref pb.1], upd_same, ?_⟩
        · rw [ev]
          exact Nat.lt_of_le_of_lt hle (Nat.lt_of_le_of_lt hn (by decide))
        · exact fun b1 o e => by rw [upd_ne (ne_of_none e hD)]; exact sm2 _ _ (sm b1 o e)
        · rw [List.length_append, ev, eo]
          rfl
      · rw [c] at eo
        exact ⟨sm.trans sm2, vs, sm2 _ _ eD, by rw [ev, eo]; rfl⟩
    · rintro H' ⟨sm, vs, eD, ev⟩
      rw [refs_len, ← vals_len ps, List.take_length] at ev
      refine ⟨D, vs, rfl, .inl (sqL eD), ?_⟩
      rw [ev]
      exact q _ sm
end
end BF

/-! ### answers.py: the cells of a brick; what are cells -/
namespace BF
open PySem PySem.Spec PyProof.Rows L2
def CeAll (H : Hp) (cs : List (Addr × (Int × Int))) : Prop := ∀ q ∈ cs, H q.1 = some (.tup (cellV q.2))
theorem CeAll.mono {H H' : Hp} {cs : List (Addr × (Int × Int))} (h : CeAll H cs) (sm : Same H H') : CeAll H' cs := fun q hq => sm _ _ (h q hq)
inductive SpCells (K : PySem.W.Frag) : Sp where
  | mk {o : Addr} {b : Brick} {f s : Int} {H : Hp} {Q : VK} {E : XK} (ho : SqT K H o b.vs) (h1 : 0 ≤ b.lo f s ∧ b.lo f s ≤ 1000) (h2 : 0 ≤ b.hi f s ∧ b.hi f s ≤ 1000)
      (q : ∀ p H' cs, Same H H' → H' p = some (.lst (refs cs)) → CeAll H' cs → vals cs = cellsL f s b → Q (.ref p) H') : SpCells K [.int f, .int s, .ref o] H Q E
inductive SpIsCell : Sp where
  | mk {t : Addr} {c : Int × Int} {L W : Int} {H : Hp} {Q : VK} {E : XK} (ht : H t = some (.tup (cellV c))) (q : Q (.bl (cellB L W c)) H) : SpIsCell [.int L, .int W, .ref t] H Q E
inductive CellsI (fi se : Int) (o F : Addr) (lo hi x y : Int) (H : Hp) (i : Nat) : L2.St → Hp → Prop where
  | mk {H' : Hp} {z u : Option V} {cs : List (Addr × (Int × Int))} (sm : Same H H') (hF : H' F = some (.lst (refs cs))) (hc : CeAll H' cs) (hv : vals cs = colsL x y i hi.toNat) : CellsI fi se o F lo hi x y H i [some (.int fi), some (.int se), some (.ref o), some (.int lo), some (.int hi), some (.ref F), z, u] H'
theorem ce_add {H : Hp} {cs : List (Addr × (Int × Int))} {p : Addr} {c : Int × Int} (h : CeAll H cs) (hp : H p = some (.tup (cellV c))) : CeAll H (cs ++ [(p, c)]) := fun q hq => by
  rcases List.mem_append.mp hq with a | a
  · exact h q a
  · obtain rfl := List.mem_singleton.mp a
    exact hp
theorem mul_add_le {i n : Nat} (h1 : i < 1000) (h2 : n ≤ 1000) : i * n + n ≤ 1000000 := by
  have := Nat.mul_le_mul (show i + 1 ≤ 1000 by omega) h2
  rw [Nat.succ_mul] at this
  exact this
theorem refs_app {α : Type} (a b : List (Addr × α)) : refs (a ++ b) = refs a ++ refs b := List.map_append
theorem vals_app {α : Type} (a b : List (Addr × α)) : vals (a ++ b) = vals a ++ vals b := List.map_append
section
variable {P : Program} {w : World} {K : PySem.W.Frag} {mg : Str → Option Value} {base : Heap}
theorem H_is_cell (p : Pl K mg "is_cell" s_is_cell) (B : Bi mg) (h_is_number : Has P w K mg base CX0 1 "is_number" ["thing"] (SpIsNumber K)) : Has P w K mg base CX0 2 "is_cell" ["length", "width", "thing"] SpIsCell := by
  refine p.mk0 sc_is_cell (fun _ _ _ _ _ _ us hl => match us, hl with | [_, _, _], _ => rfl) (fun vs H Q E h => ?_) (fun f cdv A outer s H vs Q E hr h => ?_)
  · cases h; rfl
  · obtain @⟨t, ⟨c1, c2⟩, L, W, _, _, _, ht, q⟩ := h
    refine ⟨_, (pss_cons (ps_if (PW.pt (pw_or (pt_not (pt_val (pe_callB (r := rIsi K) call_isi (by rfl) B.isinstance (by decide +kernel) (pa_cons (pv 2) (pa_cons (pe_bltn (v := .ty "tuple") (by rfl) B.tuple (by decide +kernel) rfl) pa_nil))))) (pw_or (pt_cmpR op_ne (pe_callB (r := rLen2 K) call_len_seq (by rfl) B.len PySem.boot_len (pa_cons (pv 2) pa_nil)) pe_int (nomark _)) (pw_or (pt_not (pt_val (pe_fn h_is_number (hr.mono (by decide)) pass0 (pa_cons (pe_ix (r := rIxT K) ix_tup (pv 2) pe_int (fun _ _ => rfl)) pa_nil)))) (pw_or1 (pt_not (pt_val (pe_fn h_is_number (hr.mono (by decide)) pass0 (pa_cons (pe_ix (r := rIxT K) ix_tup (pv 2) pe_int (fun _ _ => rfl)) pa_nil))))))))) (pss_one (ps_ret pe_bl)) pss_nil)
      (pss_one (ps_ret (pe_and (pe_chain op_le op_lt pe_int (pe_ix (r := rIxT K) ix_tup (pv 2) pe_int (fun _ _ => rfl)) (pv 0)) (pe_one (pe_chain op_le op_lt pe_int (pe_ix (r := rIxT K) ix_tup (pv 2) pe_int (fun _ _ => rfl)) (pv 1))))))), ?_⟩
    unfold cellB at q
    refine ⟨_, rfl, _, _, _, _, true, rfl, .ty "tuple", .base (.tup ht), kit_ty (by decide +kernel), true, rfl, iteF ?_⟩
    refine ⟨_, rfl, t, _, rfl, .inr (sqT ht), rfl, _, rfl, iteNe (fun z => absurd rfl z) (fun _ => ?_)⟩
    refine ⟨_, rfl, t, _, 0, _, rfl, rfl, sqT ht, rfl, num_int ⟨true, rfl, iteF ?_⟩⟩
    refine ⟨_, rfl, t, _, 1, _, rfl, rfl, sqT ht, rfl, num_int ⟨true, rfl, iteF ?_⟩⟩
    refine ⟨_, rfl, t, _, 0, _, rfl, rfl, sqT ht, rfl, ?_⟩
    walk_at "rd"
    refine iteD (fun c => ?_) (fun c => ?_)
    · simp only [decide_eq_true c, Bool.true_and] at q
      walk_at "rd"
      refine iteD (fun c => ?_) (fun c => ?_)
      · simp only [decide_eq_true c, Bool.true_and] at q
        refine ⟨_, rfl, t, _, 1, _, rfl, rfl, sqT ht, rfl, ?_⟩
        walk_at "rd"
        refine iteD (fun c => ?_) (fun c => ?_)
        · simp only [decide_eq_true c, Bool.true_and] at q
          walk_at "rd"
          exact q
        · simp only [decide_eq_false c, Bool.false_and] at q
          exact q
      · simp only [decide_eq_false c, Bool.false_and] at q
        exact q
    · simp only [decide_eq_false c, Bool.false_and] at q
      exact ⟨_, rfl, iteF q⟩
theorem H_cells_of (p : Pl K mg "cells_of" s_cells_of) (B : Bi mg) : Has P w K mg base CX0 1 "cells_of" ["first", "second", "brick"] (SpCells K) := by
  refine p.mk0 sc_cells_of (fun _ _ _ _ _ _ us hl => match us, hl with | [_, _, _], _ => rfl) (fun vs H Q E h => ?_) (fun f cdv A outer s H vs Q E hr h => ?_)
  · cases h; rfl
  · obtain @⟨o, b, fi, se, _, _, _, ho, h1, h2, q⟩ := h
    refine ⟨_, (pss_cons (ps_asg (pe_ifExp (pt_val (pe_ix (r := rIxT K) ix_tup (pv 2) pe_int (fun _ _ => rfl))) (pe_tup (pa_cons (pv 0) (pa_cons (pv 1) pa_nil))) (pe_tup (pa_cons (pv 1) (pa_cons (pv 0) pa_nil)))) (pg_tup (by rfl) (pgs_cons (pg_name (i := 3) sc_cells_of.nd rfl (Or.inl rfl)) (pgs_cons (pg_name (i := 4) sc_cells_of.nd rfl (Or.inl rfl)) pgs_nil))))
      (pss_cons (ps_set (i := 5) sc_cells_of.nd rfl (Or.inl rfl) (pe_lst pa_nil))
      (pss_cons (ps_for PassesOwn.never (by rfl) (pi_range1 (by rfl) B.range (pa_cons (pv 3) pa_nil)) (pg_name (i := 6) sc_cells_of.nd rfl (Or.inr rfl)) (pss_one (ps_expr (pe_bm PySem.F.plainAttrs_list PySem.F.slot_list_extend PySem.F.type_list_extend mt_extend (pv 5) (pa_cons (pe_lc (own := [("up", 7)]) (by rfl) sc_cells_of.nd (pi_range1 (by rfl) B.range (pa_cons (pv 4) pa_nil)) (blkOk_by (own := [("up", 7)]) (N := ["first", "second", "brick", "long", "high", "found", "along", "up"]) (sc := defScope s_cells_of) (by decide +kernel)) (fun _ _ _ _ _ => (pg_name (i := 7) sc_cells_of.nd rfl (Or.inl rfl))) (fun _ _ _ _ _ => pts_nil) (fun _ _ _ _ _ => (pe_tup (pa_cons (pe_op op_add (pe_ix (r := rIxT K) ix_tup (pv 2) pe_int (fun _ _ => rfl)) (pv 6)) (pa_cons (pe_op op_add (pe_ix (r := rIxT K) ix_tup (pv 2) pe_int (fun _ _ => rfl)) (pv 7)) pa_nil))))) pa_nil)))))
      (pss_one (ps_ret (pv 5)))))), ?_⟩
    unfold cellsL at q
    obtain ⟨x, y, l⟩ := b
    generalize hlo : Brick.lo fi se ⟨x, y, l⟩ = lo at h1 q
    generalize hhi : Brick.hi fi se ⟨x, y, l⟩ = hi at h2 q
    cases l
    all_goals
      unfold Brick.lo at hlo
      unfold Brick.hi at hhi
      simp only [Bool.false_eq_true, if_false, if_true] at hlo hhi
      subst hlo hhi
      refine ⟨_, rfl, o, _, 2, _, rfl, rfl, ho, rfl, _, rfl, ?_⟩
      first | refine iteF ?_ | refine iteT ?_
      walk_at "rd"
      intro p1 hp1
      generalize hH1 : upd H p1 _ = H1
      obtain ⟨sm1, up1⟩ := newH hH1 hp1
      clear hH1
      refine ⟨p1, _, rfl, sqT up1, rfl, ?_⟩
      walk_at "rd"
      intro F hF
      have ho1 := Same.tup sm1 ho
      refine ⟨_, rfl, _, rfl, by omega, by omega, for_range (lo := 0) (n := _) (fun i σ H' => CellsI fi se o F _ _ x y H1 i σ H') (.mk (cs := []) (same_upd hF) upd_same (fun q hq => nomatch hq) rfl) ?_ ?_⟩
      · rintro i _ H2 hi @⟨_, _, _, cs, sm2, eF, hc, hv⟩
        have e0 : (0 : Int) + (i : Int) = i := by omega
        refine ⟨_, rfl, .inl ⟨rfl, _, sqL eF⟩, _, rfl, _, rfl, by omega, by omega, fun D hD => ?_⟩
        have nFD : F ≠ D := ne_of_none eF hD
        refine lc_range (lo := 0) (n := _) (fun j H' => Same H2 H' ∧ ∃ ds, H' D = some (.lst (refs ds)) ∧ CeAll H' ds ∧ vals ds = colL (x + (i : Int)) y j) ⟨same_upd hD, [], upd_same, (fun q hq => nomatch hq), rfl⟩ ?_ ?_
        · rintro j H3 hj ⟨sm3, ds, eD, hds, vds⟩
          have e1 : (0 : Int) + (j : Int) = j := by omega
          have ho3 := Same.tup (sm2.trans sm3) ho1
          refine ⟨rfl, lc_yes ?_⟩
          refine ⟨_, rfl, o, _, 0, _, rfl, rfl, ho3, rfl, _, rfl, _, _, rfl, rfl, _, rfl, o, _, 1, _, rfl, rfl, ho3, rfl, _, rfl, _, _, rfl, rfl, ?_⟩
          refine ⟨size4 (by simp), fun p4 hp4 => ?_⟩
          have nDp : D ≠ p4 := ne_of_none eD hp4
          refine ⟨_, by rw [upd_ne nDp]; exact eD, ?_, ?_, ds ++ [(p4, (x + (i : Int), y + (j : Int)))], ?_, ?_, ?_⟩
          · rw [refs_len, ← vals_len, vds, col_len]
            exact Nat.lt_of_lt_of_le hj (size4 (by omega))
          · exact fun b1 o1 e => by rw [upd_ne (ne_of_none e hD)]; exact same_upd hp4 _ _ (sm3 b1 o1 e)
          · rw [upd_same, refs_app]
            rfl
          · refine fun q hq => ?_
            have z := ce_add (H := upd H3 p4 (.tup (cellV (x + (i : Int), y + (j : Int))))) (c := (x + (i : Int), y + (j : Int))) (hds.mono (same_upd hp4)) upd_same q hq
            have nq : q.1 ≠ D := fun z2 => by
              rw [z2, upd_ne nDp, eD] at z
              cases z
            rw [upd_ne nq, e0, e1]
            exact z
          · rw [vals_app, vds, col_succ]
            rfl
        · rintro H3 ⟨sm3, ds, eD, hds, vds⟩
          have eF3 := sm3 _ _ eF
          refine ⟨F, D, _, _, rfl, rfl, eF3, eD, ?_, ?_⟩
          · rw [refs_len, refs_len, ← vals_len cs, ← vals_len ds, hv, vds, cols_len, col_len]
            exact size4 (mul_add_le (by omega) (by omega))
          · refine .mk (cs := cs ++ ds) ?_ ?_ ?_ ?_
            · exact fun b1 o1 e => by rw [upd_ne (ne_of_none e hF)]; exact sm3 _ _ (sm2 b1 o1 e)
            · rw [upd_same, refs_app]
            · refine fun q hq => ?_
              have z : H3 q.1 = some (.tup (cellV q.2)) := by
                rcases List.mem_append.mp hq with a | a
                · exact hc.mono sm3 q a
                · exact hds q a
              have nq : q.1 ≠ F := fun z2 => by
                rw [z2, eF3] at z
                cases z
              rw [upd_ne nq]
              exact z
            · rw [vals_app, hv, vds, cols_succ]
      · rintro _ H2 @⟨_, _, _, cs, sm2, eF, hc, hv⟩
        exact ⟨_, rfl, q F H2 cs (sm1.trans sm2) eF hc hv⟩
end
end BF

/-! ### Full, Beyond, Twice, Bare: what they show -/
namespace BF
open PySem PySem.Spec PyProof.Rows L2
/-- an answer of a judged list -/
inductive D5 where
  | full
  | beyond (i : Int)
  | twice (c : Int × Int)
  | bare (c : Int × Int)
def D5.cl : D5 → Cl
  | .full => .full
  | .beyond _ => .beyond
  | .twice _ => .twice
  | .bare _ => .bare
theorem D5.ok (d : D5) : Ok5 d.cl := by
  unfold Ok5
  cases d <;> simp [D5.cl]
/-- such an answer at an address -/
inductive At5 (K : PySem.W.Frag) (H : Hp) (p : Addr) : D5 → Prop where
  | full (h : AnsAt K H p .full) : At5 K H p .full
  | beyond {i : Int} (h : AnsAt K H p (.beyond (.int i))) : At5 K H p (.beyond i)
  | twice {t : Addr} {c : Int × Int} (h : AnsAt K H p (.twice (.ref t))) (ht : H t = some (.tup (cellV c))) : At5 K H p (.twice c)
  | bare {t : Addr} {c : Int × Int} (h : AnsAt K H p (.bare (.ref t))) (ht : H t = some (.tup (cellV c))) : At5 K H p (.bare c)
theorem At5.mono {K : PySem.W.Frag} {H H' : Hp} {p : Addr} {d : D5} (h : At5 K H p d) (sm : Same H H') : At5 K H' p d := by
  cases h with
  | full h => exact .full (h.mono sm)
  | beyond h => exact .beyond (h.mono sm)
  | twice h ht => exact .twice (h.mono sm) (sm _ _ ht)
  | bare h ht => exact .bare (h.mono sm) (sm _ _ ht)
def fullB (L W f s : Int) (bs : List Brick) : Bool := !(bs.any (beyB L W f s)) && (gridL L W).all fun c => decide (oftN f s bs c = 1)
def beyAt (L W f s : Int) (bs : List Brick) (i : Int) : Bool := (decide (0 ≤ i) && decide (i < bs.length)) && (match bs[i.toNat]? with
  | some b => beyB L W f s b
  | none => false)
def due5 (L W f s : Int) (bs : List Brick) : D5 → Bool
  | .full => fullB L W f s bs
  | .beyond i => beyAt L W f s bs i
  | .twice c => cellB L W c && decide (1 < oftN f s bs c)
  | .bare c => cellB L W c && decide (oftN f s bs c = 0)
inductive SpShows5 (K : PySem.W.Frag) (x : Cl) : Sp where
  | mk {p l : Addr} {d : D5} {ps : List (Addr × Brick)} {L W f s : Int} {H : Hp} {Q : VK} {E : XK} (ha : At5 K H p d) (hx : d.cl = x) (hL : 0 < L ∧ L ≤ 1000) (hW : 0 < W ∧ W ≤ 1000) (hf : 0 < f) (hs : 0 < s) (hl : SqL K H l (refs ps)) (hb : BrAll K H ps) (hn : ps.length ≤ 10000)
      (q : ∀ H', Same H H' → Q (.bl (due5 L W f s (vals ps) d)) H') : SpShows5 K x [.ref p, .int L, .int W, .int f, .int s, .ref l] H Q E
section
variable {P : Program} {w : World} {K : PySem.W.Frag} {mg : Str → Option Value} {base : Heap}
theorem H_Beyond_shows (p : PlM K .beyond "shows" "Beyond.shows" s_Beyond_shows) (B : Bi mg) (G : ClG K mg) (h_is_beyond : Has P w K mg base CX0 1 "is_beyond" ["length", "width", "first", "second", "brick"] (SpBeyond K)) :
    HasM P w K mg base CX0 2 .beyond "shows" ["self", "length", "width", "first", "second", "bricks"] (SpShows5 K .beyond) := by
  refine p.mk0 sc_Beyond_shows (fun _ _ _ _ _ _ us hl => match us, hl with | [_, _, _, _, _, _], _ => rfl) (fun vs H Q E h => ?_) (fun f cdv A outer s H vs Q E hr h => ?_)
  · cases h; rfl
  · obtain @⟨p, l, d, ps, L, W, fi, se, _, _, _, ha, hx, hL, hW, hf, hs, hl, hb, hn, q⟩ := h
    refine ⟨_, (pss_one (ps_ret (pe_and (pe_chain op_le op_lt pe_int (pe_fld (pv 0) rfl) (pe_callB (r := rLen2 K) call_len_seq (by rfl) B.len PySem.boot_len (pa_cons (pv 5) pa_nil))) (pe_one (pe_fn h_is_beyond (hr.mono (by decide)) pass0 (pa_cons (pv 1) (pa_cons (pv 2) (pa_cons (pv 3) (pa_cons (pv 4) (pa_cons (pe_ix (r := rIxL K) ix_list (pv 5) (pe_fld (pv 0) rfl) (fun _ _ => rfl)) pa_nil)))))))))), ?_⟩
    cases ha with
    | full h => cases hx
    | twice h ht => cases hx
    | bare h ht => cases hx
    | @beyond i h =>
      obtain ⟨dx, hp⟩ := h
      have F := G.f .beyond (by decide)
      have q : ∀ H', Same H H' → Q (.bl (beyAt L W fi se (vals ps) i)) H' := q
      unfold beyAt at q
      rw [vals_len] at q
      refine ⟨_, rfl, p, _, dx, _, _, rfl, hp, F.c, F.no, rfl, ?_⟩
      walk_at "rd"
      refine iteD (fun c => ?_) (fun c => ?_)
      · have c : 0 ≤ i := c
        simp only [decide_eq_true c, Bool.true_and] at q
        refine ⟨_, rfl, l, _, rfl, .inl hl, ?_⟩
        walk_at "rd"
        rw [refs_len]
        refine iteD (fun c2 => ?_) (fun c2 => ?_)
        · have c2 : i < (ps.length : Int) := c2
          simp only [decide_eq_true c2, Bool.true_and] at q
          walk_at "rd"
          obtain ⟨n, rfl⟩ := Int.eq_ofNat_of_zero_le c
          have hlt : n < ps.length := by omega
          have hpn : ps[n]? = some ps[n] := List.getElem?_eq_getElem hlt
          have hv : (vals ps)[(n : Int).toNat]? = some ps[n].2 := by
            unfold vals
            rw [Int.toNat_natCast, List.getElem?_map, hpn]
            rfl
          rw [hv] at q
          have hrv : (refs ps)[n]? = some (.ref ps[n].1) := by
            unfold refs
            rw [List.getElem?_map, hpn]
            rfl
          refine ⟨p, _, dx, _, _, rfl, hp, F.c, F.no, rfl, l, _, _, _, rfl, rfl, hl, atI_nat hrv, ?_⟩
          exact .mk (hb _ (List.getElem_mem hlt)) q
        · have c2 : ¬ i < (ps.length : Int) := c2
          simp only [decide_eq_false c2, Bool.false_and] at q
          exact q _ (Same.refl _)
      · have c : ¬ 0 ≤ i := c
        simp only [decide_eq_false c, Bool.false_and] at q
        exact ⟨_, rfl, iteF (q _ (Same.refl _))⟩
theorem H_Twice_shows (p : PlM K .twice "shows" "Twice.shows" s_Twice_shows) (G : ClG K mg) (h_is_cell : Has P w K mg base CX0 2 "is_cell" ["length", "width", "thing"] SpIsCell) (h_often : Has P w K mg base CX0 2 "often" ["first", "second", "bricks", "cell"] (SpOften K)) :
    HasM P w K mg base CX0 3 .twice "shows" ["self", "length", "width", "first", "second", "bricks"] (SpShows5 K .twice) := by
  refine p.mk0 sc_Twice_shows (fun _ _ _ _ _ _ us hl => match us, hl with | [_, _, _, _, _, _], _ => rfl) (fun vs H Q E h => ?_) (fun f cdv A outer s H vs Q E hr h => ?_)
  · cases h; rfl
  · obtain @⟨p, l, d, ps, L, W, fi, se, _, _, _, ha, hx, hL, hW, hf, hs, hl, hb, hn, q⟩ := h
    refine ⟨_, (pss_one (ps_ret (pe_and (pe_fn h_is_cell (hr.mono (by decide)) pass0 (pa_cons (pv 1) (pa_cons (pv 2) (pa_cons (pe_fld (pv 0) rfl) pa_nil)))) (pe_one (pe_cmpR op_gt (pe_fn h_often (hr.mono (by decide)) pass0 (pa_cons (pv 3) (pa_cons (pv 4) (pa_cons (pv 5) (pa_cons (pe_fld (pv 0) rfl) pa_nil))))) pe_int (nomark _)))))), ?_⟩
    cases ha with
    | full h => cases hx
    | beyond h => cases hx
    | bare h ht => cases hx
    | @twice t c h ht =>
      obtain ⟨dx, hp⟩ := h
      have F := G.f .twice (by decide)
      have q : ∀ H', Same H H' → Q (.bl (cellB L W c && decide (1 < oftN fi se (vals ps) c))) H' := q
      refine ⟨_, rfl, _, rfl, _, rfl, p, _, dx, _, _, rfl, hp, F.c, F.no, rfl, .mk ht ⟨_, rfl, iteB (fun c1 => ?_) (fun c1 => ?_)⟩⟩
      · rw [c1] at q
        refine ⟨_, rfl, _, rfl, _, rfl, _, rfl, p, _, dx, _, _, rfl, hp, F.c, F.no, rfl, .mk hl hb hn (sqT ht) fun H1 sm1 => ?_⟩
        walk_at "rd"
        have e : decide ((1 : Int) < (oftN fi se (vals ps) c : Nat)) = decide (1 < oftN fi se (vals ps) c) := decide_eq_decide.mpr (by omega)
        show Q (.bl (decide ((1 : Int) < (oftN fi se (vals ps) c : Nat)))) H1
        rw [e]
        exact q _ sm1
      · rw [c1] at q
        exact q _ (Same.refl _)
theorem H_Bare_shows (p : PlM K .bare "shows" "Bare.shows" s_Bare_shows) (G : ClG K mg) (h_is_cell : Has P w K mg base CX0 2 "is_cell" ["length", "width", "thing"] SpIsCell) (h_often : Has P w K mg base CX0 2 "often" ["first", "second", "bricks", "cell"] (SpOften K)) :
    HasM P w K mg base CX0 3 .bare "shows" ["self", "length", "width", "first", "second", "bricks"] (SpShows5 K .bare) := by
  refine p.mk0 sc_Bare_shows (fun _ _ _ _ _ _ us hl => match us, hl with | [_, _, _, _, _, _], _ => rfl) (fun vs H Q E h => ?_) (fun f cdv A outer s H vs Q E hr h => ?_)
  · cases h; rfl
  · obtain @⟨p, l, d, ps, L, W, fi, se, _, _, _, ha, hx, hL, hW, hf, hs, hl, hb, hn, q⟩ := h
    refine ⟨_, (pss_one (ps_ret (pe_and (pe_fn h_is_cell (hr.mono (by decide)) pass0 (pa_cons (pv 1) (pa_cons (pv 2) (pa_cons (pe_fld (pv 0) rfl) pa_nil)))) (pe_one (pe_cmpR op_eq (pe_fn h_often (hr.mono (by decide)) pass0 (pa_cons (pv 3) (pa_cons (pv 4) (pa_cons (pv 5) (pa_cons (pe_fld (pv 0) rfl) pa_nil))))) pe_int (nomark _)))))), ?_⟩
    cases ha with
    | full h => cases hx
    | beyond h => cases hx
    | twice h ht => cases hx
    | @bare t c h ht =>
      obtain ⟨dx, hp⟩ := h
      have F := G.f .bare (by decide)
      have q : ∀ H', Same H H' → Q (.bl (cellB L W c && decide (oftN fi se (vals ps) c = 0))) H' := q
      refine ⟨_, rfl, _, rfl, _, rfl, p, _, dx, _, _, rfl, hp, F.c, F.no, rfl, .mk ht ⟨_, rfl, iteB (fun c1 => ?_) (fun c1 => ?_)⟩⟩
      · rw [c1] at q
        refine ⟨_, rfl, _, rfl, _, rfl, _, rfl, p, _, dx, _, _, rfl, hp, F.c, F.no, rfl, .mk hl hb hn (sqT ht) fun H1 sm1 => ?_⟩
        walk_at "rd"
        have e : decide (V.int (oftN fi se (vals ps) c : Nat) = V.int 0) = decide (oftN fi se (vals ps) c = 0) := decide_eq_decide.mpr ⟨fun z => by have := V.int.inj z; omega, fun z => by rw [z]; rfl⟩
        show Q (.bl (decide (V.int (oftN fi se (vals ps) c : Nat) = V.int 0))) H1
        rw [e]
        exact q _ sm1
      · rw [c1] at q
        exact q _ (Same.refl _)
end
/-- a cell as a key -/
def keyL (c : Int × Int) : List Key := [Sum.inl c.1, Sum.inl c.2]
theorem key_inj {c d : Int × Int} (h : keyL c = keyL d) : c = d := by
  obtain ⟨a, b⟩ := c
  obtain ⟨a', b'⟩ := d
  unfold keyL at h
  injection h with h1 h2
  injection h2 with h2 h3
  injection h1 with h1
  injection h2 with h2
  simp only at h1 h2
  rw [h1, h2]
theorem find_key {kvs : List (List Key × V)} {cs : List (Int × Int)} (hk : kvs.map (·.1) = cs.map keyL) (c : Int × Int) : (valV kvs (keyL c)).isSome = true ↔ c ∈ cs := by
  unfold valV
  rw [Option.isSome_map, List.find?_isSome]
  constructor
  · rintro ⟨kv, hkv, e⟩
    have m : kv.1 ∈ kvs.map (·.1) := List.mem_map_of_mem hkv
    rw [hk] at m
    obtain ⟨d, hd, ed⟩ := List.mem_map.mp m
    have e2 : kv.1 = keyL c := of_decide_eq_true e
    rw [e2] at ed
    rw [← key_inj ed]
    exact hd
  · intro h
    have m : keyL c ∈ kvs.map (·.1) := by
      rw [hk]
      exact List.mem_map_of_mem h
    obtain ⟨kv, hkv, e⟩ := List.mem_map.mp m
    exact ⟨kv, hkv, decide_eq_true e⟩
theorem put_key {kvs : List (List Key × V)} {cs : List (Int × Int)} (hk : kvs.map (·.1) = cs.map keyL) {c : Int × Int} (hc : c ∉ cs) (v : V) : (putK kvs (keyL c) v).map (·.1) = (cs ++ [c]).map keyL := by
  unfold putK
  have no : ¬ (kvs.any fun kv => decide (kv.1 = keyL c)) = true := by
    intro h
    obtain ⟨kv, hkv, e⟩ := List.any_eq_true.mp h
    have m : kv.1 ∈ kvs.map (·.1) := List.mem_map_of_mem hkv
    rw [hk] at m
    obtain ⟨d, hd, ed⟩ := List.mem_map.mp m
    have e2 : kv.1 = keyL c := of_decide_eq_true e
    rw [e2] at ed
    rw [← key_inj ed] at hc
    exact hc hd
  rw [if_neg no, List.map_append, hk, List.map_append]
  rfl
theorem keys_len {kvs : List (List Key × V)} {cs : List (Int × Int)} (hk : kvs.map (·.1) = cs.map keyL) : kvs.length = cs.length := by
  have := congrArg List.length hk
  rw [List.length_map, List.length_map] at this
  exact this
theorem fullB_eq {L W f s : Int} (hL : 0 < L) (hW : 0 < W) (hf : 0 < f) (hs : 0 < s) {bs : List Brick} (hb : ∀ b ∈ bs, beyB L W f s b = false) :
    fullB L W f s bs = true ↔ ((allL f s bs).Nodup ∧ ((allL f s bs).length : Int) = L * W) := by
  rw [full_iff hL hW hf hs hb]
  have na : bs.any (beyB L W f s) = false := by
    rw [List.any_eq_false]
    intro b hbm
    rw [hb b hbm]
    decide
  unfold fullB
  rw [na]
  show (gridL L W).all (fun c => decide (oftN f s bs c = 1)) = true ↔ _
  rw [List.all_eq_true]
  constructor
  · intro h c hc
    exact of_decide_eq_true (h c ((mem_grid (by omega) (by omega)).mpr hc))
  · intro h c hc
    exact decide_eq_true (h c ((mem_grid (by omega) (by omega)).mp hc))
theorem all_take {f s : Int} {ps : List (Addr × Brick)} {i : Nat} {p : Addr × Brick} (h : ps[i]? = some p) : allL f s ((vals ps).take (i + 1)) = allL f s ((vals ps).take i) ++ cellsL f s p.2 := by
  have et : (vals ps).take (i + 1) = (vals ps).take i ++ [p.2] := by
    unfold vals
    rw [List.take_add_one, List.getElem?_map, h]
    rfl
  unfold allL
  rw [et, List.flatMap_append]
  simp
theorem all_split {f s : Int} {ps : List (Addr × Brick)} {i : Nat} {p : Addr × Brick} (h : ps[i]? = some p) : ∃ r, allL f s (vals ps) = allL f s ((vals ps).take i) ++ (cellsL f s p.2 ++ r) := by
  have e : vals ps = (vals ps).take (i + 1) ++ (vals ps).drop (i + 1) := (List.take_append_drop _ _).symm
  refine ⟨allL f s ((vals ps).drop (i + 1)), ?_⟩
  have e2 : allL f s (vals ps) = allL f s ((vals ps).take (i + 1)) ++ allL f s ((vals ps).drop (i + 1)) := by
    unfold allL
    rw [← List.flatMap_append, List.take_append_drop]
  rw [e2, all_take h, List.append_assoc]
/-- cells on a floor of a few thousands: no more than the floor has -/
theorem nodup_len {L W : Int} (hL : 0 ≤ L ∧ L ≤ 1000) (hW : 0 ≤ W ∧ W ≤ 1000) {cs : List (Int × Int)} (nd : cs.Nodup) (h : ∀ c ∈ cs, cellB L W c = true) : cs.length ≤ 1000000 := by
  have g1 : ∀ c, (gridL L W).count c ≤ 1 := fun c => by
    rw [grid_count hL.1 hW.1]
    split <;> omega
  have sm := sum_counts g1 (all := cs) fun c hc => (mem_grid hL.1 hW.1).mpr (h c hc)
  have le : ∀ g : List (Int × Int), (g.map fun c => cs.count c).sum ≤ g.length := by
    intro g
    induction g with
    | nil => exact Nat.le_refl _
    | cons b g ih =>
      rw [List.map_cons, List.sum_cons, List.length_cons]
      have := List.nodup_iff_count.mp nd b
      omega
  have l1 := le (gridL L W)
  have gl : (gridL L W).length = L.toNat * W.toNat := by
    unfold gridL
    rw [cols_len]
  have := Nat.mul_le_mul (show L.toNat ≤ 1000 by omega) (show W.toNat ≤ 1000 by omega)
  omega
inductive SeenI (p l S : Addr) (L W fi se : Int) (ps : List (Addr × Brick)) (H : Hp) (i : Nat) : L2.St → Hp → Prop where
  | mk {H' : Hp} {z u : Option V} {kvs : List (List Key × V)} (sm : Same H H') (hS : H' S = some (.dT kvs)) (hk : kvs.map (·.1) = (allL fi se ((vals ps).take i)).map keyL) (nd : (allL fi se ((vals ps).take i)).Nodup) :
    SeenI p l S L W fi se ps H i [some (.ref p), some (.int L), some (.int W), some (.int fi), some (.int se), some (.ref l), some (.ref S), z, u] H'
inductive SeenJ (p l S o : Addr) (L W fi se : Int) (ps : List (Addr × Brick)) (cs : List (Int × Int)) (H : Hp) (i j : Nat) : L2.St → Hp → Prop where
  | mk {H' : Hp} {u : Option V} {kvs : List (List Key × V)} (sm : Same H H') (hS : H' S = some (.dT kvs)) (hk : kvs.map (·.1) = (allL fi se ((vals ps).take i) ++ cs.take j).map keyL) (nd : (allL fi se ((vals ps).take i) ++ cs.take j).Nodup) :
    SeenJ p l S o L W fi se ps cs H i j [some (.ref p), some (.int L), some (.int W), some (.int fi), some (.int se), some (.ref l), some (.ref S), some (.ref o), u] H'
section
variable {P : Program} {w : World} {K : PySem.W.Frag} {mg : Str → Option Value} {base : Heap}
theorem H_Full_shows (p : PlM K .full "shows" "Full.shows" s_Full_shows) (B : Bi mg) (h_is_beyond : Has P w K mg base CX0 1 "is_beyond" ["length", "width", "first", "second", "brick"] (SpBeyond K)) (h_cells_of : Has P w K mg base CX0 1 "cells_of" ["first", "second", "brick"] (SpCells K)) :
    HasM P w K mg base CX0 2 .full "shows" ["self", "length", "width", "first", "second", "bricks"] (SpShows5 K .full) := by
  refine p.mk0 sc_Full_shows (fun _ _ _ _ _ _ us hl => match us, hl with | [_, _, _, _, _, _], _ => rfl) (fun vs H Q E h => ?_) (fun f cdv A outer s H vs Q E hr h => ?_)
  · cases h; rfl
  · obtain @⟨p, l, d, ps, L, W, fi, se, _, _, _, ha, hx, hL, hW, hf, hs, hl, hb, hn, q⟩ := h
    refine ⟨_, (pss_cons (ps_if (pt_val (pe_callB (cr_any rfl) (by rfl) B.any (by decide +kernel) (pa_cons (pe_lc (own := [("brick", 7)]) (by rfl) sc_Full_shows.nd (pi_list (pv 5)) (blkOk_by (own := [("brick", 7)]) (N := ["self", "length", "width", "first", "second", "bricks", "seen", "brick", "cell"]) (sc := defScope s_Full_shows) (by decide +kernel)) (fun _ _ _ _ _ => (pg_name (i := 7) sc_Full_shows.nd rfl (Or.inl rfl))) (fun _ _ _ _ _ => pts_nil) (fun _ _ _ _ _ => (pe_fn h_is_beyond (hr.mono (by decide)) pass0 (pa_cons (pv 1) (pa_cons (pv 2) (pa_cons (pv 3) (pa_cons (pv 4) (pa_cons (pv 7) pa_nil)))))))) pa_nil))) (pss_one (ps_ret pe_bl)) pss_nil)
      (pss_cons (ps_set (i := 6) sc_Full_shows.nd rfl (Or.inl rfl) pe_dnewT)
      (pss_cons (ps_for PassesOwn.never (by rfl) (pi_list (pv 5)) (pg_name (i := 7) sc_Full_shows.nd rfl (Or.inl rfl)) (pss_one (ps_for PassesOwn.never (by rfl) (pi_list (pe_fn h_cells_of (hr.mono (by decide)) pass0 (pa_cons (pv 3) (pa_cons (pv 4) (pa_cons (pv 7) pa_nil))))) (pg_name (i := 8) sc_Full_shows.nd rfl (Or.inl rfl)) (pss_cons (ps_if (pt_cmp (pc_din (hu_of hr) (pv 8) (pv 6))) (pss_one (ps_ret pe_bl)) pss_nil)
      (pss_one (ps_dput (hu_of hr) (pv 6) (pv 8) pe_bl rfl))))))
      (pss_one (ps_ret (pe_cmpR op_eq (pe_callB call_len_dT (by rfl) B.len PySem.boot_len (pa_cons (pv 6) pa_nil)) (pe_op op_mulX (pv 1) (pv 2)) (nomark _))))))), ?_⟩
    cases ha with
    | beyond h => cases hx
    | twice h ht => cases hx
    | bare h ht => cases hx
    | full h =>
      clear h hx
      have q : ∀ H', Same H H' → Q (.bl (fullB L W fi se (vals ps))) H' := q
      refine ⟨_, rfl, l, rfl, ⟨_, hl⟩, fun D hD => ?_⟩
      refine lc_list (K := K) (a := l) (xs := refs ps) (fun i H' => Same H H' ∧ H' D = some (.lst ((((vals ps).take i).map (beyB L W fi se)).map V.bl))) ⟨same_upd hD, upd_same⟩ (fun i H' _ ⟨sm, _⟩ => sm.seq hl) ?_ ?_
      · rintro i v H' hi ⟨sm, eD⟩
        obtain ⟨pb, hpb, rfl, hm⟩ := refs_at hi
        have hlt : i < ps.length := (List.getElem?_eq_some_iff.mp hpb).1
        have et : (vals ps).take (i + 1) = (vals ps).take i ++ [pb.2] := by
          unfold vals
          rw [List.take_add_one, List.getElem?_map, hpb]
          rfl
        refine ⟨rfl, lc_yes ?_⟩
        walk_at "rd"
        refine .mk (Same.tup sm (hb pb hm)) fun H2 sm2 => ⟨_, sm2 _ _ eD, ?_, ?_, ?_⟩
        · rw [List.length_map, List.length_map, List.length_take, vals_len]
          exact Nat.lt_of_le_of_lt (Nat.min_le_right _ _) (Nat.lt_of_le_of_lt hn (by decide))
        · exact fun b1 o e => by rw [upd_ne (ne_of_none e hD)]; exact sm2 _ _ (sm b1 o e)
        · rw [upd_same, et, List.map_append, List.map_append]
          rfl
      · rintro H1 ⟨sm1, eD⟩
        rw [refs_len, ← vals_len ps, List.take_length] at eD
        refine ⟨D, _, rfl, sqL eD, ?_⟩
        have ea : ((vals ps).map (beyB L W fi se)).any id = (vals ps).any (beyB L W fi se) := by
          rw [List.any_map]
          rfl
        rw [ea]
        refine ⟨_, rfl, iteB (fun c => ?_) (fun c => ?_)⟩
        · have e : fullB L W fi se (vals ps) = false := by
            unfold fullB
            rw [c]
            rfl
          rw [e] at q
          exact q _ sm1
        have hnb : ∀ b ∈ vals ps, beyB L W fi se b = false := fun b hbm => by
          have := List.any_eq_false.mp c b hbm
          exact Bool.eq_false_iff.mpr this
        have fe := fullB_eq hL.1 hW.1 hf hs hnb
        intro S hS
        have inG : ∀ i c, c ∈ allL fi se ((vals ps).take i) → cellB L W c = true := fun i c hc => by
          obtain ⟨b, hbm, hcb⟩ := List.mem_flatMap.mp hc
          exact cov_cell (hnb b (List.mem_of_mem_take hbm)) (mem_cells hf hs hcb)
        refine ⟨_, rfl, l, rfl, ⟨_, (same_upd hS).seq (sm1.seq hl)⟩, for_list (K := K) (a := l) (xs := refs ps) (fun i σ H' => SeenI p l S L W fi se ps H1 i σ H') (.mk (kvs := []) (same_upd hS) upd_same rfl List.Pairwise.nil) ?_ ?_ ?_⟩
        · rintro _ _ _ _ ⟨sm⟩
          exact sm.seq (sm1.seq hl)
        · rintro i v _ H2 hi @⟨_, _, _, kvs, sm2, eS, hk, nd⟩
          obtain ⟨pb, hpb, rfl, hm⟩ := refs_at hi
          have hbv : pb.2 ∈ vals ps := List.mem_map_of_mem hm
          have nb := hnb _ hbv
          have lim : pb.2.lo fi se ≤ 1000 ∧ pb.2.hi fi se ≤ 1000 := by
            unfold beyB at nb
            simp only [Bool.or_eq_false_iff, decide_eq_false_iff_not] at nb
            omega
          have lo0 : 0 < pb.2.lo fi se := by unfold Brick.lo; split <;> omega
          have hi0 : 0 < pb.2.hi fi se := by unfold Brick.hi; split <;> omega
          walk_at "rd"
          refine .mk (Same.tup (sm1.trans sm2) (hb pb hm)) ⟨by omega, lim.1⟩ ⟨by omega, lim.2⟩ fun C H3 cs sm3 eC hcs vcs => ?_
          have eS3 := sm3 _ _ eS
          have nSC : C ≠ S := ne_of eC eS3 (by intro z; cases z)
          refine ⟨C, rfl, ⟨_, sqL eC⟩, for_list (K := K) (a := C) (xs := refs cs) (fun j σ H' => SeenJ p l S pb.1 L W fi se ps (cellsL fi se pb.2) H1 i j σ H' ∧ H' C = some (.lst (refs cs)) ∧ CeAll H' cs) ⟨.mk (kvs := kvs) (sm2.trans sm3) eS3 (by rw [List.take_zero, List.append_nil]; exact hk) (by rw [List.take_zero, List.append_nil]; exact nd), eC, hcs⟩ ?_ ?_ ?_⟩
          · rintro _ _ _ _ ⟨_, e, _⟩
            exact sqL e
          · rintro j v _ H4 hj ⟨@⟨_, _, kvs4, sm4, eS4, hk4, nd4⟩, eC4, hcs4⟩
            obtain ⟨pc, hpc, rfl, hmc⟩ := refs_at hj
            have ec := hcs4 pc hmc
            have ecl : (cellsL fi se pb.2)[j]? = some pc.2 := by
              rw [← vcs]
              unfold vals
              rw [List.getElem?_map, hpc]
              rfl
            have ecol : cellB L W pc.2 = true := cov_cell nb (mem_cells hf hs (List.mem_of_getElem? ecl))
            have tk : (cellsL fi se pb.2).take (j + 1) = (cellsL fi se pb.2).take j ++ [pc.2] := by
              rw [List.take_add_one, ecl]
              rfl
            have fk := find_key hk4 pc.2
            walk_at "rd"
            refine ⟨S, _, rfl, DGet.t (k := keyL pc.2) eS4 ec, _, rfl, iteB (fun c4 => ?_) (fun c4 => ?_)⟩
            · -- twice
              have mem := fk.mp c4
              have e : fullB L W fi se (vals ps) = false := by
                apply Bool.eq_false_iff.mpr
                intro z
                have nda := (fe.mp z).1
                obtain ⟨r, er⟩ := all_split (f := fi) (s := se) hpb
                rw [er] at nda
                have e3 : cellsL fi se pb.2 = (cellsL fi se pb.2).take j ++ pc.2 :: (cellsL fi se pb.2).drop (j + 1) := by
                  have hlt := (List.getElem?_eq_some_iff.mp ecl).1
                  have h5 : (cellsL fi se pb.2)[j] = pc.2 := (List.getElem?_eq_some_iff.mp ecl).2
                  rw [← h5, ← List.drop_eq_getElem_cons hlt, List.take_append_drop]
                rw [e3, List.append_assoc, ← List.append_assoc] at nda
                have dj := (List.nodup_append.mp nda).2.2 pc.2 mem pc.2 (by simp)
                exact dj rfl
              rw [e] at q
              exact q _ (sm1.trans sm4)
            · have nmem : pc.2 ∉ allL fi se ((vals ps).take i) ++ (cellsL fi se pb.2).take j := fun z => by
                rw [fk.mpr z] at c4
                cases c4
              have nd5 : (allL fi se ((vals ps).take i) ++ (cellsL fi se pb.2).take (j + 1)).Nodup := by
                rw [tk, ← List.append_assoc]
                exact List.nodup_append.mpr ⟨nd4, by simp, fun a ha b hb2 e => by
                  rw [List.mem_singleton] at hb2
                  rw [e, hb2] at ha
                  exact nmem ha⟩
              have small : kvs4.length < sizeLine := by
                rw [keys_len hk4]
                refine Nat.lt_of_le_of_lt (nodup_len (L := L) (W := W) (by omega) (by omega) nd4 fun c hc => ?_) (by decide)
                rcases List.mem_append.mp hc with z | z
                · exact inG i c z
                · exact cov_cell nb (mem_cells hf hs (List.mem_of_mem_take z))
              walk_at "rd"
              have nCS : C ≠ S := ne_of eC4 eS4 (by intro z; cases z)
              refine ⟨S, _, rfl, DPut.t (k := keyL pc.2) eS4 ec small, .mk (kvs := putK kvs4 (keyL pc.2) (.bl true)) ?_ upd_same ?_ nd5, ?_, ?_⟩
              · exact fun b1 o e => by rw [upd_ne (ne_of_none e hS)]; exact sm4 b1 o e
              · rw [put_key hk4 nmem, tk, List.append_assoc]
              · rw [upd_ne nCS]
                exact eC4
              · exact fun z hz => by
                  have hz2 := hcs4 z hz
                  have nz : z.1 ≠ S := ne_of hz2 eS4 (by intro z; cases z)
                  rw [upd_ne nz]
                  exact hz2
          · rintro _ H4 ⟨@⟨_, _, kvs4, sm4, eS4, hk4, nd4⟩, _, _⟩
            have el : (cellsL fi se pb.2).take (refs cs).length = cellsL fi se pb.2 := by
              rw [refs_len, ← vals_len, vcs, List.take_length]
            rw [el] at hk4 nd4
            exact .mk (kvs := kvs4) sm4 eS4 (by rw [all_take hpb]; exact hk4) (by rw [all_take hpb]; exact nd4)
        · rintro _ H2 @⟨_, _, _, kvs, sm2, eS, hk, nd⟩
          rw [refs_len, ← vals_len ps, List.take_length] at hk nd
          refine ⟨_, rfl, S, kvs, rfl, eS, ?_⟩
          have bL : Bn 20 L := bnl (by omega)
          have bW : Bn 20 W := bnl (by omega)
          walk_at "rd"
          have e : decide (V.int ((kvs.length : Nat) : Int) = V.int (L * W)) = fullB L W fi se (vals ps) := by
            rw [keys_len hk]
            by_cases c : ((allL fi se (vals ps)).length : Int) = L * W
            · rw [fe.mpr ⟨nd, c⟩]
              exact decide_eq_true (congrArg V.int c)
            · rw [Bool.eq_false_iff.mpr fun z => c (fe.mp z).2]
              exact decide_eq_false fun z => c (V.int.inj z)
          show Q (.bl (decide (V.int ((kvs.length : Nat) : Int) = V.int (L * W)))) H2
          rw [e]
          exact q _ (sm1.trans sm2)
theorem H_shows5 (B : Bi mg) (G : ClG K mg) (p1 : PlM K .full "shows" "Full.shows" s_Full_shows) (p2 : PlM K .beyond "shows" "Beyond.shows" s_Beyond_shows) (p3 : PlM K .twice "shows" "Twice.shows" s_Twice_shows) (p4 : PlM K .bare "shows" "Bare.shows" s_Bare_shows)
    (h_is_beyond : Has P w K mg base CX0 1 "is_beyond" ["length", "width", "first", "second", "brick"] (SpBeyond K)) (h_cells_of : Has P w K mg base CX0 1 "cells_of" ["first", "second", "brick"] (SpCells K))
    (h_is_cell : Has P w K mg base CX0 2 "is_cell" ["length", "width", "thing"] SpIsCell) (h_often : Has P w K mg base CX0 2 "often" ["first", "second", "bricks", "cell"] (SpOften K)) :
    ∀ x, Ok5 x → HasM P w K mg base CX0 3 x "shows" ["self", "length", "width", "first", "second", "bricks"] (SpShows5 K x) := by
  intro x hx
  have e : x = .full ∨ x = .beyond ∨ x = .twice ∨ x = .bare := by simpa [Ok5] using hx
  rcases e with rfl | rfl | rfl | rfl
  · exact (H_Full_shows p1 B h_is_beyond h_cells_of).mono (by decide)
  · exact (H_Beyond_shows p2 B G h_is_beyond).mono (by decide)
  · exact H_Twice_shows p3 G h_is_cell h_often
  · exact H_Bare_shows p4 G h_is_cell h_often
end
end BF

namespace BF
open PySem PySem.Spec PyProof.Rows L2
/-- the greatest that goes into both -/
inductive SpCommon : Sp where
  | mk {a b : Int} {H : Hp} {Q : VK} {E : XK} (ha : 0 < a) (hb : 0 < b) (q : ∀ g : Int, 0 < g → (∀ d : Int, d ∣ g ↔ d ∣ a ∧ d ∣ b) → Q (.int g) H) : SpCommon [.int a, .int b] H Q E
inductive SpFew : Sp where
  | mk {s a b : Int} {H : Hp} {Q : VK} {E : XK} (hs : Sz s) (ha : Sz a) (hb : Sz b) (q : ∀ H', Same H H' → Q (.int (fewI (parts s a b))) H') : SpFew [.int s, .int a, .int b] H Q E
section
variable {P : Program} {w : World} {K : PySem.W.Frag} {mg : Str → Option Value} {base : Heap}
structure CmInv (a b one other : Int) : Prop where
  o1 : 0 < one
  o2 : 0 ≤ other
  dv : ∀ d : Int, (d ∣ one ∧ d ∣ other) ↔ (d ∣ a ∧ d ∣ b)
theorem CmInv.turn {a b one other : Int} (h : CmInv a b one other) (ho : 0 < other) : CmInv a b other (one % other) := by
  have hm := Int.emod_add_mul_ediv one other
  refine ⟨ho, Int.emod_nonneg _ (Int.ne_of_gt ho), fun d => ?_⟩
  rw [← h.dv d]
  constructor
  · rintro ⟨a1, a2⟩
    refine ⟨?_, a1⟩
    rw [← hm]
    exact Int.dvd_add a2 (Int.dvd_trans a1 (Int.dvd_mul_right _ _))
  · rintro ⟨a1, a2⟩
    refine ⟨a2, ?_⟩
    have : one % other = one - other * (one / other) := by omega
    rw [this]
    exact Int.dvd_sub a1 (Int.dvd_trans a2 (Int.dvd_mul_right _ _))
theorem H__law_common (p : Pl K mg "_law_common" s__law_common) : Has P w K mg base CX0 1 "_law_common" ["_law_one", "_law_other"] SpCommon := by
  refine p.mk0 sc__law_common (fun _ _ _ _ _ _ us hl => match us, hl with | [_, _], _ => rfl) (fun vs H Q E h => ?_) (fun f cdv A outer s H vs Q E hr h => ?_)
  · cases h; rfl
  · obtain @⟨a, b, _, _, _, ha, hb, q⟩ := h
    refine ⟨_, (pss_cons (ps_while PassesOwn.never (pt_cmpR op_gt (pv 1) pe_int (nomark _)) (pss_one (ps_par (i := 0) (j := 1) (by rfl) sc__law_common.nd rfl rfl (by decide) rfl rfl (pa_cons (pv 1) (pa_cons (pe_op op_mod (pv 0) (pv 1)) pa_nil)) (by rfl))))
      (pss_one (ps_ret (pv 0)))), ?_⟩
    refine while_by (fun σ H' => H' = H ∧ ∃ one other, σ = [some (.int one), some (.int other)] ∧ CmInv a b one other) (fun σ _ => slotN σ 1) ⟨rfl, a, b, rfl, ha, Int.le_of_lt hb, fun d => Iff.rfl⟩ ?_ (fun σ H Q Q' hq h => ?_)
    · rintro σ H' ⟨rfl, one, other, rfl, I⟩
      refine ⟨_, rfl, _, _, rfl, rfl, _, rfl, iteD (fun ho => ?_) (fun ho => ?_)⟩
      · have ho : 0 < other := ho
        refine ⟨_, rfl, _, rfl, _, rfl, _, _, rfl, rfl, ho, _, _, rfl, ⟨rfl, _, _, rfl, I.turn ho⟩, ?_⟩
        have h0 : 0 ≤ one % other := Int.emod_nonneg _ (Int.ne_of_gt ho)
        have h1 : one % other < other := Int.emod_lt_of_pos _ ho
        show (one % other).toNat < other.toNat
        omega
      · have h0 := I.o2
        have ho : ¬ 0 < other := ho
        have e : other = 0 := by omega
        subst e
        refine ⟨_, rfl, q one I.o1 fun d => ?_⟩
        rw [← I.dv d]
        exact ⟨fun z => ⟨z, Int.dvd_zero d⟩, fun z => z.1⟩
    · obtain ⟨v, e, i, j, e1, e2, k, e3, q⟩ := h
      exact ⟨v, e, i, j, e1, e2, k, e3, hq _ _ q⟩
theorem div_pos_of_dvd {g b : Int} (hg : 0 < g) (hb : 0 < b) (d : g ∣ b) : 0 < b / g := by
  obtain ⟨c, ec⟩ := d
  have e2 : b / g = c := by rw [ec]; exact Int.mul_ediv_cancel_left c (Int.ne_of_gt hg)
  rw [e2]
  rcases Int.lt_or_le 0 c with h | h
  · exact h
  · have h3 : g * c ≤ g * 0 := Int.mul_le_mul_of_nonneg_left h (Int.le_of_lt hg)
    omega
theorem H__law_few (p : Pl K mg "_law_few" s__law_few) (h__law_common : Has P w K mg base CX0 1 "_law_common" ["_law_one", "_law_other"] SpCommon) : Has P w K mg base CX0 2 "_law_few" ["_law_size", "_law_first", "_law_second"] SpFew := by
  refine p.mk0 sc__law_few (fun _ _ _ _ _ _ us hl => match us, hl with | [_, _, _], _ => rfl) (fun vs H Q E h => ?_) (fun f cdv A outer s H vs Q E hr h => ?_)
  · cases h; rfl
  · obtain @⟨sz, a, b, _, _, _, hs, ha, hb, q⟩ := h
    refine ⟨_, (pss_cons (ps_set (i := 3) sc__law_few.nd rfl (Or.inl rfl) (pe_fn h__law_common (hr.mono (by decide)) pass0 (pa_cons (pv 1) (pa_cons (pv 2) pa_nil))))
      (pss_cons (ps_if (pt_cmpR op_gt (pe_op op_mod (pv 0) (pv 3)) pe_int (nomark _)) (pss_one (ps_ret (pe_un un_neg pe_int))) pss_nil)
      (pss_cons (ps_par3 (i := 0) (j := 1) (l := 2) (by rfl) sc__law_few.nd rfl rfl rfl (by decide) (by decide) (by decide) rfl rfl rfl (pa_cons (pe_op op_fdivW (pv 0) (pv 3)) (pa_cons (pe_op op_fdivW (pv 1) (pv 3)) (pa_cons (pe_op op_fdivW (pv 2) (pv 3)) pa_nil))) (by rfl))
      (pss_cons (ps_par3 (i := 4) (j := 5) (l := 6) (by rfl) sc__law_few.nd rfl rfl rfl (by decide) (by decide) (by decide) rfl rfl rfl (pa_cons (pe_lst pa_nil) (pa_cons (pv 1) (pa_cons (pv 2) pa_nil))) (by rfl))
      (pss_cons (ps_while PassesOwn.never (pt_cmpR op_gt (pv 6) pe_int (nomark _)) (pss_cons (ps_expr (pe_bm PySem.F.plainAttrs_list PySem.F.slot_list_append PySem.F.type_list_append mt_append (pv 4) (pa_cons (pe_op op_fdivW (pv 5) (pv 6)) pa_nil)))
      (pss_one (ps_par (i := 5) (j := 6) (by rfl) sc__law_few.nd rfl rfl (by decide) rfl rfl (pa_cons (pv 6) (pa_cons (pe_op op_mod (pv 5) (pv 6)) pa_nil)) (by rfl)))))
      (pss_cons (ps_asg (pe_tup (pa_cons pe_int (pa_cons pe_int pa_nil))) (pg_tup (by rfl) (pgs_cons (pg_name (i := 7) sc__law_few.nd rfl (Or.inl rfl)) (pgs_cons (pg_name (i := 8) sc__law_few.nd rfl (Or.inl rfl)) pgs_nil))))
      (pss_cons (ps_for PassesOwn.never (by rfl) (pi_list (pe_revL (pv 4))) (pg_name (i := 9) sc__law_few.nd rfl (Or.inl rfl)) (pss_one (ps_par (i := 7) (j := 8) (by rfl) sc__law_few.nd rfl rfl (by decide) rfl rfl (pa_cons (pv 8) (pa_cons (pe_op op_sub (pv 7) (pe_op op_mulX (pv 9) (pv 8))) pa_nil)) (by rfl))))
      (pss_cons (ps_set (i := 10) sc__law_few.nd rfl (Or.inl rfl) (pe_op op_mod (pe_op op_mulX (pv 0) (pv 7)) (pv 2)))
      (pss_one (ps_ret (pe_ifExp (pt_cmpR op_le (pe_op op_mulX (pv 10) (pv 1)) (pv 0) (nomark _)) (pv 10) (pe_un un_neg pe_int)))))))))))), ?_⟩
    refine ⟨_, rfl, _, rfl, .mk ha.pos hb.pos fun g hg dg => ?_⟩
    obtain ⟨da, db⟩ := (dg g).mp (Int.dvd_refl g)
    have bg : Bn 2000 g := hb.bn.of_le (Int.le_of_lt hg) (Int.le_of_dvd hb.pos db)
    refine ⟨_, rfl, _, rfl, _, _, rfl, rfl, hg, _, _, rfl, rfl, _, rfl, iteD (fun c => ?_) (fun c => ?_)⟩
    · have c : 0 < sz % g := c
      have e := few_none (s := sz) hb.pos dg (by omega)
      rw [e] at q
      exact ⟨_, rfl, q _ (Same.refl H)⟩
    · have c0 : 0 ≤ sz % g := Int.emod_nonneg _ (Int.ne_of_gt hg)
      have c : ¬ 0 < sz % g := c
      have hz : sz % g = 0 := by omega
      have p1 : 0 < sz / g := div_pos_of_dvd hg hs.pos (Int.dvd_of_emod_eq_zero hz)
      have p2 : 0 < a / g := div_pos_of_dvd hg ha.pos da
      have p3 : 0 < b / g := div_pos_of_dvd hg hb.pos db
      have n1 : Bn 2000 (sz / g) := hs.bn.div hg
      have n2 : Bn 2000 (a / g) := ha.bn.div hg
      have n3 : Bn 2000 (b / g) := hb.bn.div hg
      have key : ∀ rows : List Int, Eu (a / g) (b / g) rows → fewI (parts sz a b) = if sz / g * (back rows).1 % (b / g) * (a / g) ≤ sz / g then sz / g * (back rows).1 % (b / g) else -1 := fun rows E => few_back (g2 := 0) hs.pos ha.pos hb.pos hg dg E hz
      refine ⟨_, rfl, _, rfl, _, _, rfl, rfl, bg.divOk hg (by decide) (by decide), _, rfl, _, rfl, _, _, rfl, rfl, bg.divOk hg (by decide) (by decide), _, rfl, _, rfl, _, _, rfl, rfl, bg.divOk hg (by decide) (by decide), _, _, _, rfl, ?_⟩
      -- the rows
      refine ⟨Nat.zero_le _, fun R hR => ⟨_, rfl, _, rfl, _, _, _, rfl, ?_⟩⟩
      refine while_by (fun σ H' => ∃ one other rows, σ = [some (.int (sz / g)), some (.int (a / g)), some (.int (b / g)), some (.int g), some (.ref R), some (.int one), some (.int other), none, none, none, none] ∧ FwInv (a / g) (b / g) rows one other ∧ Same H H' ∧ H' R = some (.lst (rows.map V.int)))
        (fun σ _ => slotN σ 6) ⟨(a / g), (b / g), [], rfl, FwInv.start p2 p3, same_upd hR, upd_same⟩ ?_ (fun σ H Q Q' hq h => ?_)
      · rintro σ H1 ⟨one, other, rows, rfl, I, sm, eR⟩
        have m1 : Bn 2000 one := by
          rcases I.l1 with l | l
          · exact n2.of_le (Int.le_of_lt I.o1) l
          · exact n3.of_le (Int.le_of_lt I.o1) l
        have m2 : Bn 2000 other := n3.of_le I.o2 I.l2
        refine ⟨_, rfl, _, _, rfl, rfl, _, rfl, iteD (fun ho => ?_) (fun ho => ?_)⟩
        · have ho : 0 < other := ho
          have hl := I.few ho n2.lt n3.lt
          refine ⟨_, rfl, .inl ⟨rfl, _, sqL eR⟩, _, rfl, _, rfl, _, _, rfl, rfl, m2.divOk ho (by decide) (by decide), R, _, _, rfl, rfl, eR, ?_, ?_⟩
          · rw [List.length_map]
            exact Nat.lt_of_le_of_lt hl (by decide)
          · refine ⟨_, rfl, _, rfl, _, rfl, _, _, rfl, rfl, ho, _, _, rfl, ⟨_, _, rows ++ [one / other], rfl, I.turn ho, fun b o e => ?_, ?_⟩, ?_⟩
            · rw [upd_ne (ne_of_none e hR)]
              exact sm b o e
            · rw [upd_same, List.map_append]
              rfl
            · have h0 : 0 ≤ one % other := Int.emod_nonneg _ (Int.ne_of_gt ho)
              have h1 : one % other < other := Int.emod_lt_of_pos _ ho
              show (one % other).toNat < other.toNat
              omega
        · have h0 := I.o2
          have ho : ¬ 0 < other := ho
          have e0 : other = 0 := by omega
          subst e0
          have E : Eu (a / g) (b / g) rows := by
            have := I.go [] (.nil I.o1)
            rw [List.append_nil] at this
            exact this
          -- mine, theirs = 1, 0
          refine ⟨by show 2 ≤ sizeLine; decide, fun p0 hp0 => ⟨p0, _, rfl, sqT upd_same, rfl, _, _, rfl, _, _, rfl, rfl, ?_⟩⟩
          have sm1 : Same H1 (upd H1 p0 (.tup [.int 1, .int 0])) := same_upd hp0
          generalize upd H1 p0 (.tup [.int 1, .int 0]) = H2 at sm1 ⊢
          -- the way back
          refine ⟨_, rfl, R, _, rfl, sqL (sm1 _ _ eR), fun V1 hV => ?_⟩
          have sm2 : Same H2 (upd H2 V1 (.lst (rows.map V.int).reverse)) := same_upd hV
          have hVS : (upd H2 V1 (.lst (rows.map V.int).reverse)) V1 = some (.lst (rows.map V.int).reverse) := upd_same
          generalize upd H2 V1 (.lst (rows.map V.int).reverse) = H3 at sm2 hVS ⊢
          refine ⟨V1, rfl, ⟨_, sqL hVS⟩, for_list (K := K) (a := V1) (xs := (rows.map V.int).reverse) (fun i σ H' => H' = H3 ∧ ∃ y, σ = [some (.int (sz / g)), some (.int (a / g)), some (.int (b / g)), some (.int g), some (.ref R), some (.int one), some (.int 0), some (.int (back (rows.drop (rows.length - i))).1), some (.int (back (rows.drop (rows.length - i))).2), y, none])
            ⟨rfl, none, ?_⟩ (fun i σ H' _ ⟨e, _⟩ => by rw [e]; exact sqL hVS) ?_ ?_⟩
          · rw [Nat.sub_zero, List.drop_length]
            rfl
          · rintro i y σ H' hi ⟨rfl, z, rfl⟩
            rw [← List.map_reverse] at hi
            obtain ⟨n, hn, rfl⟩ := ints_at hi
            have il : i < rows.length := by
              have := (List.getElem?_eq_some_iff.mp hn).1
              rw [List.length_reverse] at this
              exact this
            rw [List.getElem?_reverse il] at hn
            have ed : rows.drop (rows.length - (i + 1)) = n :: rows.drop (rows.length - i) := by
              have l2 : rows.length - 1 - i < rows.length := by omega
              obtain ⟨hx, ex⟩ := List.getElem?_eq_some_iff.mp hn
              rw [show rows.length - (i + 1) = rows.length - 1 - i by omega, List.drop_eq_getElem_cons hx, ex, show rows.length - 1 - i + 1 = rows.length - i by omega]
            obtain ⟨x, yy, E1, lx, ly⟩ := E.drop (B := (a / g) + (b / g)) (by omega) (by omega) (rows.length - (i + 1)) (by omega)
            rw [ed] at E1
            have nab : Bn 4001 ((a / g) + (b / g)) := (n2.add n3).mono (by decide)
            cases E1 with
            | cons h1 h2 E2 =>
              have bnq : Bn 4001 (x / yy) := (nab.of_le (Int.le_of_lt h1) lx).div h2
              have bnt : Bn 4001 (back (rows.drop (rows.length - i))).2 := by
                obtain ⟨_, _, _, _, bd⟩ := E2.back
                by_cases hr : rows.drop (rows.length - i) = []
                · rw [hr]
                  exact bn0
                · exact (nab.of_le (Int.le_of_lt h2) ly).le (bd hr).2
              refine ⟨_, rfl, _, rfl, _, rfl, _, rfl, _, _, rfl, rfl, bnq.mulOk bnt (by decide), _, _, rfl, rfl, _, _, rfl, ?_⟩
              refine ⟨rfl, some (.int (x / yy)), ?_⟩
              rw [ed]
              rfl
          · rintro σ H' ⟨rfl, y, rfl⟩
            rw [List.length_reverse, List.length_map, Nat.sub_self, List.drop_zero]
            have bm : Bn 4001 (back rows).1 := by
              obtain ⟨_, _, _, _, bd⟩ := E.back
              by_cases hr : rows = []
              · rw [hr]
                exact (bnl (n := 1) (by decide)).mono (by decide)
              · exact (n3.le (bd hr).1).mono (by decide)
            have bf : Bn 2000 ((sz / g) * (back rows).1 % (b / g)) := n3.mod p3
            refine ⟨_, rfl, _, rfl, _, _, rfl, rfl, n1.mulOk bm (by decide), _, rfl, _, _, rfl, rfl, p3, ?_⟩
            refine ⟨_, rfl, _, rfl, _, _, rfl, rfl, bf.mulOk n2 (by decide), _, rfl, _, _, rfl, rfl, _, rfl, iteD (fun c => ?_) (fun c => ?_)⟩
            · have e := key rows E
              rw [if_pos c] at e
              rw [e] at q
              exact ⟨_, rfl, q _ (sm.trans (sm1.trans sm2))⟩
            · have e := key rows E
              rw [if_neg c] at e
              rw [e] at q
              exact ⟨_, rfl, q _ (sm.trans (sm1.trans sm2))⟩
      · obtain ⟨v, e, i, j, e1, e2, k, e3, q⟩ := h
        exact ⟨v, e, i, j, e1, e2, k, e3, hq _ _ q⟩
end
end BF

/-! ### the laws' own word of what bars -/
namespace BF
open PySem PySem.Spec PyProof.Rows L2
inductive SpLBars (K : PySem.W.Frag) : Sp where
  | mk {t : Addr} {L W f s k : Int} {H : Hp} {Q : VK} {E : XK} (ht : SqT K H t [.int L, .int W, .int f, .int s]) (hL : Sz L) (hW : Sz W) (hf : Sz f) (hs : Sz s) (q : ∀ H', Same H H' → Q (.bl (barB L W f s k)) H') : SpLBars K [.ref t, .int k] H Q E
theorem str_pos {L W d : Int} (hd : 0 < d) : strB L W d = (decide (0 < L % d) && decide (0 < W % d)) := by
  have h1 := Int.emod_nonneg L (Int.ne_of_gt hd)
  have h2 := Int.emod_nonneg W (Int.ne_of_gt hd)
  unfold strB
  have e1 : (!decide (L % d = 0)) = decide (0 < L % d) := by
    by_cases c : L % d = 0
    · rw [decide_eq_true c, decide_eq_false (by omega)]; rfl
    · rw [decide_eq_false c, decide_eq_true (by omega)]; rfl
  have e2 : (!decide (W % d = 0)) = decide (0 < W % d) := by
    by_cases c : W % d = 0
    · rw [decide_eq_true c, decide_eq_false (by omega)]; rfl
    · rw [decide_eq_false c, decide_eq_true (by omega)]; rfl
  rw [e1, e2]
theorem sho_neg {x f s : Int} (hf : 0 < f) (hs : 0 < s) : decide (fewI (parts x f s) < 0) = shoB x f s := by
  have n := few_neg (s := x) hf hs
  unfold shoB
  cases h : parts x f s with
  | none => rw [h] at n; exact decide_eq_true (n.mpr rfl)
  | some y =>
    rw [h] at n
    exact decide_eq_false fun z => nomatch n.mp z
section
variable {P : Program} {w : World} {K : PySem.W.Frag} {mg : Str → Option Value} {base : Heap}
theorem H__law_bars (p : Pl K mg "_law_bars" s__law_bars) (h__law_few : Has P w K mg base CX0 2 "_law_few" ["_law_size", "_law_first", "_law_second"] SpFew) :
    Has P w K mg base CX0 3 "_law_bars" ["_law_four_here", "_law_which"] (SpLBars K) := by
  refine p.mk0 sc__law_bars (fun _ _ _ _ _ _ us hl => match us, hl with | [_, _], _ => rfl) (fun vs H Q E h => ?_) (fun f cdv A outer s H vs Q E hr h => ?_)
  · cases h; rfl
  · obtain @⟨t, L, W, fi, se, k, _, _, _, ht, hL, hW, hf, hs, q⟩ := h
    refine ⟨_, (pss_cons (ps_asg (pv 0) (pg_tup (by rfl) (pgs_cons (pg_name (i := 2) sc__law_bars.nd rfl (Or.inl rfl)) (pgs_cons (pg_name (i := 3) sc__law_bars.nd rfl (Or.inl rfl)) (pgs_cons (pg_name (i := 4) sc__law_bars.nd rfl (Or.inl rfl)) (pgs_cons (pg_name (i := 5) sc__law_bars.nd rfl (Or.inl rfl)) pgs_nil))))))
      (pss_cons (ps_if (pt_cmpR op_lt (pv 1) pe_int (nomark _)) (pss_cons (ps_set (i := 6) sc__law_bars.nd rfl (Or.inl rfl) (pe_ifExp (pt_cmpR op_eq (pv 1) pe_int (nomark _)) (pv 4) (pv 5)))
      (pss_one (ps_ret (pe_and (pe_cmpR op_gt (pe_op op_mod (pv 2) (pv 6)) pe_int (nomark _)) (pe_one (pe_cmpR op_gt (pe_op op_mod (pv 3) (pv 6)) pe_int (nomark _))))))) pss_nil)
      (pss_one (ps_ret (pe_cmpR op_lt (pe_fn h__law_few (hr.mono (by decide)) pass0 (pa_cons (pe_ifExp (pt_cmpR op_eq (pv 1) pe_int (nomark _)) (pv 2) (pv 3)) (pa_cons (pv 4) (pa_cons (pv 5) pa_nil)))) pe_int (nomark _)))))), ?_⟩
    unfold barB at q
    refine ⟨_, rfl, t, _, rfl, ht, rfl, ?_⟩
    walk_at "rd"
    refine iteD (fun c => ?_) (fun c => ?_)
    · have c : k < 2 := c
      rw [if_pos c] at q
      have side : ∀ d : Int, 0 < d → (∀ H', Same H H' → Q (.bl (strB L W d)) H') → Q (.bl (decide (0 < L % d) && decide (0 < W % d))) H := fun d hd q => by
        rw [← str_pos hd]
        exact q _ (Same.refl _)
      walk_at "rd"
      refine iteEq (fun d => ?_) (fun d => ?_)
      · rw [if_pos d] at q
        have z := side fi hf.pos q
        have p0 := hf.pos
        walk_at "rd"
        refine iteD (fun e => ?_) (fun e => ?_)
        · have e : 0 < L % fi := e
          rw [decide_eq_true e] at z
          walk_at "rd"
          exact z
        · have e : ¬ 0 < L % fi := e
          rw [decide_eq_false e] at z
          exact z
      · rw [if_neg d] at q
        have z := side se hs.pos q
        have p0 := hs.pos
        walk_at "rd"
        refine iteD (fun e => ?_) (fun e => ?_)
        · have e : 0 < L % se := e
          rw [decide_eq_true e] at z
          walk_at "rd"
          exact z
        · have e : ¬ 0 < L % se := e
          rw [decide_eq_false e] at z
          exact z
    · have c : ¬ k < 2 := c
      rw [if_neg c] at q
      walk_at "rd"
      refine iteEq (fun d => ?_) (fun d => ?_)
      · rw [if_pos d] at q
        walk_at "rd"
        refine .mk hL hf hs fun H1 sm1 => ?_
        walk_at "rd"
        show Q (.bl (decide (fewI (parts L fi se) < 0))) H1
        rw [show decide (fewI (parts L fi se) < 0) = shoB L fi se from sho_neg hf.pos hs.pos]
        exact q _ sm1
      · rw [if_neg d] at q
        walk_at "rd"
        refine .mk hW hf hs fun H1 sm1 => ?_
        walk_at "rd"
        show Q (.bl (decide (fewI (parts W fi se) < 0))) H1
        rw [show decide (fewI (parts W fi se) < 0) = shoB W fi se from sho_neg hf.pos hs.pos]
        exact q _ sm1
end
end BF

/-! ### a drawn floor and brick -/
namespace BF
open PySem PySem.Spec PyProof.Rows L2
/-- a drawn size -/
structure Sd (x : Int) : Prop where
  pos : 0 < x
  lt : x < 10 ^ 60
theorem Sd.sz {x : Int} (h : Sd x) : Sz x := sz_of_lt h.pos h.lt
theorem Sd.bn {x : Int} (h : Sd x) : Bn 200 x := bn_of_lt (Int.le_of_lt h.pos) h.lt
inductive SpFour (K : PySem.W.Frag) : Sp where
  | mk {a : Addr} {ns : List Int} {at_ most : Int} {H : Hp} {Q : VK} {E : XK} (hb : ∀ z ∈ ns, Builtin.Int.intBits z ≤ 1048576) (hl : ns.length ≤ 63) (hS : SqL K H a (ns.map V.int)) (h0 : 0 ≤ at_) (h1 : at_ < ns.length) (m1 : 0 < most) (m2 : most ≤ 10 ^ 20)
      (q : ∀ L W f s p H', Sd L → Sd W → Sd f → Sd s → Same H H' → H' p = some (.tup [.int L, .int W, .int f, .int s]) → Q (.ref p) H') : SpFour K [.ref a, .int at_, .int most] H Q E
/-- what is between -/
structure Md (b x : Int) : Prop where
  lo : -b ≤ x
  hi : x ≤ b
theorem Md.wide {x : Int} (h : Md (10 ^ 50) x) : Md (10 ^ 51) x := ⟨by have := h.lo; omega, by have := h.hi; omega⟩
inductive FourI (b : Int) (a : Addr) (at_ most wh num oth : Int) (H : Hp) : L2.St → Hp → Prop where
  | mk {H' : Hp} {f s fe mo le ki L W : Int} (sm : Same H H') (hf : 0 < f ∧ f ≤ 10 ^ 20) (hs : 0 < s ∧ s ≤ 10 ^ 20) (hfe : 0 < fe ∧ fe ≤ 5) (hmo : 0 ≤ mo ∧ mo ≤ 3) (hle : 0 < le ∧ le ≤ 3) (hL : Md b L) (hW : Md b W) :
    FourI b a at_ most wh num oth H [some (.ref a), some (.int at_), some (.int most), some (.int wh), some (.int num), some (.int oth), some (.int f), some (.int s), some (.int fe), some (.int mo), some (.int le), some (.int ki), some (.int L), some (.int W)] H'
section
variable {P : Program} {w : World} {K : PySem.W.Frag} {mg : Str → Option Value} {base : Heap}
theorem H__law_four (p : Pl K mg "_law_four" s__law_four) (B : Bi mg) (h__law_number : Has P w K mg base CX0 1 "_law_number" ["_law_cell", "_law_at", "_law_whole"] SpNumber) :
    Has P w K mg base CX0 2 "_law_four" ["_law_script", "_law_at", "_law_most"] (SpFour K) := by
  refine p.mk0 sc__law_four (fun _ _ _ _ _ _ us hl => match us, hl with | [_, _, _], _ => rfl) (fun vs H Q E h => ?_) (fun f cdv A outer s H vs Q E hr h => ?_)
  · cases h; rfl
  · obtain @⟨a, ns, at_, most, _, _, _, hbits, hl, hS, h0, h1, m1, m2, q⟩ := h
    refine ⟨_, (pss_cons (ps_set (i := 3) sc__law_four.nd rfl (Or.inl rfl) (pe_callB (cr_sum rfl) (by rfl) B.sum (by decide +kernel) (pa_cons (pe_slice sl_list (pv 0) po_none (po_some pe_int)) pa_nil)))
      (pss_cons (ps_set (i := 4) sc__law_four.nd rfl (Or.inl rfl) (pe_fn h__law_number (hr.mono (by decide)) pass0 (pa_cons (pe_ix (r := rIxL K) ix_list (pv 0) (pv 1) (fun _ _ => rfl)) (pa_cons (pv 1) (pa_cons (pv 3) pa_nil)))))
      (pss_cons (ps_set (i := 5) sc__law_four.nd rfl (Or.inl rfl) (pe_fn h__law_number (hr.mono (by decide)) pass0 (pa_cons (pe_ix (r := rIxL K) ix_list (pv 0) (pe_op op_sub (pv 1) pe_int) (fun _ _ => rfl)) (pa_cons (pe_op op_add (pv 1) pe_int) (pa_cons (pv 3) pa_nil)))))
      (pss_cons (ps_par (i := 6) (j := 7) (by rfl) sc__law_four.nd rfl rfl (by decide) rfl rfl (pa_cons (pe_op op_add pe_int (pe_op op_mod (pe_op op_fdivW (pv 4) pe_int) (pv 2))) (pa_cons (pe_op op_add pe_int (pe_op op_mod (pe_op op_fdivW (pe_op op_fdivW (pv 4) pe_int) (pv 2)) (pv 2))) pa_nil)) (by rfl))
      (pss_cons (ps_par3 (i := 8) (j := 9) (l := 10) (by rfl) sc__law_four.nd rfl rfl rfl (by decide) (by decide) (by decide) rfl rfl rfl (pa_cons (pe_op op_add pe_int (pe_op op_mod (pv 5) pe_int)) (pa_cons (pe_op op_mod (pe_op op_fdivW (pv 5) pe_int) pe_int) (pa_cons (pe_op op_add pe_int (pe_op op_mod (pe_op op_fdivW (pv 5) pe_int) pe_int)) pa_nil))) (by rfl))
      (pss_cons (ps_set (i := 11) sc__law_four.nd rfl (Or.inl rfl) (pe_op op_mod (pe_op op_add (pv 4) (pe_op op_fdivW (pv 5) pe_int)) pe_int))
      (pss_cons (ps_par (i := 12) (j := 13) (by rfl) sc__law_four.nd rfl rfl (by decide) rfl rfl (pa_cons (pe_op op_mulX (pv 6) (pv 8)) (pa_cons (pe_op op_mulX (pv 7) (pv 10)) pa_nil)) (by rfl))
      (Evl.pss_cut (ps_if (pt_cmpR (r := rIn K false) op_in_seq (pv 11) (pe_lst (pa_cons pe_int (pa_cons pe_int (pa_cons pe_int pa_nil)))) (by rfl)) (pss_cons (ps_set (i := 12) sc__law_four.nd rfl (Or.inl rfl) (pe_op op_mulX (pe_op op_mulX (pv 6) (pv 7)) (pv 10)))
      (pss_one (ps_set (i := 13) sc__law_four.nd rfl (Or.inl rfl) (pe_op op_add (pe_op op_mulX (pv 6) (pv 8)) (pe_op op_mulX (pv 7) (pv 9)))))) pss_nil)
      (Evl.pss_cut (ps_if (pt_cmpR op_eq (pv 11) pe_int (nomark _)) (pss_one (ps_set (i := 13) sc__law_four.nd rfl (Or.inl rfl) (pe_op op_sub (pe_op op_add (pv 13) pe_int) (pe_op op_mod (pe_op op_fdivW (pv 5) pe_int) pe_int)))) pss_nil)
      (Evl.pss_cut (ps_if (pt_cmpR op_eq (pv 11) pe_int (nomark _)) (pss_one (ps_par (i := 12) (j := 13) (by rfl) sc__law_four.nd rfl rfl (by decide) rfl rfl (pa_cons (pe_op op_add pe_int (pe_op op_mod (pe_op op_fdivW (pv 4) pe_int) (pe_op op_mulX pe_int (pv 2)))) (pa_cons (pe_op op_add pe_int (pe_op op_mod (pe_op op_fdivW (pv 5) pe_int) (pe_op op_mulX pe_int (pv 2)))) pa_nil)) (by rfl))) pss_nil)
      (Evl.pss_cut (ps_if (pt_cmpR op_eq (pv 11) pe_int (nomark _)) (pss_one (ps_par (i := 12) (j := 13) (by rfl) sc__law_four.nd rfl rfl (by decide) rfl rfl (pa_cons (pe_op op_mulX (pv 6) (pv 8)) (pa_cons (pe_op op_add (pe_op op_mulX (pv 6) (pv 10)) (pv 9)) pa_nil)) (by rfl))) pss_nil)
      (Evl.pss_cut (ps_if (pt_cmpR op_eq (pe_op op_mod (pe_op op_add (pe_op op_fdivW (pv 4) pe_int) (pv 1)) pe_int) pe_int (nomark _)) (pss_one (ps_par (i := 12) (j := 13) (by rfl) sc__law_four.nd rfl rfl (by decide) rfl rfl (pa_cons (pv 13) (pa_cons (pv 12) pa_nil)) (by rfl))) pss_nil)
      (pss_one (ps_ret (pe_tup (pa_cons (pe_callB (call_max2 rfl) (by rfl) B.max (by decide +kernel) (pa_cons pe_int (pa_cons (pv 12) pa_nil))) (pa_cons (pe_callB (call_max2 rfl) (by rfl) B.max (by decide +kernel) (pa_cons pe_int (pa_cons (pv 13) pa_nil))) (pa_cons (pv 6) (pa_cons (pv 7) pa_nil))))))))))))))))))), ?_⟩
    have bmo : Bn 200 most := bn_of_lt (by omega) (by omega)
    obtain ⟨ms, ems⟩ := cut_ints ns none (some 63)
    refine ⟨_, rfl, 63, rfl, a, _, rfl, hS, fun p1 hp1 => ⟨p1, ms, rfl, sqL (by rw [← ems]; exact upd_same), ?_⟩⟩
    have sm1 : Same H (upd H p1 (.lst (cutV (ns.map V.int) none (some 63)))) := same_upd hp1
    generalize upd H p1 (.lst (cutV (ns.map V.int) none (some 63))) = H1 at sm1 ⊢
    generalize hwh : ms.sum = wh
    obtain ⟨c1, hc1, ec1⟩ := at_cell (ns := ns) (k := at_) (by omega) (by omega)
    refine ⟨_, rfl, _, rfl, a, _, _, _, rfl, rfl, sm1.seq hS, ec1, _, rfl, _, rfl, .mk (bn_bits (hbits _ hc1)) (bnl (n := 10) (by omega)) fun num => ?_⟩
    obtain ⟨c2, hc2, ec2⟩ := at_cell (ns := ns) (k := at_ - 1) (by omega) (by omega)
    refine ⟨_, rfl, _, rfl, _, _, rfl, rfl, a, _, _, _, rfl, rfl, sm1.seq hS, ec2, _, rfl, _, _, rfl, rfl, _, rfl, .mk (bn_bits (hbits _ hc2)) (bnl (n := 10) (by omega)) fun oth => ?_⟩
    have n1 : 0 ≤ num / 7 % most ∧ num / 7 % most < most := ⟨Int.emod_nonneg _ (by omega), Int.emod_lt_of_pos _ m1⟩
    have n2 : 0 ≤ num / 7 / most % most ∧ num / 7 / most % most < most := ⟨Int.emod_nonneg _ (by omega), Int.emod_lt_of_pos _ m1⟩
    walk_at "rd"
    refine enter (FourI (10 ^ 50) a at_ most wh num oth H) ?_ ?_
    · refine .mk sm1 ⟨by omega, by omega⟩ ⟨by omega, by omega⟩ ⟨by omega, by omega⟩ ⟨by omega, by omega⟩ ⟨by omega, by omega⟩ ?_ ?_
      · have := mul_in (A := 10 ^ 20) (B := 5) (x := 1 + num / 7 % most) (y := 1 + oth % 5) (by omega) (by omega) (by omega) (by omega)
        exact ⟨by omega, by omega⟩
      · have := mul_in (A := 10 ^ 20) (B := 3) (x := 1 + num / 7 / most % most) (y := 1 + oth / 20 % 3) (by omega) (by omega) (by omega) (by omega)
        exact ⟨by omega, by omega⟩
    rintro _ _ @⟨H2, f, s, fe, mo, le, ki, L, W, sm2, hf, hs, hfe, hmo, hle, hL, hW⟩
    have bf : Bn 200 f := bn_of_lt (by omega) (by omega)
    have bs : Bn 200 s := bn_of_lt (by omega) (by omega)
    have bfe : Bn 200 fe := bn_of_lt (by omega) (by omega)
    have bmo' : Bn 200 mo := bn_of_lt (by omega) (by omega)
    have ble : Bn 200 le := bn_of_lt (by omega) (by omega)
    -- sides that go in, sums
    refine ⟨FourI (10 ^ 50) a at_ most wh num oth H, ?_, ?_⟩
    · walk_at "rd"
      refine fun pl hpl => ⟨pl, _, rfl, .inl (sqL upd_same), rfl, rfl, _, rfl, iteB (fun c => ?_) (fun c => ?_)⟩
      · walk_at "rd"
        have k1 := mul_in (A := 10 ^ 20) (B := 10 ^ 20) (x := f) (y := s) (by omega) (by omega) (by omega) (by omega)
        have k2 := mul_in (A := 10 ^ 40) (B := 3) (x := f * s) (y := le) (by omega) (by omega) (by omega) (by omega)
        have k3 := mul_in (A := 10 ^ 20) (B := 5) (x := f) (y := fe) (by omega) (by omega) (by omega) (by omega)
        have k4 := mul_in (A := 10 ^ 20) (B := 3) (x := s) (y := mo) (by omega) (by omega) (by omega) (by omega)
        exact .mk (sm2.trans (same_upd hpl)) hf hs hfe hmo hle ⟨by omega, by omega⟩ ⟨by omega, by omega⟩
      · exact .mk (sm2.trans (same_upd hpl)) hf hs hfe hmo hle hL hW
    · clear sm2 hf hs hfe hmo hle hL hW bf bs bfe bmo' ble
      rintro _ _ @⟨H2, f, s, fe, mo, le, ki, L, W, sm2, hf, hs, hfe, hmo, hle, hL, hW⟩
      refine ⟨FourI (10 ^ 51) a at_ most wh num oth H, ?_, ?_⟩
      · walk_at "rd"
        refine iteEq (fun c => ?_) (fun c => ?_)
        · walk_at "rd"
          exact .mk sm2 hf hs hfe hmo hle hL.wide ⟨by have := hW.lo; omega, by have := hW.hi; omega⟩
        · exact .mk sm2 hf hs hfe hmo hle hL.wide hW.wide
      · clear sm2 hf hs hfe hmo hle hL hW
        rintro _ _ @⟨H2, f, s, fe, mo, le, ki, L, W, sm2, hf, hs, hfe, hmo, hle, hL, hW⟩
        refine ⟨FourI (10 ^ 51) a at_ most wh num oth H, ?_, ?_⟩
        · walk_at "rd"
          refine iteEq (fun c => ?_) (fun c => ?_)
          · have q1 : 0 ≤ num / 11 % (3 * most) ∧ num / 11 % (3 * most) < 3 * most := ⟨Int.emod_nonneg _ (by omega), Int.emod_lt_of_pos _ (by omega)⟩
            have q2 : 0 ≤ oth / 3 % (3 * most) ∧ oth / 3 % (3 * most) < 3 * most := ⟨Int.emod_nonneg _ (by omega), Int.emod_lt_of_pos _ (by omega)⟩
            walk_at "rd"
            exact .mk sm2 hf hs hfe hmo hle ⟨by omega, by omega⟩ ⟨by omega, by omega⟩
          · exact .mk sm2 hf hs hfe hmo hle hL hW
        · clear sm2 hf hs hfe hmo hle hL hW
          rintro _ _ @⟨H2, f, s, fe, mo, le, ki, L, W, sm2, hf, hs, hfe, hmo, hle, hL, hW⟩
          have bf : Bn 200 f := bn_of_lt (by omega) (by omega)
          have bfe : Bn 200 fe := bn_of_lt (by omega) (by omega)
          have ble : Bn 200 le := bn_of_lt (by omega) (by omega)
          refine ⟨FourI (10 ^ 51) a at_ most wh num oth H, ?_, ?_⟩
          · walk_at "rd"
            refine iteEq (fun c => ?_) (fun c => ?_)
            · have k3 := mul_in (A := 10 ^ 20) (B := 5) (x := f) (y := fe) (by omega) (by omega) (by omega) (by omega)
              have k4 := mul_in (A := 10 ^ 20) (B := 3) (x := f) (y := le) (by omega) (by omega) (by omega) (by omega)
              walk_at "rd"
              exact .mk sm2 hf hs hfe hmo hle ⟨by omega, by omega⟩ ⟨by omega, by omega⟩
            · exact .mk sm2 hf hs hfe hmo hle hL hW
          · clear sm2 hf hs hfe hmo hle hL hW bf bfe ble
            rintro _ _ @⟨H2, f, s, fe, mo, le, ki, L, W, sm2, hf, hs, hfe, hmo, hle, hL, hW⟩
            refine ⟨FourI (10 ^ 51) a at_ most wh num oth H, ?_, ?_⟩
            · walk_at "rd"
              refine iteEq (fun c => ?_) (fun c => ?_)
              · walk_at "rd"
                exact .mk sm2 hf hs hfe hmo hle hW hL
              · exact .mk sm2 hf hs hfe hmo hle hL hW
            · clear sm2 hf hs hfe hmo hle hL hW
              rintro _ _ @⟨H2, f, s, fe, mo, le, ki, L, W, sm2, hf, hs, hfe, hmo, hle, hL, hW⟩
              walk_at "rd"
              have mx : ∀ x : Int, Md (10 ^ 51) x → Sd (if x > 1 then x else 1) := fun x hx => by
                have := hx.hi
                split
                · exact ⟨by omega, by omega⟩
                · exact ⟨by omega, by omega⟩
              exact fun p hp => q _ _ _ _ p _ (mx L hL) (mx W hW) ⟨by omega, by omega⟩ ⟨by omega, by omega⟩ (sm2.trans (same_upd hp)) upd_same
end
end BF

/-! ### the laws' own reckoning of bricks -/
namespace BF
open PySem PySem.Spec PyProof.Rows L2
inductive SpSides : Sp where
  | mk {f s : Int} {b : Bool} {H : Hp} {Q : VK} {E : XK} (q : ∀ p H', Same H H' → H' p = some (.tup [.int (if b then f else s), .int (if b then s else f)]) → Q (.ref p) H') : SpSides [.int f, .int s, .bl b] H Q E
inductive SpLOut (K : PySem.W.Frag) : Sp where
  | mk {fl o : Addr} {b : Brick} {L W f s : Int} {H : Hp} {Q : VK} {E : XK} (hfl : SqT K H fl [.int L, .int W]) (ho : SqT K H o b.vs) (q : ∀ H', Same H H' → Q (.bl (beyB L W f s b)) H') : SpLOut K [.ref fl, .int f, .int s, .ref o] H Q E
inductive SpLFull (K : PySem.W.Frag) : Sp where
  | mk {fl l : Addr} {ps : List (Addr × Brick)} {L W f s : Int} {H : Hp} {Q : VK} {E : XK} (hfl : SqT K H fl [.int L, .int W]) (hL : 0 < L ∧ L ≤ 1000) (hW : 0 < W ∧ W ≤ 1000) (hl : SqL K H l (refs ps)) (hb : BrAll K H ps) (hn : ps.length ≤ 10000) (q : ∀ H', Same H H' → Q (.bl (fullB L W f s (vals ps))) H') :
    SpLFull K [.ref fl, .int f, .int s, .ref l] H Q E
inductive OverI (f s : Int) (l t : Addr) (ps : List (Addr × Brick)) (c : Int × Int) (H : Hp) (i : Nat) : L2.St → Hp → Prop where
  | mk {H' : Hp} {y5 y6 y7 y8 y9 : Option V} (sm : Same H H') : OverI f s l t ps c H i [some (.int f), some (.int s), some (.ref l), some (.ref t), some (.int (oftN f s ((vals ps).take i) c : Nat)), y5, y6, y7, y8, y9] H'
theorem oft_take {f s : Int} {ps : List (Addr × Brick)} {i : Nat} {pb : Addr × Brick} (c : Int × Int) (hpb : ps[i]? = some pb) : oftN f s ((vals ps).take (i + 1)) c = oftN f s ((vals ps).take i) c + if covB f s c pb.2 then 1 else 0 := by
  have et : (vals ps).take (i + 1) = (vals ps).take i ++ [pb.2] := by
    unfold vals
    rw [List.take_add_one, List.getElem?_map, hpb]
    rfl
  rw [et]
  unfold oftN
  rw [List.filter_append, List.length_append, List.filter_cons]
  split <;> rfl
theorem grid_all {L W : Int} (hL : 0 ≤ L) (hW : 0 ≤ W) (g : Int × Int → Bool) : (gridL L W).all g = (List.range L.toNat).all fun i : Nat => (List.range W.toNat).all fun j : Nat => g ((i : Int), (j : Int)) := by
  unfold gridL colsL colL
  rw [List.all_flatMap]
  congr 1
  funext i
  rw [List.all_map]
  congr 1
  funext j
  show g (0 + (i : Int), 0 + (j : Int)) = g ((i : Int), (j : Int))
  rw [Int.zero_add, Int.zero_add]
section
variable {P : Program} {w : World} {K : PySem.W.Frag} {mg : Str → Option Value} {base : Heap}
theorem H__law_sides (p : Pl K mg "_law_sides" s__law_sides) : Has P w K mg base CX0 1 "_law_sides" ["_law_first", "_law_second", "_law_lies"] SpSides := by
  refine p.mk0 sc__law_sides (fun _ _ _ _ _ _ us hl => match us, hl with | [_, _, _], _ => rfl) (fun vs H Q E h => ?_) (fun f cdv A outer s H vs Q E hr h => ?_)
  · cases h; rfl
  · obtain @⟨fi, se, b, _, _, _, q⟩ := h
    refine ⟨_, (pss_one (ps_ret (pe_ifExp (pt_val (pv 2)) (pe_tup (pa_cons (pv 0) (pa_cons (pv 1) pa_nil))) (pe_tup (pa_cons (pv 1) (pa_cons (pv 0) pa_nil)))))), ?_⟩
    cases b
    all_goals
      refine ⟨_, rfl, _, rfl, ?_⟩
      first | refine iteF ?_ | refine iteT ?_
      walk_at "rd"
      exact fun p hp => q p _ (same_upd hp) upd_same
theorem H__law_over (p : Pl K mg "_law_over" s__law_over) (h__law_sides : Has P w K mg base CX0 1 "_law_sides" ["_law_first", "_law_second", "_law_lies"] SpSides) : Has P w K mg base CX0 2 "_law_over" ["_law_first", "_law_second", "_law_bricks_here", "_law_cell"] (SpOften K) := by
  refine p.mk0 sc__law_over (fun _ _ _ _ _ _ us hl => match us, hl with | [_, _, _, _], _ => rfl) (fun vs H Q E h => ?_) (fun f cdv A outer s H vs Q E hr h => ?_)
  · cases h; rfl
  · obtain @⟨l, t, ps, ⟨c1, c2⟩, fi, se, _, _, _, hl, hb, hn, ht, q⟩ := h
    refine ⟨_, (pss_cons (ps_set (i := 4) sc__law_over.nd rfl (Or.inl rfl) pe_int)
      (pss_cons (ps_for PassesOwn.never (by rfl) (pi_list (pv 2)) (pg_tup (by rfl) (pgs_cons (pg_name (i := 5) sc__law_over.nd rfl (Or.inl rfl)) (pgs_cons (pg_name (i := 6) sc__law_over.nd rfl (Or.inl rfl)) (pgs_cons (pg_name (i := 7) sc__law_over.nd rfl (Or.inl rfl)) pgs_nil)))) (pss_cons (ps_asg (pe_fn h__law_sides (hr.mono (by decide)) pass0 (pa_cons (pv 0) (pa_cons (pv 1) (pa_cons (pv 7) pa_nil)))) (pg_tup (by rfl) (pgs_cons (pg_name (i := 8) sc__law_over.nd rfl (Or.inl rfl)) (pgs_cons (pg_name (i := 9) sc__law_over.nd rfl (Or.inl rfl)) pgs_nil))))
      (pss_one (ps_if (PW.pt (pw_and (pt_chain op_le op_lt (pv 5) (pe_ix (r := rIxT K) ix_tup (pv 3) pe_int (fun _ _ => rfl)) (pe_op op_add (pv 5) (pv 8))) (pw_and1 (pt_chain op_le op_lt (pv 6) (pe_ix (r := rIxT K) ix_tup (pv 3) pe_int (fun _ _ => rfl)) (pe_op op_add (pv 6) (pv 9)))))) (pss_one (ps_set (i := 4) sc__law_over.nd rfl (Or.inl rfl) (pe_op op_add (pv 4) pe_int))) pss_nil))))
      (pss_one (ps_ret (pv 4))))), ?_⟩
    refine ⟨_, rfl, l, rfl, ⟨_, hl⟩, for_list (K := K) (a := l) (xs := refs ps) (fun i σ H' => OverI fi se l t ps (c1, c2) H i σ H') (.mk (Same.refl _)) ?_ ?_ ?_⟩
    · rintro _ _ _ _ ⟨sm⟩
      exact sm.seq hl
    · rintro i v _ H1 hi @⟨_, _, _, _, _, _, sm1⟩
      obtain ⟨⟨o, ⟨x, y, lb⟩⟩, hpb, rfl, hm⟩ := refs_at hi
      have eo := oft_take (f := fi) (s := se) (c1, c2) hpb
      have ho := Same.tup sm1 (hb _ hm)
      have ht1 := Same.tup sm1 ht
      refine ⟨o, _, rfl, ho, rfl, ?_⟩
      walk_at "rd"
      refine .mk fun p2 H2 sm2 hp2 => ⟨p2, _, rfl, sqT hp2, rfl, ?_⟩
      have ht2 := Same.tup sm2 ht1
      unfold covB Brick.lo Brick.hi at eo
      generalize hlo : (if lb = true then fi else se) = lo at eo
      generalize hhi : (if lb = true then se else fi) = hi2 at eo
      dsimp only at eo
      walk_at "rd"
      refine ⟨t, _, 0, _, rfl, rfl, ht2, rfl, ?_⟩
      walk_at "rd"
      have fin : ∀ b : Bool, (decide (x ≤ c1) && decide (c1 < x + lo) && (decide (y ≤ c2) && decide (c2 < y + hi2))) = b → oftN fi se ((vals ps).take (i + 1)) (c1, c2) = oftN fi se ((vals ps).take i) (c1, c2) + if b = true then 1 else 0 := fun b hbb => by rw [eo, hbb]
      have no : (decide (x ≤ c1) && decide (c1 < x + lo) && (decide (y ≤ c2) && decide (c2 < y + hi2))) = false → OverI fi se l t ps (c1, c2) H (i + 1) [some (.int fi), some (.int se), some (.ref l), some (.ref t), some (.int (oftN fi se ((vals ps).take i) (c1, c2) : Nat)), some (.int x), some (.int y), some (.bl lb), some (.int lo), some (.int hi2)] H2 := fun z => by
        have e := fin false z
        rw [show oftN fi se ((vals ps).take i) (c1, c2) = oftN fi se ((vals ps).take (i + 1)) (c1, c2) by rw [e]; rfl]
        exact .mk (sm1.trans sm2)
      refine iteD (fun d1 => ?_) (fun d1 => ?_)
      · walk_at "rd"
        refine iteD (fun d2 => ?_) (fun d2 => ?_)
        · refine ⟨_, rfl, _, rfl, t, _, 1, _, rfl, rfl, ht2, rfl, ?_⟩
          walk_at "rd"
          refine iteD (fun d3 => ?_) (fun d3 => ?_)
          · walk_at "rd"
            refine iteD (fun d4 => ?_) (fun d4 => ?_)
            · have e := fin true (by rw [decide_eq_true d1, decide_eq_true d2, decide_eq_true d3, decide_eq_true d4]; rfl)
              walk_at "rd"
              have e2 : ((oftN fi se ((vals ps).take i) (c1, c2) : Nat) : Int) + 1 = ((oftN fi se ((vals ps).take (i + 1)) (c1, c2) : Nat) : Int) := by
                rw [e, if_pos rfl]
                omega
              show OverI fi se l t ps (c1, c2) H (i + 1) [some (.int fi), some (.int se), some (.ref l), some (.ref t), some (.int (((oftN fi se ((vals ps).take i) (c1, c2) : Nat) : Int) + 1)), some (.int x), some (.int y), some (.bl lb), some (.int lo), some (.int hi2)] H2
              rw [e2]
              exact .mk (sm1.trans sm2)
            · refine no ?_
              rw [decide_eq_false d4, Bool.and_false, Bool.and_false]
          · refine ⟨_, rfl, no ?_⟩
            rw [decide_eq_false d3, Bool.false_and, Bool.and_false]
        · refine no ?_
          rw [decide_eq_false d2, Bool.and_false, Bool.false_and]
      · refine ⟨_, rfl, iteF (no ?_)⟩
        rw [decide_eq_false d1]
        rfl
    · rintro _ H1 @⟨_, _, _, _, _, _, sm1⟩
      refine ⟨_, rfl, ?_⟩
      rw [refs_len, ← vals_len ps, List.take_length]
      exact q _ sm1
theorem min_neg (x y : Int) : decide ((if y < x then y else x) < 0) = (decide (x < 0) || decide (y < 0)) := by
  by_cases h : y < x
  · rw [if_pos h]
    by_cases hy : y < 0
    · rw [decide_eq_true hy, Bool.or_true]
    · rw [decide_eq_false hy, decide_eq_false (show ¬ x < 0 by omega)]
      rfl
  · rw [if_neg h]
    by_cases hx : x < 0
    · rw [decide_eq_true hx, Bool.true_or]
    · rw [decide_eq_false hx, decide_eq_false (show ¬ y < 0 by omega)]
      rfl
theorem H__law_out (p : Pl K mg "_law_out" s__law_out) (B : Bi mg) (h__law_sides : Has P w K mg base CX0 1 "_law_sides" ["_law_first", "_law_second", "_law_lies"] SpSides) : Has P w K mg base CX0 2 "_law_out" ["_law_floor", "_law_first", "_law_second", "_law_brick"] (SpLOut K) := by
  refine p.mk0 sc__law_out (fun _ _ _ _ _ _ us hl => match us, hl with | [_, _, _, _], _ => rfl) (fun vs H Q E h => ?_) (fun f cdv A outer s H vs Q E hr h => ?_)
  · cases h; rfl
  · obtain @⟨fl, o, ⟨x, y, lb⟩, L, W, fi, se, _, _, _, hfl, ho, q⟩ := h
    refine ⟨_, (pss_cons (ps_asg (pe_fn h__law_sides (hr.mono (by decide)) pass0 (pa_cons (pv 1) (pa_cons (pv 2) (pa_cons (pe_ix (r := rIxT K) ix_tup (pv 3) pe_int (fun _ _ => rfl)) pa_nil)))) (pg_tup (by rfl) (pgs_cons (pg_name (i := 4) sc__law_out.nd rfl (Or.inl rfl)) (pgs_cons (pg_name (i := 5) sc__law_out.nd rfl (Or.inl rfl)) pgs_nil))))
      (pss_one (ps_ret (pe_or (pe_cmpR op_lt (pe_callB (call_min2 rfl) (by rfl) B.min (by decide +kernel) (pa_cons (pe_ix (r := rIxT K) ix_tup (pv 3) pe_int (fun _ _ => rfl)) (pa_cons (pe_ix (r := rIxT K) ix_tup (pv 3) pe_int (fun _ _ => rfl)) pa_nil))) pe_int (nomark _)) (pe_or (pe_cmpR op_gt (pe_op op_add (pe_ix (r := rIxT K) ix_tup (pv 3) pe_int (fun _ _ => rfl)) (pv 4)) (pe_ix (r := rIxT K) ix_tup (pv 0) pe_int (fun _ _ => rfl)) (nomark _)) (pe_one (pe_cmpR op_gt (pe_op op_add (pe_ix (r := rIxT K) ix_tup (pv 3) pe_int (fun _ _ => rfl)) (pv 5)) (pe_ix (r := rIxT K) ix_tup (pv 0) pe_int (fun _ _ => rfl)) (nomark _)))))))), ?_⟩
    refine ⟨_, rfl, _, rfl, _, rfl, o, _, 2, _, rfl, rfl, ho, rfl, .mk fun p1 H1 sm1 hp1 => ⟨p1, _, rfl, sqT hp1, rfl, ?_⟩⟩
    unfold beyB Brick.lo Brick.hi at q
    generalize hlo : (if lb = true then fi else se) = lo at q
    generalize hhi : (if lb = true then se else fi) = hi2 at q
    dsimp only at q
    have ho1 := Same.tup sm1 ho
    have hfl1 := Same.tup sm1 hfl
    walk_at "rd"
    refine ⟨o, _, 0, _, rfl, rfl, ho1, rfl, _, rfl, o, _, 1, _, rfl, rfl, ho1, rfl, ?_⟩
    walk_at "rd"
    have mn := min_neg x y
    refine iteD (fun c => ?_) (fun c => ?_)
    · rw [decide_eq_true c] at mn
      have e : (decide (x < 0) || (decide (y < 0) || (decide (L < x + lo) || decide (W < y + hi2)))) = true := by rw [← Bool.or_assoc, ← mn]; rfl
      rw [e] at q
      exact q _ sm1
    rw [decide_eq_false c] at mn
    have e : (decide (x < 0) || (decide (y < 0) || (decide (L < x + lo) || decide (W < y + hi2)))) = (decide (L < x + lo) || decide (W < y + hi2)) := by rw [← Bool.or_assoc, ← mn]; rfl
    rw [e] at q
    refine ⟨_, rfl, o, _, 0, _, rfl, rfl, ho1, rfl, _, rfl, _, _, rfl, rfl, _, rfl, fl, _, 0, _, rfl, rfl, hfl1, rfl, ?_⟩
    walk_at "rd"
    have elo : (if lb = true then fi else se) = lo := hlo
    have ehi : (if lb = true then se else fi) = hi2 := hhi
    refine iteD (fun c => ?_) (fun c => ?_)
    · have c : L < x + lo := c
      rw [decide_eq_true c] at q
      exact q _ sm1
    have c : ¬ L < x + lo := c
    rw [decide_eq_false c, Bool.false_or] at q
    refine ⟨_, rfl, o, _, 1, _, rfl, rfl, ho1, rfl, _, rfl, _, _, rfl, rfl, _, rfl, fl, _, 1, _, rfl, rfl, hfl1, rfl, ?_⟩
    walk_at "rd"
    exact q _ sm1
inductive FullI (fl l : Addr) (fi se L W : Int) (bs : List Brick) (H : Hp) (i : Nat) : L2.St → Hp → Prop where
  | mk {H' : Hp} {y4 y5 y6 : Option V} (sm : Same H H') (hall : ((List.range i).all fun i : Nat => (List.range W.toNat).all fun j : Nat => decide (oftN fi se bs ((i : Int), (j : Int)) = 1)) = true) : FullI fl l fi se L W bs H i [some (.ref fl), some (.int fi), some (.int se), some (.ref l), y4, y5, y6] H'
theorem H__law_full (p : Pl K mg "_law_full" s__law_full) (B : Bi mg) (h__law_out : Has P w K mg base CX0 2 "_law_out" ["_law_floor", "_law_first", "_law_second", "_law_brick"] (SpLOut K)) (h__law_over : Has P w K mg base CX0 2 "_law_over" ["_law_first", "_law_second", "_law_bricks_here", "_law_cell"] (SpOften K)) :
    Has P w K mg base CX0 3 "_law_full" ["_law_floor", "_law_first", "_law_second", "_law_bricks_here"] (SpLFull K) := by
  refine p.mk0 sc__law_full (fun _ _ _ _ _ _ us hl => match us, hl with | [_, _, _, _], _ => rfl) (fun vs H Q E h => ?_) (fun f cdv A outer s H vs Q E hr h => ?_)
  · cases h; rfl
  · obtain @⟨fl, l, ps, L, W, fi, se, _, _, _, hfl, hL, hW, hl, hb, hn, q⟩ := h
    refine ⟨_, (pss_cons (ps_if (pt_val (pe_callB (cr_any rfl) (by rfl) B.any (by decide +kernel) (pa_cons (pe_lc (own := [("_law_brick", 5)]) (by rfl) sc__law_full.nd (pi_list (pv 3)) (blkOk_by (own := [("_law_brick", 5)]) (N := ["_law_floor", "_law_first", "_law_second", "_law_bricks_here", "_law_along", "_law_brick", "_law_up"]) (sc := defScope s__law_full) (by decide +kernel)) (fun _ _ _ _ _ => (pg_name (i := 5) sc__law_full.nd rfl (Or.inl rfl))) (fun _ _ _ _ _ => pts_nil) (fun _ _ _ _ _ => (pe_fn h__law_out (hr.mono (by decide)) pass0 (pa_cons (pv 0) (pa_cons (pv 1) (pa_cons (pv 2) (pa_cons (pv 5) pa_nil))))))) pa_nil))) (pss_one (ps_ret pe_bl)) pss_nil)
      (pss_cons (ps_for PassesOwn.never (by rfl) (pi_range1 (by rfl) B.range (pa_cons (pe_ix (r := rIxT K) ix_tup (pv 0) pe_int (fun _ _ => rfl)) pa_nil)) (pg_name (i := 4) sc__law_full.nd rfl (Or.inr rfl)) (pss_one (ps_if (pt_not (pt_val (pe_callB (cr_all rfl) (by rfl) B.all (by decide +kernel) (pa_cons (pe_lc (own := [("_law_up", 6)]) (by rfl) sc__law_full.nd (pi_range1 (by rfl) B.range (pa_cons (pe_ix (r := rIxT K) ix_tup (pv 0) pe_int (fun _ _ => rfl)) pa_nil)) (blkOk_by (own := [("_law_up", 6)]) (N := ["_law_floor", "_law_first", "_law_second", "_law_bricks_here", "_law_along", "_law_brick", "_law_up"]) (sc := defScope s__law_full) (by decide +kernel)) (fun _ _ _ _ _ => (pg_name (i := 6) sc__law_full.nd rfl (Or.inl rfl))) (fun _ _ _ _ _ => pts_nil) (fun _ _ _ _ _ => (pe_cmpR op_eq (pe_fn h__law_over (hr.mono (by decide)) pass0 (pa_cons (pv 1) (pa_cons (pv 2) (pa_cons (pv 3) (pa_cons (pe_tup (pa_cons (pv 4) (pa_cons (pv 6) pa_nil))) pa_nil))))) pe_int (nomark _)))) pa_nil)))) (pss_one (ps_ret pe_bl)) pss_nil)))
      (pss_one (ps_ret pe_bl)))), ?_⟩
    refine ⟨_, rfl, l, rfl, ⟨_, hl⟩, fun D hD => ?_⟩
    refine lc_list (K := K) (a := l) (xs := refs ps) (fun i H' => Same H H' ∧ H' D = some (.lst ((((vals ps).take i).map (beyB L W fi se)).map V.bl))) ⟨same_upd hD, upd_same⟩ (fun i H' _ ⟨sm, _⟩ => sm.seq hl) ?_ ?_
    · rintro i v H' hi ⟨sm, eD⟩
      obtain ⟨pb, hpb, rfl, hm⟩ := refs_at hi
      have hlt : i < ps.length := (List.getElem?_eq_some_iff.mp hpb).1
      have et : (vals ps).take (i + 1) = (vals ps).take i ++ [pb.2] := by
        unfold vals
        rw [List.take_add_one, List.getElem?_map, hpb]
        rfl
      refine ⟨rfl, lc_yes ?_⟩
      walk_at "rd"
      refine .mk (Same.tup sm hfl) (Same.tup sm (hb pb hm)) fun H2 sm2 => ⟨_, sm2 _ _ eD, ?_, ?_, ?_⟩
      · rw [List.length_map, List.length_map, List.length_take, vals_len]
        exact Nat.lt_of_le_of_lt (Nat.min_le_right _ _) (Nat.lt_of_le_of_lt hn (by decide))
      · exact fun b1 o e => by rw [upd_ne (ne_of_none e hD)]; exact sm2 _ _ (sm b1 o e)
      · rw [upd_same, et, List.map_append, List.map_append]
        rfl
    · rintro H1 ⟨sm1, eD⟩
      rw [refs_len, ← vals_len ps, List.take_length] at eD
      refine ⟨D, _, rfl, sqL eD, ?_⟩
      have ea : ((vals ps).map (beyB L W fi se)).any id = (vals ps).any (beyB L W fi se) := by
        rw [List.any_map]
        rfl
      rw [ea]
      unfold fullB at q
      refine ⟨_, rfl, iteB (fun c => ?_) (fun c => ?_)⟩
      · rw [c] at q
        exact q _ sm1
      rw [c, grid_all (by omega) (by omega)] at q
      have hfl1 := Same.tup sm1 hfl
      refine ⟨_, rfl, fl, _, 0, _, rfl, rfl, hfl1, rfl, _, rfl, by omega, by omega, for_range (lo := 0) (n := L.toNat) (fun i σ H' => FullI fl l fi se L W (vals ps) H1 i σ H') (.mk (Same.refl _) rfl) ?_ ?_⟩
      · rintro i _ H2 hi @⟨_, _, _, _, sm2, ha⟩
        have e0 : (0 : Int) + (i : Int) = i := by omega
        have hfl2 := Same.tup sm2 hfl1
        have hl2 := sm2.seq (sm1.seq hl)
        have hb2 := hb.mono (sm1.trans sm2)
        refine ⟨_, rfl, fl, _, 1, _, rfl, rfl, hfl2, rfl, _, rfl, by omega, by omega, fun D2 hD2 => ?_⟩
        refine lc_range (lo := 0) (n := W.toNat) (fun j H' => Same H2 H' ∧ H' D2 = some (.lst (((List.range j).map fun j : Nat => decide (oftN fi se (vals ps) ((i : Int), (j : Int)) = 1)).map V.bl))) ⟨same_upd hD2, upd_same⟩ ?_ ?_
        · rintro j H3 hj ⟨sm3, eD2⟩
          have e1 : (0 : Int) + (j : Int) = j := by omega
          refine ⟨rfl, lc_yes ?_⟩
          walk_at "rd"
          intro t4 ht4
          have nDt : D2 ≠ t4 := ne_of_none eD2 ht4
          refine .mk (c := ((i : Int), (j : Int))) ((same_upd ht4).seq (sm3.seq hl2)) (hb2.mono (sm3.trans (same_upd ht4))) hn (sqT (by rw [upd_same, e0, e1]; rfl)) fun H4 sm4 => ⟨rfl, _, sm4 _ _ (same_upd ht4 _ _ eD2), ?_, ?_, ?_⟩
          · rw [List.length_map, List.length_map, List.length_range]
            exact Nat.lt_of_lt_of_le hj (size4 (by omega))
          · exact fun b1 o e => by rw [upd_ne (ne_of_none e hD2)]; exact sm4 _ _ (same_upd ht4 _ _ (sm3 b1 o e))
          · have ed : decide (V.int (oftN fi se (vals ps) ((i : Int), (j : Int)) : Nat) = V.int 1) = decide (oftN fi se (vals ps) ((i : Int), (j : Int)) = 1) := decide_eq_decide.mpr ⟨fun z => by have := V.int.inj z; omega, fun z => by rw [z]; rfl⟩
            rw [upd_same, List.range_succ, List.map_append, List.map_append, ed]
            rfl
        · rintro H3 ⟨sm3, eD2⟩
          refine ⟨D2, _, rfl, sqL eD2, ?_⟩
          have er : ((List.range W.toNat).map fun j : Nat => decide (oftN fi se (vals ps) ((i : Int), (j : Int)) = 1)).all id = (List.range W.toNat).all fun j : Nat => decide (oftN fi se (vals ps) ((i : Int), (j : Int)) = 1) := by
            rw [List.all_map]
            rfl
          rw [er]
          cases hc : ((List.range W.toNat).all fun j : Nat => decide (oftN fi se (vals ps) ((i : Int), (j : Int)) = 1)) with
          | true =>
            refine ⟨_, rfl, iteF (.mk (sm2.trans sm3) ?_)⟩
            rw [List.range_succ, List.all_append, ha]
            show (true && (((List.range W.toNat).all fun j : Nat => decide (oftN fi se (vals ps) ((i : Int), (j : Int)) = 1)) && true)) = true
            rw [hc]
            rfl
          | false =>
            refine ⟨_, rfl, iteT ?_⟩
            have no : ((List.range L.toNat).all fun i : Nat => (List.range W.toNat).all fun j : Nat => decide (oftN fi se (vals ps) ((i : Int), (j : Int)) = 1)) = false := by
              apply Bool.eq_false_iff.mpr
              intro z
              have := List.all_eq_true.mp z i (List.mem_range.mpr hi)
              rw [hc] at this
              cases this
            rw [no] at q
            exact q _ (sm1.trans (sm2.trans sm3))
      · rintro _ H2 @⟨_, _, _, _, sm2, ha⟩
        rw [ha] at q
        exact q _ (sm1.trans sm2)
end
end BF

/-! ### the law's own bricks: a list of some -/
namespace BF
open PySem PySem.Spec PyProof.Rows L2
/-- a loop over enumerate(list) -/
theorem for_enumL {K : PySem.W.Frag} {a : Addr} {xs : List V} {g : TG} {tb : TS} {D : Ends} {σ : L2.St} {H : Hp} (Pv : Nat → L2.St → Hp → Prop) (h0 : Pv 0 σ H) (hl : ∀ i σ H, i ≤ xs.length → Pv i σ H → SqL K H a xs)
    (hs : ∀ i x T σ H, xs[i]? = some x → Pv i σ H → H T = none → g (.ref T) σ (upd H T (.tup [.int (i : Nat), x])) fun σ2 H2 => tb { D with nx := Pv (i + 1), ct := Pv (i + 1), bk := D.nx } σ2 H2) (hd : ∀ σ H, Pv xs.length σ H → D.nx σ H) :
    ∃ W : Nat → Nat → L2.St → Hp → Prop, (∃ m, W 0 m σ H) ∧ ∀ i m σ H, W i m σ H →
      ((Ite K a).stop i H ∧ D.nx σ H) ∨ ((Ite K a).go i H ∧ ∃ N : L2.St → Hp → Prop, (∀ σ' H', N σ' H' → ∃ m', m' < m ∧ W (i + 1) m' σ' H') ∧ ∀ x H', (Ite K a).yld i H x H' → g x σ H' fun σ2 H2 => tb { D with nx := N, ct := N, bk := D.nx } σ2 H2) := by
  refine ⟨fun i m σ H => m = xs.length - i ∧ i ≤ xs.length ∧ Pv i σ H, ⟨_, rfl, Nat.zero_le _, h0⟩, ?_⟩
  rintro i m σ H ⟨rfl, hi, p⟩
  have sq := hl i σ H hi p
  by_cases c : i < xs.length
  · refine .inr ⟨⟨xs, xs[i], sq, by simp [c]⟩, Pv (i + 1), fun σ' H' p' => ⟨xs.length - (i + 1), by omega, rfl, c, p'⟩, fun x H' y => ?_⟩
    obtain ⟨T, z, rfl, hT, rfl, hx⟩ := y
    exact hs i z T σ H (hx xs sq) p hT
  · have e : i = xs.length := by omega
    subst e
    exact .inl ⟨⟨xs, sq, Nat.le_refl _⟩, hd σ H p⟩
theorem cut_ints2 (ns : List Int) (lo hi : Option Int) : ∃ ms : List Int, cutV (ns.map V.int) lo hi = ms.map V.int ∧ (∀ z ∈ ms, z ∈ ns) ∧ ms.length ≤ ns.length := by
  unfold cutV
  refine ⟨_, cut_map V.int ns _ _, fun z hz => List.mem_of_mem_drop (List.mem_of_mem_take hz), ?_⟩
  rw [List.length_take, List.length_drop]
  omega
def BrT (H : Hp) (ps : List (Addr × Brick)) : Prop := ∀ p ∈ ps, H p.1 = some (.tup p.2.vs)
theorem BrT.mono {H H' : Hp} {ps : List (Addr × Brick)} (h : BrT H ps) (sm : Same H H') : BrT H' ps := fun p hp => sm _ _ (h p hp)
theorem BrT.all {K : PySem.W.Frag} {H : Hp} {ps : List (Addr × Brick)} (h : BrT H ps) : BrAll K H ps := fun p hp => sqT (h p hp)
theorem BrT.app {H : Hp} {a b : List (Addr × Brick)} (h : BrT H a) (k : BrT H b) : BrT H (a ++ b) := fun p hp => by
  rcases List.mem_append.mp hp with z | z
  · exact h p z
  · exact k p z
theorem BrT.one {H : Hp} {p : Addr} {b : Brick} (h : H p = some (.tup b.vs)) : BrT H [(p, b)] := fun q hq => by
  obtain rfl := List.mem_singleton.mp hq
  exact h
theorem BrT.sub {H : Hp} {a b : List (Addr × Brick)} (h : BrT H a) (k : ∀ p ∈ b, p ∈ a) : BrT H b := fun p hp => h p (k p hp)
/-- a list is changed: bricks stay -/
theorem BrT.lst {H : Hp} {F : Addr} {xs : List V} {o : HO} {ps : List (Addr × Brick)} (h : BrT H ps) (e : H F = some (.lst xs)) : BrT (upd H F o) ps := fun p hp => by
  have z := h p hp
  rw [upd_ne (ne_of z e (by intro z; cases z))]
  exact z
/-- a list that H does not know is changed -/
theorem same_mut {H H' : Hp} {F : Addr} {o : HO} (sm : Same H H') (n : H F = none) : Same H (upd H' F o) := fun b u e => by
  rw [upd_ne (ne_of_none e n)]
  exact sm b u e
/-- a tuple where a list is changed -/
theorem keepT {H : Hp} {F t : Addr} {xs ys : List V} {o : HO} (h : H t = some (.tup xs)) (e : H F = some (.lst ys)) : (upd H F o) t = some (.tup xs) := by
  rw [upd_ne (ne_of h e (by intro z; cases z))]
  exact h
/-- one more brick in a comprehension's list -/
theorem lc_brick {H2 H3 : Hp} {D p4 : Addr} {ds : List (Addr × Brick)} {b : Brick} {j : Nat} (hD : H2 D = none) (sm3 : Same H2 H3) (eD : H3 D = some (.lst (refs ds))) (hds : BrT H3 ds) (hj : ds.length = j) (hp4 : H3 p4 = none) (hn : j < 1000) :
    ∃ acc, (upd H3 p4 (.tup b.vs)) D = some (.lst acc) ∧ acc.length < sizeLine ∧ Same H2 (upd (upd H3 p4 (.tup b.vs)) D (.lst (acc ++ [.ref p4]))) ∧ ∃ es, (upd (upd H3 p4 (.tup b.vs)) D (.lst (acc ++ [.ref p4]))) D = some (.lst (refs es)) ∧ BrT (upd (upd H3 p4 (.tup b.vs)) D (.lst (acc ++ [.ref p4]))) es ∧ es.length = j + 1 := by
  have e4 := same_upd (o := .tup b.vs) hp4 _ _ eD
  refine ⟨refs ds, e4, ?_, same_mut (sm3.trans (same_upd hp4)) hD, ds ++ [(p4, b)], ?_, ?_, ?_⟩
  · rw [refs_len, hj]
    exact Nat.lt_trans hn (by decide)
  · rw [upd_same, refs_app]
    rfl
  · exact ((hds.mono (same_upd hp4)).app (.one upd_same)).lst e4
  · rw [List.length_append, hj]
    rfl
/-- what _law_bricks hands back -/
inductive SpBricks (K : PySem.W.Frag) : Sp where
  | mk {a : Addr} {ns : List Int} {H : Hp} {Q : VK} {E : XK} (hb : ∀ z ∈ ns, Builtin.Int.intBits z ≤ 1048576) (hl : ns.length ≤ 63) (hS : SqL K H a (ns.map V.int))
      (q : ∀ p fl F L W f s ps H', Same H H' → H F = none → H' p = some (.tup [.ref fl, .int f, .int s, .ref F]) → H' fl = some (.tup [.int L, .int W]) → H' F = some (.lst (refs ps)) → BrT H' ps → (0 < ps.length ∧ ps.length ≤ 200) → (0 < L ∧ L ≤ 20) → (0 < W ∧ W ≤ 20) → (0 < f ∧ f ≤ 3) → (0 < s ∧ s ≤ 3) → Q (.ref p) H') :
    SpBricks K [.ref a] H Q E
inductive BrM (a : Addr) (H : Hp) : L2.St → Hp → Prop where
  | mk {H' : Hp} {cl : Addr} {cs : List Int} (sm : Same H H') (hc : H' cl = some (.lst (cs.map V.int))) (hb : ∀ z ∈ cs, Builtin.Int.intBits z ≤ 1048576) (hl : cs.length ≤ 63) :
    BrM a H [some (.ref a), some (.ref cl), none, none, none, none, none, none, none, none, none, none, none, none, none, none, none, none, none, none] H'
inductive BrI (a cl tl : Addr) (ts : List Int) (wh f s : Int) (H : Hp) (n : Nat) : L2.St → Hp → Prop where
  | mk {H' : Hp} {fl F : Addr} {ps : List (Addr × Brick)} {L W : Int} {y5 y6 y9 y10 y11 y12 y13 y14 y15 y16 y17 y18 y19 : Option V} (sm : Same H H') (nF : H F = none) (eF : H' F = some (.lst (refs ps))) (hb : BrT H' ps) (hp : 0 < ps.length ∧ ps.length ≤ n)
      (hfl : H' fl = some (.tup [.int L, .int W])) (hL : 0 < L ∧ L ≤ 20) (hW : 0 < W ∧ W ≤ 20) (hc : H' tl = some (.lst (ts.map V.int))) (nc : tl ≠ F) :
    BrI a cl tl ts wh f s H n [some (.ref a), some (.ref cl), some (.int wh), some (.int f), some (.int s), y5, y6, some (.ref fl), some (.ref F), y9, y10, y11, y12, y13, y14, y15, y16, y17, y18, y19] H'
inductive BrK (a cl tl : Addr) (ts : List Int) (wh f s : Int) (H : Hp) (n : Nat) (pl ki : Int) (o st : Addr) (bo bs : Brick) : L2.St → Hp → Prop where
  | mk {H' : Hp} {fl F : Addr} {ps : List (Addr × Brick)} {L W : Int} {y5 y6 y9 y10 y11 y12 y16 y18 y19 : Option V} (sm : Same H H') (nF : H F = none) (eF : H' F = some (.lst (refs ps))) (hb : BrT H' ps) (hp : 0 < ps.length ∧ ps.length ≤ n)
      (hfl : H' fl = some (.tup [.int L, .int W])) (hL : 0 < L ∧ L ≤ 20) (hW : 0 < W ∧ W ≤ 20) (hc : H' tl = some (.lst (ts.map V.int))) (nc : tl ≠ F) (h0 : 0 ≤ pl) (hpl : ki = 0 ∨ pl < ps.length) (ho : H' o = some (.tup bo.vs)) (hst : H' st = some (.tup bs.vs)) :
    BrK a cl tl ts wh f s H n pl ki o st bo bs [some (.ref a), some (.ref cl), some (.int wh), some (.int f), some (.int s), y5, y6, some (.ref fl), some (.ref F), y9, y10, y11, y12, some (.int pl), some (.int ki), some (.ref o), y16, some (.ref st), y18, y19] H'
theorem at_refs {ps : List (Addr × Brick)} {k : Int} (h0 : 0 ≤ k) (h1 : k < ps.length) : ∃ pb, pb ∈ ps ∧ ps[k.toNat]? = some pb ∧ atI (refs ps) k = some (.ref pb.1) := by
  obtain ⟨n, rfl⟩ := Int.eq_ofNat_of_zero_le h0
  have hlt : n < ps.length := by omega
  refine ⟨ps[n], List.getElem_mem hlt, by rw [Int.toNat_natCast]; exact List.getElem?_eq_getElem hlt, atI_nat ?_⟩
  unfold refs
  rw [List.getElem?_map, List.getElem?_eq_getElem hlt]
  rfl
theorem erase_refs {α : Type} : ∀ (ps : List (Addr × α)) (n : Nat), (refs ps).eraseIdx n = refs (ps.eraseIdx n)
  | [], _ => rfl
  | _ :: _, 0 => rfl
  | p :: ps, n + 1 => by
    show V.ref p.1 :: (refs ps).eraseIdx n = V.ref p.1 :: refs (ps.eraseIdx n)
    rw [erase_refs ps n]
theorem seq_ix {n k : Nat} (h : k < n) : seqIndex? (k : Int) n = some k := by
  unfold seqIndex?
  simp
  omega
inductive BrE (a cl fl F : Addr) (cs : List Int) (wh f s fw ls L W : Int) (H : Hp) (i : Nat) : L2.St → Hp → Prop where
  | mk {H' : Hp} {ps : List (Addr × Brick)} {y9 : Option V} (sm : Same H H') (eF : H' F = some (.lst (refs ps))) (hb : BrT H' ps) (hp : ps.length = i * ls.toNat) (hfl : H' fl = some (.tup [.int L, .int W])) (hc : H' cl = some (.lst (cs.map V.int))) :
    BrE a cl fl F cs wh f s fw ls L W H i [some (.ref a), some (.ref cl), some (.int wh), some (.int f), some (.int s), some (.int fw), some (.int ls), some (.ref fl), some (.ref F), y9, none, none, none, none, none, none, none, none, none, none] H'
section
variable {P : Program} {w : World} {K : PySem.W.Frag} {mg : Str → Option Value} {base : Heap}
theorem H__law_bricks (p : Pl K mg "_law_bricks" s__law_bricks) (B : Bi mg) (h__law_number : Has P w K mg base CX0 1 "_law_number" ["_law_cell", "_law_at", "_law_whole"] SpNumber) : Has P w K mg base CX0 2 "_law_bricks" ["_law_script"] (SpBricks K) := by
  refine p.mk0 sc__law_bricks (fun _ _ _ _ _ _ us hl => match us, hl with | [_], _ => rfl) (fun vs H Q E h => ?_) (fun f cdv A outer s H vs Q E hr h => ?_)
  · cases h; rfl
  · obtain @⟨a, ns, _, _, _, hbits, hl, hS, q⟩ := h
    refine ⟨_, (Evl.pss_cut (ps_set (i := 1) sc__law_bricks.nd rfl (Or.inl rfl) (pe_ifExp (pt_cmpR (r := rNeD K) (op_neD hr.units) (pv 0) (pe_lst pa_nil) (nomark _)) (pe_slice sl_list (pv 0) po_none (po_some pe_int)) (pe_lst (pa_cons pe_int pa_nil))))
      (pss_cons (ps_set (i := 2) sc__law_bricks.nd rfl (Or.inl rfl) (pe_callB (cr_sum rfl) (by rfl) B.sum (by decide +kernel) (pa_cons (pv 1) pa_nil)))
      (pss_cons (ps_asg (pe_tup (pa_cons (pe_op op_add pe_int (pe_op op_mod (pv 2) pe_int)) (pa_cons (pe_op op_add pe_int (pe_op op_mod (pe_op op_fdivW (pv 2) pe_int) pe_int)) pa_nil))) (pg_tup (by rfl) (pgs_cons (pg_name (i := 3) sc__law_bricks.nd rfl (Or.inr rfl)) (pgs_cons (pg_name (i := 4) sc__law_bricks.nd rfl (Or.inr rfl)) pgs_nil))))
      (pss_cons (ps_par (i := 5) (j := 6) (by rfl) sc__law_bricks.nd rfl rfl (by decide) rfl rfl (pa_cons (pe_op op_add pe_int (pe_op op_mod (pe_op op_fdivW (pv 2) pe_int) pe_int)) (pa_cons (pe_op op_add pe_int (pe_op op_mod (pe_op op_fdivW (pv 2) pe_int) pe_int)) pa_nil)) (by rfl))
      (pss_cons (ps_set (i := 7) sc__law_bricks.nd rfl (Or.inl rfl) (pe_tup (pa_cons (pe_op op_mulX (pv 3) (pv 5)) (pa_cons (pe_op op_mulX (pv 4) (pv 6)) pa_nil))))
      (pss_cons (ps_set (i := 8) sc__law_bricks.nd rfl (Or.inl rfl) (pe_lst pa_nil))
      (pss_cons (ps_for PassesOwn.never (by rfl) (pi_range1 (by rfl) B.range (pa_cons (pv 5) pa_nil)) (pg_name (i := 9) sc__law_bricks.nd rfl (Or.inr rfl)) (pss_one (ps_expr (pe_bm PySem.F.plainAttrs_list PySem.F.slot_list_extend PySem.F.type_list_extend mt_extend (pv 8) (pa_cons (pe_lc (own := [("_law_up", 18)]) (by rfl) sc__law_bricks.nd (pi_range1 (by rfl) B.range (pa_cons (pv 6) pa_nil)) (blkOk_by (own := [("_law_up", 18)]) (N := ["_law_script", "_law_cells", "_law_whole", "_law_first", "_law_second", "_law_few_here", "_law_less", "_law_floor", "_law_found", "_law_along", "_law_at", "_law_cell", "_law_number_here", "_law_place", "_law_kind", "_law_brick", "_law_far", "_law_strange", "_law_up", "_law_lies"]) (sc := defScope s__law_bricks) (by decide +kernel)) (fun _ _ _ _ _ => (pg_name (i := 18) sc__law_bricks.nd rfl (Or.inl rfl))) (fun _ _ _ _ _ => pts_nil) (fun _ _ _ _ _ => (pe_tup (pa_cons (pe_op op_mulX (pv 3) (pv 9)) (pa_cons (pe_op op_mulX (pv 4) (pv 18)) (pa_cons pe_bl pa_nil)))))) pa_nil)))))
      (Evl.pss_cut (ps_if (pt_cmpR op_gt (pe_op op_mod (pe_op op_fdivW (pv 2) pe_int) pe_int) pe_int (nomark _)) (pss_cons (ps_set (i := 7) sc__law_bricks.nd rfl (Or.inl rfl) (pe_tup (pa_cons (pe_op op_mulX (pv 3) (pv 4)) (pa_cons (pe_op op_add (pv 3) (pv 4)) pa_nil))))
      (pss_cons (ps_setLc (i := 8) (own := [("_law_at", 10)]) (by rfl) sc__law_bricks.nd rfl rfl (sw_true rfl rfl rfl (by decide +kernel)) (pi_range1 (by rfl) B.range (pa_cons (pv 4) pa_nil)) (blkOk_by (own := [("_law_at", 10)]) (N := ["_law_script", "_law_cells", "_law_whole", "_law_first", "_law_second", "_law_few_here", "_law_less", "_law_floor", "_law_found", "_law_along", "_law_at", "_law_cell", "_law_number_here", "_law_place", "_law_kind", "_law_brick", "_law_far", "_law_strange", "_law_up", "_law_lies"]) (sc := defScope s__law_bricks) (by decide +kernel)) (fun _ _ _ _ _ => (pg_name (i := 10) sc__law_bricks.nd rfl (Or.inl rfl))) (fun _ _ _ _ _ => pts_nil) (fun _ _ _ _ _ => (pe_tup (pa_cons (pe_op op_mulX (pv 3) (pv 10)) (pa_cons pe_int (pa_cons pe_bl pa_nil))))))
      (pss_one (ps_set (i := 8) sc__law_bricks.nd rfl (Or.inl rfl) (pe_op op_cat (pv 8) (pe_lc (own := [("_law_at", 10)]) (by rfl) sc__law_bricks.nd (pi_range1 (by rfl) B.range (pa_cons (pv 3) pa_nil)) (blkOk_by (own := [("_law_at", 10)]) (N := ["_law_script", "_law_cells", "_law_whole", "_law_first", "_law_second", "_law_few_here", "_law_less", "_law_floor", "_law_found", "_law_along", "_law_at", "_law_cell", "_law_number_here", "_law_place", "_law_kind", "_law_brick", "_law_far", "_law_strange", "_law_up", "_law_lies"]) (sc := defScope s__law_bricks) (by decide +kernel)) (fun _ _ _ _ _ => (pg_name (i := 10) sc__law_bricks.nd rfl (Or.inl rfl))) (fun _ _ _ _ _ => pts_nil) (fun _ _ _ _ _ => (pe_tup (pa_cons (pe_op op_mulX (pv 4) (pv 10)) (pa_cons (pv 4) (pa_cons pe_bl pa_nil))))))))))) pss_nil)
      (Evl.pss_cut (ps_if (pt_cmpR op_eq (pe_op op_mod (pe_op op_fdivW (pv 2) pe_int) pe_int) pe_int (nomark _)) (pss_cons (ps_set (i := 7) sc__law_bricks.nd rfl (Or.inl rfl) (pe_tup (pa_cons (pe_ix (r := rIxT K) ix_tup (pv 7) pe_int (fun _ _ => rfl)) (pa_cons (pe_ix (r := rIxT K) ix_tup (pv 7) pe_int (fun _ _ => rfl)) pa_nil))))
      (pss_one (ps_setLc (i := 8) (own := [("_law_along", 9), ("_law_up", 18), ("_law_lies", 19)]) (g := (gTup K 3 (gCons (gName 9) (gCons (gName 18) (gCons (gName 19) gNil))))) (by rfl) sc__law_bricks.nd rfl rfl (sw_true rfl rfl rfl (by decide +kernel)) (pi_list (pv 8)) (blkOk_by (own := [("_law_along", 9), ("_law_up", 18), ("_law_lies", 19)]) (N := ["_law_script", "_law_cells", "_law_whole", "_law_first", "_law_second", "_law_few_here", "_law_less", "_law_floor", "_law_found", "_law_along", "_law_at", "_law_cell", "_law_number_here", "_law_place", "_law_kind", "_law_brick", "_law_far", "_law_strange", "_law_up", "_law_lies"]) (sc := defScope s__law_bricks) (by decide +kernel)) (fun _ _ _ _ _ => (pg_tup (by rfl) (pgs_cons (pg_name (i := 9) sc__law_bricks.nd rfl (Or.inl rfl)) (pgs_cons (pg_name (i := 18) sc__law_bricks.nd rfl (Or.inl rfl)) (pgs_cons (pg_name (i := 19) sc__law_bricks.nd rfl (Or.inl rfl)) pgs_nil))))) (fun _ _ _ _ _ => pts_nil) (fun _ _ _ _ _ => (pe_tup (pa_cons (pv 18) (pa_cons (pv 9) (pa_cons (pe_not (pv 19)) pa_nil)))))))) pss_nil)
      (pss_cons (ps_for PassesOwn.never (by rfl) (pi_enum (by rfl) B.enumerate (pa_cons (pe_slice sl_list (pv 1) po_none (po_some (pe_op op_mod (pe_op op_fdivW (pv 2) pe_int) pe_int))) pa_nil)) (pg_tup (by rfl) (pgs_cons (pg_name (i := 10) sc__law_bricks.nd rfl (Or.inl rfl)) (pgs_cons (pg_name (i := 11) sc__law_bricks.nd rfl (Or.inl rfl)) pgs_nil))) (pss_cons (ps_set (i := 12) sc__law_bricks.nd rfl (Or.inl rfl) (pe_fn h__law_number (hr.mono (by decide)) pass0 (pa_cons (pv 11) (pa_cons (pv 10) (pa_cons (pv 2) pa_nil)))))
      (pss_cons (ps_par (i := 13) (j := 14) (by rfl) sc__law_bricks.nd rfl rfl (by decide) rfl rfl (pa_cons (pe_op op_mod (pe_op op_fdivW (pv 12) pe_int) (pe_callB (r := rLen2 K) call_len_seq (by rfl) B.len PySem.boot_len (pa_cons (pv 8) pa_nil))) (pa_cons (pe_op op_mod (pv 12) pe_int) pa_nil)) (by rfl))
      (pss_cons (ps_set (i := 15) sc__law_bricks.nd rfl (Or.inl rfl) (pe_ix (r := rIxL K) ix_list (pv 8) (pv 13) (fun _ _ => rfl)))
      (Evl.pss_cut (ps_set (i := 16) sc__law_bricks.nd rfl (Or.inl rfl) (pe_ifExp (pt_cmpR op_eq (pe_op op_mod (pe_op op_fdivW (pv 12) pe_int) pe_int) pe_int (nomark _)) (pe_op op_pow pe_int pe_int) pe_int))
      (pss_cons (ps_set (i := 17) sc__law_bricks.nd rfl (Or.inl rfl) (pe_tup (pa_cons (pe_op op_add (pe_ix (r := rIxT K) ix_tup (pv 15) pe_int (fun _ _ => rfl)) (pe_op op_mulX (pe_op op_sub (pe_op op_mod (pe_op op_fdivW (pv 12) pe_int) pe_int) pe_int) (pv 16))) (pa_cons (pe_op op_sub (pe_op op_add (pe_ix (r := rIxT K) ix_tup (pv 15) pe_int (fun _ _ => rfl)) (pe_op op_mod (pe_op op_fdivW (pv 12) pe_int) pe_int)) pe_int) (pa_cons (pe_cmpR op_eq (pe_op op_mod (pe_op op_fdivW (pv 12) pe_int) pe_int) pe_int (nomark _)) pa_nil)))))
      (Evl.pss_cut (ps_if (PW.pt (pw_and (pt_cmpR op_eq (pv 14) pe_int (nomark _)) (pw_and1 (pt_cmpR op_gt (pe_callB (r := rLen2 K) call_len_seq (by rfl) B.len PySem.boot_len (pa_cons (pv 8) pa_nil)) pe_int (nomark _))))) (pss_one (ps_expr (pe_bm PySem.F.plainAttrs_list PySem.F.slot_list_pop PySem.F.type_list_pop mt_popAt (pv 8) (pa_cons (pv 13) pa_nil)))) pss_nil)
      (Evl.pss_cut (ps_if (pt_cmpR (r := rIn K false) op_in_seq (pv 14) (pe_lst (pa_cons pe_int (pa_cons pe_int pa_nil))) (by rfl)) (pss_one (ps_asg (pv 17) (pg_sub (pv 8) (pv 13) set_list))) pss_nil)
      (Evl.pss_cut (ps_if (pt_cmpR op_eq (pv 14) pe_int (nomark _)) (pss_one (ps_expr (pe_bm PySem.F.plainAttrs_list PySem.F.slot_list_append PySem.F.type_list_append mt_append (pv 8) (pa_cons (pv 17) pa_nil)))) pss_nil)
      (Evl.pss_cut (ps_if (pt_cmpR op_eq (pv 14) pe_int (nomark _)) (pss_one (ps_expr (pe_bm PySem.F.plainAttrs_list PySem.F.slot_list_append PySem.F.type_list_append mt_append (pv 8) (pa_cons (pv 15) pa_nil)))) pss_nil)
      (pss_one (ps_if (pt_cmpR op_eq (pv 14) pe_int (nomark _)) (pss_one (ps_set (i := 8) sc__law_bricks.nd rfl (Or.inl rfl) (pe_revL (pv 8)))) pss_nil))))))))))))
      (pss_one (ps_ret (pe_tup (pa_cons (pv 7) (pa_cons (pv 3) (pa_cons (pv 4) (pa_cons (pv 8) pa_nil))))))))))))))))), ?_⟩
    refine ⟨BrM a H, ?_, ?_⟩
    · walk_at "rd"
      intro l1 hl1
      refine ⟨.list (ns.map .int), .list [], .lst ((same_upd hl1).seq hS) (dp_ints ns), .lst (sqL upd_same) .nil, shp_ints ns, rfl, _, rfl, ?_⟩
      rw [ne_nil]
      have sm1 := same_upd (o := .lst []) hl1
      generalize upd H l1 (.lst []) = H1 at sm1 ⊢
      refine iteB (fun _ => ?_) (fun _ => ?_)
      · refine ⟨_, rfl, 40, rfl, a, _, rfl, sm1.seq hS, fun p1 hp1 => ?_⟩
        obtain ⟨ms, ems, hms, hml⟩ := cut_ints2 ns none (some 40)
        exact .mk (cs := ms) (sm1.trans (same_upd hp1)) (by rw [upd_same, ems]) (fun z hz => hbits z (hms z hz)) (by omega)
      · walk_at "rd"
        intro p1 hp1
        exact .mk (cs := [3]) (sm1.trans (same_upd hp1)) upd_same (fun z hz => by
          obtain rfl := List.mem_singleton.mp hz
          decide) (by decide)
    rintro _ H1 @⟨_, cl, cs, sm1, hc1, hcb, hcl⟩
    refine ⟨_, rfl, cl, cs, rfl, sqL hc1, ?_⟩
    generalize hwh : cs.sum = wh
    walk_at "rd"
    intro t1 ht1
    have hc2 := same_upd (o := .tup [.int (1 + wh % 3), .int (1 + wh / 3 % 3)]) ht1 _ _ hc1
    refine ⟨t1, _, rfl, sqT upd_same, rfl, ?_⟩
    have sm2 : Same H (upd H1 t1 (.tup [.int (1 + wh % 3), .int (1 + wh / 3 % 3)])) := sm1.trans (same_upd ht1)
    generalize hH2 : upd H1 t1 _ = H2
    have sm2 : Same H H2 := by rw [← hH2]; exact sm2
    have hc2 : H2 cl = some (.lst (cs.map V.int)) := by rw [← hH2]; exact hc2
    clear hH2
    have hf : 0 < 1 + wh % 3 ∧ 1 + wh % 3 ≤ 3 := by omega
    have hs : 0 < 1 + wh / 3 % 3 ∧ 1 + wh / 3 % 3 ≤ 3 := by omega
    have hw : 0 < 1 + wh / 9 % 3 ∧ 1 + wh / 9 % 3 ≤ 3 := by omega
    have hz : 0 < 1 + wh / 36 % 3 ∧ 1 + wh / 36 % 3 ≤ 3 := by omega
    walk_at "rd"
    intro fl hfl
    generalize hH3 : upd H2 fl _ = H3
    obtain ⟨sm3, up3⟩ : Same H2 H3 ∧ H3 fl = some (.tup [.int ((1 + wh % 3) * (1 + wh / 9 % 3)), .int ((1 + wh / 3 % 3) * (1 + wh / 36 % 3))]) := newH hH3 hfl
    clear hH3
    walk_at "rd"
    intro F hF
    have nFH : H F = none := (sm2.trans sm3).free hF
    generalize hH4 : upd H3 F _ = H4
    obtain ⟨sm4, up4⟩ : Same H3 H4 ∧ H4 F = some (.lst (refs ([] : List (Addr × Brick)))) := newH hH4 hF
    clear hH4
    have smH4 : Same H H4 := sm2.trans (sm3.trans sm4)
    obtain ⟨fi, hfi⟩ : ∃ fi, fi = 1 + wh % 3 := ⟨_, rfl⟩
    obtain ⟨se, hse⟩ : ∃ se, se = 1 + wh / 3 % 3 := ⟨_, rfl⟩
    obtain ⟨fw, hfw⟩ : ∃ fw, fw = 1 + wh / 9 % 3 := ⟨_, rfl⟩
    obtain ⟨ls, hls⟩ : ∃ ls, ls = 1 + wh / 36 % 3 := ⟨_, rfl⟩
    rw [← hfi, ← hse, ← hfw, ← hls] at up3
    have bfi : Bn 20 fi := bnl (by omega)
    have bse : Bn 20 se := bnl (by omega)
    have hc4 := sm4 _ _ (sm3 _ _ hc2)
    have up34 := sm4 _ _ up3
    have nclF : cl ≠ F := ne_of_none (sm3 _ _ hc2) hF
    refine ⟨_, rfl, _, rfl, by omega, by omega, for_range (lo := 0) (n := _) (fun i σ H' => BrE a cl fl F cs wh fi se fw ls (fi * fw) (se * ls) H i σ H') (by rw [hfi, hse, hfw, hls]; rw [hfi, hse, hfw, hls] at up34; exact .mk (ps := []) smH4 up4 (fun p hp => nomatch hp) (by simp) up34 hc4) ?_ ?_⟩
    · rintro i _ H5 hi @⟨_, ps, _, sm5, eF, hb, hp, hfl5, hc5⟩
      have bi : Bn 20 (0 + (i : Int)) := bnl (by omega)
      refine ⟨_, rfl, .inl ⟨rfl, _, sqL eF⟩, _, rfl, _, rfl, by omega, by omega, fun D hD => ?_⟩
      refine lc_range (lo := 0) (n := _) (fun j H' => Same H5 H' ∧ ∃ ds, H' D = some (.lst (refs ds)) ∧ BrT H' ds ∧ ds.length = j) ⟨same_upd hD, [], upd_same, (fun p hp => nomatch hp), rfl⟩ ?_ ?_
      · rintro j H6 hj ⟨sm6, ds, eD, hds, hdl⟩
        have bj : Bn 20 (0 + (j : Int)) := bnl (by omega)
        refine ⟨rfl, lc_yes ?_⟩
        walk_at "rd"
        intro p4 hp4
        exact lc_brick (b := ⟨fi * (0 + (i : Int)), se * (0 + (j : Int)), true⟩) hD sm6 eD hds hdl hp4 (by omega)
      · rintro H6 ⟨sm6, ds, eD, hds, hdl⟩
        have eF6 := sm6 _ _ eF
        refine ⟨F, D, _, _, rfl, rfl, eF6, eD, ?_, ?_⟩
        · rw [refs_len, refs_len, hp, hdl]
          exact size4 (mul_add_le (by omega) (by omega))
        · refine .mk (ps := ps ++ ds) (same_mut (sm5.trans sm6) nFH) (by rw [upd_same, refs_app]) (((hb.mono sm6).app hds).lst eF6) (by rw [List.length_append, hp, hdl, Nat.succ_mul]) ?_ ?_
          · rw [upd_ne (ne_of (sm6 _ _ hfl5) eF6 (by intro z; cases z))]
            exact sm6 _ _ hfl5
          · rw [upd_ne nclF]
            exact sm6 _ _ hc5
    · rintro _ H5 @⟨_, ps, _, sm5, eF, hb, hp, hfl5, hc5⟩
      have hpl : 0 < ps.length ∧ ps.length ≤ 9 := by
        have e1 : (1 + wh / 9 % 3).toNat = 1 ∨ (1 + wh / 9 % 3).toNat = 2 ∨ (1 + wh / 9 % 3).toNat = 3 := by omega
        rcases e1 with e | e | e <;> rw [e] at hp <;> omega
      have hL : 0 < fi * fw ∧ fi * fw ≤ 20 := by
        have := mul_in (A := 3) (B := 3) (x := fi) (y := fw) (by omega) (by omega) (by omega) (by omega)
        have := Int.mul_pos (show 0 < fi by omega) (show 0 < fw by omega)
        omega
      have hW : 0 < se * ls ∧ se * ls ≤ 20 := by
        have := mul_in (A := 3) (B := 3) (x := se) (y := ls) (by omega) (by omega) (by omega) (by omega)
        have := Int.mul_pos (show 0 < se by omega) (show 0 < ls by omega)
        omega
      refine ⟨BrI a cl cl cs wh fi se H 20, ?_, ?_⟩
      · walk_at "rd"
        refine iteD (fun _ => ?_) (fun _ => .mk sm5 nFH eF hb (by omega) hfl5 hL hW hc5 nclF)
        walk_at "rd"
        intro fl2 hfl2
        generalize hH6 : upd H5 fl2 _ = H6
        obtain ⟨sm6, up6⟩ : Same H5 H6 ∧ H6 fl2 = some (.tup [.int (fi * se), .int (fi + se)]) := newH hH6 hfl2
        clear hH6
        refine ⟨_, rfl, _, rfl, by omega, by omega, fun D hD => ?_⟩
        refine lc_range (lo := 0) (n := _) (fun j H' => Same H6 H' ∧ ∃ ds, H' D = some (.lst (refs ds)) ∧ BrT H' ds ∧ ds.length = j) ⟨same_upd hD, [], upd_same, (fun p hp => nomatch hp), rfl⟩ ?_ ?_
        · rintro j H7 hj ⟨sm7, ds, eD, hds, hdl⟩
          have bj : Bn 20 (0 + (j : Int)) := bnl (by omega)
          refine ⟨rfl, lc_yes ?_⟩
          walk_at "rd"
          intro p4 hp4
          exact lc_brick (b := ⟨fi * (0 + (j : Int)), 0, true⟩) hD sm7 eD hds hdl hp4 (by omega)
        · rintro H7 ⟨sm7, ds, eD, hds, hdl⟩
          refine ⟨_, rfl, _, rfl, _, rfl, by omega, by omega, fun D2 hD2 => ?_⟩
          refine lc_range (lo := 0) (n := _) (fun j H' => Same H7 H' ∧ ∃ es, H' D2 = some (.lst (refs es)) ∧ BrT H' es ∧ es.length = j) ⟨same_upd hD2, [], upd_same, (fun p hp => nomatch hp), rfl⟩ ?_ ?_
          · rintro j H8 hj ⟨sm8, es, eD2, hes, hel⟩
            have bj : Bn 20 (0 + (j : Int)) := bnl (by omega)
            refine ⟨rfl, lc_yes ?_⟩
            walk_at "rd"
            intro p4 hp4
            exact lc_brick (b := ⟨se * (0 + (j : Int)), se, false⟩) hD2 sm8 eD2 hes hel hp4 (by omega)
          · rintro H8 ⟨sm8, es, eD2, hes, hel⟩
            refine ⟨D, D2, _, _, rfl, rfl, sm8 _ _ eD, eD2, ?_, fun p5 hp5 => ?_⟩
            · rw [refs_len, refs_len, hdl, hel]
              exact size4 (by omega)
            · have smA : Same H5 H8 := sm6.trans (sm7.trans sm8)
              have hL2 : 0 < fi * se ∧ fi * se ≤ 20 := by
                have := mul_in (A := 3) (B := 3) (x := fi) (y := se) (by omega) (by omega) (by omega) (by omega)
                have := Int.mul_pos (show 0 < fi by omega) (show 0 < se by omega)
                omega
              exact .mk (ps := ds ++ es) (sm5.trans (smA.trans (same_upd hp5))) ((sm5.trans smA).free hp5) (by rw [upd_same, refs_app]) (((hds.mono sm8).app hes).mono (same_upd hp5)) (by rw [List.length_append]; omega) (same_upd hp5 _ _ (sm8 _ _ (sm7 _ _ up6))) hL2 (by omega) (same_upd hp5 _ _ (smA _ _ hc5)) (ne_of_none (smA _ _ hc5) hp5)
      · rintro _ H6 @⟨_, fl6, F6, ps6, L6, W6, _, _, _, _, _, _, _, _, _, _, _, _, _, sm6, nF6, eF6, hb6, hp6, hfl6, hL6, hW6, hc6, nc6⟩
        refine ⟨BrI a cl cl cs wh fi se H 20, ?_, ?_⟩
        · walk_at "rd"
          refine iteEq (fun _ => ?_) (fun _ => .mk sm6 nF6 eF6 hb6 hp6 hfl6 hL6 hW6 hc6 nc6)
          refine ⟨_, rfl, fl6, _, 1, _, rfl, rfl, sqT hfl6, rfl, _, rfl, fl6, _, 0, _, rfl, rfl, sqT hfl6, rfl, ?_⟩
          walk_at "rd"
          intro fl7 hfl7
          generalize hH7 : upd H6 fl7 _ = H7
          obtain ⟨sm7, up7⟩ : Same H6 H7 ∧ H7 fl7 = some (.tup [.int W6, .int L6]) := newH hH7 hfl7
          clear hH7
          refine ⟨_, rfl, F6, rfl, ⟨_, sqL (sm7 _ _ eF6)⟩, fun D hD => ?_⟩
          refine lc_list (K := K) (a := F6) (xs := refs ps6) (fun j H' => Same H7 H' ∧ ∃ ds, H' D = some (.lst (refs ds)) ∧ BrT H' ds ∧ ds.length = j) ⟨same_upd hD, [], upd_same, (fun p hp => nomatch hp), rfl⟩ (fun j H' _ ⟨sm, _⟩ => sqL (sm _ _ (sm7 _ _ eF6))) ?_ ?_
          · rintro j v H8 hj ⟨sm8, ds, eD, hds, hdl⟩
            obtain ⟨⟨o, x, y, l⟩, hpb, rfl, hm⟩ := refs_at hj
            have hlt := (List.getElem?_eq_some_iff.mp hpb).1
            refine ⟨o, _, rfl, sqT (sm8 _ _ (sm7 _ _ (hb6 _ hm))), rfl, ?_⟩
            walk_at "rd"
            intro p4 hp4
            exact lc_brick (b := ⟨y, x, !l⟩) hD sm8 eD hds hdl hp4 (by omega)
          · rintro H8 ⟨sm8, ds, eD, hds, hdl⟩
            rw [refs_len] at hdl
            exact .mk (ps := ds) (sm6.trans (sm7.trans sm8)) ((sm6.trans sm7).free hD) eD hds (by omega) (sm8 _ _ up7) hW6 hL6 (sm8 _ _ (sm7 _ _ hc6)) (ne_of_none (sm7 _ _ hc6) hD)
        · rintro _ H7 @⟨_, fl7, F7, ps7, L7, W7, _, _, _, _, _, _, _, _, _, _, _, _, _, sm7, nF7, eF7, hb7, hp7, hfl7, hL7, hW7, hc7, nc7⟩
          walk_at "rd"
          refine ⟨cl, _, rfl, sqL hc7, fun tl htl => ?_⟩
          obtain ⟨ts, ets, hts, htl2⟩ := cut_ints2 cs none (some (wh / 576 % 4))
          generalize hH8 : upd H7 tl _ = H8
          obtain ⟨sm8, up8⟩ : Same H7 H8 ∧ H8 tl = some (.lst (ts.map V.int)) := by rw [← ets]; exact newH hH8 htl
          clear hH8
          refine ⟨tl, _, rfl, sqL up8, for_enumL (K := K) (a := tl) (xs := ts.map V.int) (fun i σ H' => BrI a cl tl ts wh fi se H (20 + 2 * i) σ H') (.mk (sm7.trans sm8) nF7 (sm8 _ _ eF7) (hb7.mono sm8) (by omega) (sm8 _ _ hfl7) hL7 hW7 up8 (ne_of_none eF7 htl).symm) ?_ ?_ ?_⟩
          · rintro _ _ _ _ ⟨_, _, _, _, _, _, _, _, hc, _⟩
            exact sqL hc
          · rintro i x T _ H9 hx @⟨_, fl9, F9, ps9, L9, W9, _, _, _, _, _, _, _, _, _, _, _, _, _, sm9, nF9, eF9, hb9, hp9, hfl9, hL9, hW9, hc9, nc9⟩ hT
            obtain ⟨c, hcx, rfl⟩ := ints_at hx
            have hic : i < ts.length := (List.getElem?_eq_some_iff.mp hcx).1
            have hcb2 := hcb c (hts c (List.mem_of_getElem? hcx))
            generalize hHa : upd H9 T _ = Ha
            obtain ⟨sma, upa⟩ : Same H9 Ha ∧ Ha T = some (.tup [.int (i : Nat), .int c]) := newH hHa hT
            clear hHa
            replace sm9 := sm9.trans sma
            replace eF9 := sma _ _ eF9
            replace hb9 := hb9.mono sma
            replace hfl9 := sma _ _ hfl9
            replace hc9 := sma _ _ hc9
            refine ⟨T, _, rfl, sqT upa, rfl, ?_⟩
            walk_at "rd"
            refine .mk (bn_bits hcb2) (bnl (n := 10) (by omega)) fun num => ?_
            walk_at "rd"
            refine ⟨F9, _, rfl, .inl (sqL eF9), ?_⟩
            have hlen : 0 < ((refs ps9).length : Int) := by rw [refs_len]; omega
            walk_at "rd"
            have k0 : 0 ≤ num / 6 % ((refs ps9).length : Int) := Int.emod_nonneg _ (Int.ne_of_gt hlen)
            have k1 : num / 6 % ((refs ps9).length : Int) < ps9.length := by
              have := Int.emod_lt_of_pos (num / 6) hlen
              rw [refs_len] at this ⊢
              exact this
            obtain ⟨pb, hpb, hpbi, epb⟩ := at_refs k0 k1
            obtain ⟨o, x, y, l⟩ := pb
            have hob := hb9 _ hpb
            refine ⟨F9, _, _, _, rfl, rfl, sqL eF9, epb, ?_⟩
            refine ⟨fun σ H' => H' = Ha ∧ ∃ (far : Int) (y5 y6 y9 y17 y18 y19 : Option V), Bn 200 far ∧ σ = [some (.ref a), some (.ref cl), some (.int wh), some (.int fi), some (.int se), y5, y6, some (.ref fl9), some (.ref F9), y9, some (.int (i : Nat)), some (.int c), some (.int num), some (.int (num / 6 % ((refs ps9).length : Int))), some (.int (num % 6)), some (.ref o), some (.int far), y17, y18, y19], ?_, ?_⟩
            · walk_at "rd"
              refine iteEq (fun _ => ?_) (fun _ => ?_)
              · walk_at "rd"
                exact ⟨_, _, _, _, _, _, _, bn_of_lt (by decide) (by decide), rfl⟩
              · walk_at "rd"
                exact ⟨_, _, _, _, _, _, _, bn_of_lt (by decide) (by decide), rfl⟩
            rintro _ _ ⟨rfl, far, _, _, _, _, _, _, bfar, rfl⟩
            have b3 : Bn 20 (num / 40 % 3 - 1) := bnl (by omega)
            refine ⟨_, rfl, o, _, 0, _, rfl, rfl, sqT hob, rfl, ?_⟩
            walk_at "rd"
            refine ⟨o, _, 1, _, rfl, rfl, sqT hob, rfl, ?_⟩
            walk_at "rd"
            intro st hst
            generalize hHb : upd _ st _ = Hb
            obtain ⟨smb, upb⟩ : Same _ Hb ∧ Hb st = some (.tup (Brick.vs ⟨x + (num / 40 % 3 - 1) * far, y + num / 120 % 3 - 1, decide (V.int (num / 360 % 2) = V.int 0)⟩)) := newH hHb hst
            clear hHb
            generalize hbst : (⟨x + (num / 40 % 3 - 1) * far, y + num / 120 % 3 - 1, decide (V.int (num / 360 % 2) = V.int 0)⟩ : Brick) = bst at upb
            generalize hbo : (⟨x, y, l⟩ : Brick) = bo at hob
            generalize hpl : num / 6 % ((refs ps9).length : Int) = pl at k0 k1 hpbi ⊢
            generalize hki : num % 6 = ki
            refine ⟨BrK a cl tl ts wh fi se H (20 + 2 * i) pl ki o st bo bst, ?_, ?_⟩
            · have eFb := smb _ _ eF9
              walk_at "rd"
              refine iteEq (fun ck => ?_) (fun _ => .mk (sm9.trans smb) nF9 eFb (hb9.mono smb) (by omega) (smb _ _ hfl9) hL9 hW9 (smb _ _ hc9) nc9 k0 (.inr k1) (smb _ _ hob) upb)
              refine ⟨_, rfl, F9, _, rfl, .inl (sqL eFb), ?_⟩
              walk_at "rd"
              refine iteD (fun c1 => ?_) (fun _ => .mk (sm9.trans smb) nF9 eFb (hb9.mono smb) (by omega) (smb _ _ hfl9) hL9 hW9 (smb _ _ hc9) nc9 k0 (.inr k1) (smb _ _ hob) upb)
              have c1 : (1 : Int) < ((refs ps9).length : Int) := c1
              rw [refs_len] at c1
              obtain ⟨n, rfl⟩ := Int.eq_ofNat_of_zero_le k0
              have hn : n < ps9.length := by omega
              have hnr : n < (refs ps9).length := by rw [refs_len]; exact hn
              refine ⟨_, rfl, .inl ⟨rfl, _, sqL eFb⟩, _, rfl, F9, _, (n : Int), n, _, rfl, rfl, eFb, by omega, by omega, seq_ix hnr, List.getElem?_eq_getElem hnr, ?_⟩
              have er := erase_refs ps9 n
              refine .mk (ps := ps9.eraseIdx n) (same_mut (sm9.trans smb) nF9) nF9 (by rw [upd_same, er]) (((hb9.mono smb).sub fun p hp => List.mem_of_mem_eraseIdx hp).lst eFb) ?_ (keepT (smb _ _ hfl9) eFb) hL9 hW9 (by rw [upd_ne nc9]; exact smb _ _ hc9) nc9 k0 (.inl ck) (keepT (smb _ _ hob) eFb) (keepT upb eFb)
              rw [List.length_eraseIdx_of_lt hn]
              omega
            · rintro _ Hc @⟨_, flc, Fc, psc, Lc, Wc, _, _, _, _, _, _, _, _, _, smc, nFc, eFc, hbc, hpc, hflc, hLc, hWc, hcc, ncc, h0c, hplc, hoc, hstc⟩
              refine ⟨BrK a cl tl ts wh fi se H (20 + 2 * i) pl ki o st bo bst, ?_, ?_⟩
              · walk_at "rd"
                intro l2 hl2
                refine ⟨l2, _, rfl, .inl (sqL upd_same), rfl, rfl, _, rfl, iteB (fun ck => ?_) (fun _ => .mk (smc.trans (same_upd hl2)) nFc (same_upd hl2 _ _ eFc) (hbc.mono (same_upd hl2)) (by omega) (same_upd hl2 _ _ hflc) hLc hWc (same_upd hl2 _ _ hcc) ncc h0c hplc (same_upd hl2 _ _ hoc) (same_upd hl2 _ _ hstc))⟩
                have kne : ki ≠ 0 := by
                  rintro rfl
                  revert ck
                  decide
                have hpl2 : pl < (psc.length : Int) := hplc.resolve_left kne
                obtain ⟨n, rfl⟩ := Int.eq_ofNat_of_zero_le h0c
                have eFd := same_upd (o := .lst [.int 1, .int 2]) hl2 _ _ eFc
                refine ⟨_, rfl, _, rfl, _, rfl, Fc, _, (n : Int), n, rfl, rfl, eFd, Evl.ixN_nat (by rw [refs_len]; omega), ?_⟩
                have er : (refs psc).set n (.ref st) = refs (psc.set n (st, bst)) := by
                  unfold refs
                  rw [List.map_set]
                have smd := same_upd (o := .lst [.int 1, .int 2]) hl2
                refine .mk (ps := psc.set n (st, bst)) (same_mut (smc.trans smd) nFc) nFc (by rw [upd_same, er]) ?_ (by rw [List.length_set]; omega) (keepT (smd _ _ hflc) eFd) hLc hWc (by rw [upd_ne ncc]; exact smd _ _ hcc) ncc h0c (.inr (by rw [List.length_set]; exact hpl2)) (keepT (smd _ _ hoc) eFd) (keepT (smd _ _ hstc) eFd)
                refine BrT.lst (fun p hp => ?_) eFd
                rcases List.mem_or_eq_of_mem_set hp with z | z
                · exact smd _ _ (hbc p z)
                · rw [z]
                  exact smd _ _ hstc
              · clear smc nFc eFc hbc hpc hflc hLc hWc hcc ncc h0c hplc hoc hstc
                rintro _ Hc @⟨_, flc, Fc, psc, Lc, Wc, _, _, _, _, _, _, _, _, _, smc, nFc, eFc, hbc, hpc, hflc, hLc, hWc, hcc, ncc, h0c, hplc, hoc, hstc⟩
                refine ⟨BrK a cl tl ts wh fi se H (20 + 2 * i + 1) pl ki o st bo bst, ?_, ?_⟩
                · walk_at "rd"
                  refine iteEq (fun ck => ?_) (fun _ => .mk smc nFc eFc hbc (by omega) hflc hLc hWc hcc ncc h0c hplc hoc hstc)
                  refine ⟨_, rfl, .inl ⟨rfl, _, sqL eFc⟩, _, rfl, Fc, _, _, rfl, rfl, eFc, by rw [refs_len]; exact Nat.lt_of_le_of_lt (n := _) (m := 2000) (by omega) (by decide), ?_⟩
                  refine .mk (ps := psc ++ [(st, bst)]) (same_mut smc nFc) nFc (by rw [upd_same, refs_app]; rfl) ((hbc.app (.one hstc)).lst eFc) (by rw [List.length_append]; exact ⟨by omega, Nat.succ_le_succ hpc.2⟩) (keepT hflc eFc) hLc hWc (by rw [upd_ne ncc]; exact hcc) ncc h0c ?_ (keepT hoc eFc) (keepT hstc eFc)
                  rcases hplc with z | z
                  · exact .inl z
                  · refine .inr ?_
                    rw [List.length_append]
                    omega
                · clear smc nFc eFc hbc hpc hflc hLc hWc hcc ncc h0c hplc hoc hstc
                  rintro _ Hc @⟨_, flc, Fc, psc, Lc, Wc, _, _, _, _, _, _, _, _, _, smc, nFc, eFc, hbc, hpc, hflc, hLc, hWc, hcc, ncc, h0c, hplc, hoc, hstc⟩
                  refine ⟨BrK a cl tl ts wh fi se H (20 + 2 * i + 2) pl ki o st bo bst, ?_, ?_⟩
                  · walk_at "rd"
                    refine iteEq (fun ck => ?_) (fun _ => .mk smc nFc eFc hbc (by omega) hflc hLc hWc hcc ncc h0c hplc hoc hstc)
                    refine ⟨_, rfl, .inl ⟨rfl, _, sqL eFc⟩, _, rfl, Fc, _, _, rfl, rfl, eFc, by rw [refs_len]; exact Nat.lt_of_le_of_lt (n := _) (m := 2000) (by omega) (by decide), ?_⟩
                    refine .mk (ps := psc ++ [(o, bo)]) (same_mut smc nFc) nFc (by rw [upd_same, refs_app]; rfl) ((hbc.app (.one hoc)).lst eFc) (by rw [List.length_append]; exact ⟨by omega, Nat.succ_le_succ hpc.2⟩) (keepT hflc eFc) hLc hWc (by rw [upd_ne ncc]; exact hcc) ncc h0c ?_ (keepT hoc eFc) (keepT hstc eFc)
                    rcases hplc with z | z
                    · exact .inl z
                    · refine .inr ?_
                      rw [List.length_append]
                      omega
                  · clear smc nFc eFc hbc hpc hflc hLc hWc hcc ncc h0c hplc hoc hstc
                    rintro _ Hc @⟨_, flc, Fc, psc, Lc, Wc, _, _, _, _, _, _, _, _, _, smc, nFc, eFc, hbc, hpc, hflc, hLc, hWc, hcc, ncc, h0c, hplc, hoc, hstc⟩
                    walk_at "rd"
                    refine iteEq (fun ck => ?_) (fun _ => .mk smc nFc eFc hbc (by omega) hflc hLc hWc hcc ncc)
                    refine ⟨_, rfl, Fc, _, rfl, sqL eFc, fun pr hpr => ?_⟩
                    refine .mk (ps := psc.reverse) (smc.trans (same_upd hpr)) (smc.free hpr) ?_ ((hbc.mono (same_upd hpr)).sub fun p hp => List.mem_reverse.mp hp) (by rw [List.length_reverse]; omega) (same_upd hpr _ _ hflc) hLc hWc (same_upd hpr _ _ hcc) (ne_of_none hcc hpr)
                    rw [upd_same]
                    unfold refs
                    rw [List.map_reverse]
          · rintro _ H9 @⟨_, fl9, F9, ps9, L9, W9, _, _, _, _, _, _, _, _, _, _, _, _, _, sm9, nF9, eF9, hb9, hp9, hfl9, hL9, hW9, hc9, nc9⟩
            rw [List.length_map] at hp9
            walk_at "rd"
            intro pz hpz
            exact q pz fl9 F9 L9 W9 fi se ps9 _ (sm9.trans (same_upd hpz)) nF9 upd_same (same_upd hpz _ _ hfl9) (same_upd hpz _ _ eF9) (hb9.mono (same_upd hpz)) (by omega) hL9 hW9 (by omega) (by omega)
end
end BF

/-! ### the law k06: its helpers -/
namespace BF
open PySem PySem.Spec PyProof.Rows L2
inductive SpSays : Sp where
  | mk {x : Bool} {H : Hp} {Q : VK} {E : XK} (q : Q (.bl true) H) : SpSays [.bl x, .bl x] H Q E
inductive SpSidesR (K : PySem.W.Frag) : Sp where
  | mk {t : Addr} {L W f s : Int} {H : Hp} {Q : VK} {E : XK} (ht : SqT K H t [.int L, .int W, .int f, .int s]) (hL : Sz L) (hW : Sz W) (hf : Sz f) (hs : Sz s) (q : ∀ H', Same H H' → Q (.bl true) H') : SpSidesR K [.ref t] H Q E
inductive SpCellR (K : PySem.W.Frag) : Sp where
  | mk {fl l t : Addr} {ps : List (Addr × Brick)} {c : Int × Int} {L W f s : Int} {H : Hp} {Q : VK} {E : XK} (hfl : SqT K H fl [.int L, .int W]) (hL : 0 < L ∧ L ≤ 1000) (hW : 0 < W ∧ W ≤ 1000) (hf : 0 < f) (hs : 0 < s) (hl : SqL K H l (refs ps)) (hb : BrAll K H ps) (hn : ps.length ≤ 10000) (ht : H t = some (.tup (cellV c)))
      (q : ∀ H', Same H H' → Q (.bl true) H') : SpCellR K [.ref fl, .int f, .int s, .ref l, .ref t] H Q E
inductive SrI (t D : Addr) (H : Hp) : L2.St → Hp → Prop where
  | mk {H' : Hp} {y2 y3 y4 y5 y6 : Option V} (sm : Same H H') : SrI t D H [some (.ref t), some (.ref D), y2, y3, y4, y5, y6] H'
inductive SrJ (t D : Addr) (w : Int) (H : Hp) : L2.St → Hp → Prop where
  | mk {H' : Hp} {y3 y4 y5 y6 : Option V} (sm : Same H H') : SrJ t D w H [some (.ref t), some (.ref D), some (.int w), y3, y4, y5, y6] H'
inductive SrG (t D p l : Addr) (w : Int) (b : Bool) (H : Hp) : L2.St → Hp → Prop where
  | mk {H' : Hp} {y6 : Option V} (sm : Same H H') : SrG t D p l w b H [some (.ref t), some (.ref D), some (.int w), some (.ref p), some (.ref l), some (.bl b), y6] H'
/-- an answer and what is due, by its side -/
def PairAt (K : PySem.W.Frag) (L W f s w : Int) (H : Hp) (v : V) : Prop := ∃ t p l a b0 b1, v = .ref t ∧ H t = some (.tup [.ref p, .ref l]) ∧ AnsAt K H p a ∧ (a = .striped (.int w) ∨ a = .short (.int w)) ∧ H l = some (.lst [.bl b0, .bl b1]) ∧ due4 L W f s a = (if w = 0 then b0 else if w = 1 then b1 else false)
section
variable {P : Program} {w : World} {K : PySem.W.Frag} {mg : Str → Option Value} {base : Heap}
theorem H__law_says (p : Pl K mg "_law_says" s__law_says) (B : Bi mg) : Has P w K mg base CX0 1 "_law_says" ["_law_said", "_law_due"] SpSays := by
  refine p.mk0 sc__law_says (fun _ _ _ _ _ _ us hl => match us, hl with | [_, _], _ => rfl) (fun vs H Q E h => ?_) (fun f cdv A outer s H vs Q E hr h => ?_)
  · cases h; rfl
  · obtain @⟨x, _, _, _, q⟩ := h
    refine ⟨_, (pss_one (ps_ret (pe_and (pe_callB (r := rIsi K) call_isi (by rfl) B.isinstance (by decide +kernel) (pa_cons (pv 0) (pa_cons (pe_bltn (v := .ty "bool") (by rfl) B.bool (by decide +kernel) rfl) pa_nil))) (pe_one (pe_cmpR op_eq (pv 0) (pv 1) (nomark _)))))), ?_⟩
    refine ⟨_, rfl, _, _, _, _, true, rfl, .ty "bool", .base (.bl x), kit_ty (by decide +kernel), true, rfl, iteT ?_⟩
    refine ⟨_, rfl, _, rfl, rfl, ?_⟩
    rw [decide_eq_true rfl]
    exact q
theorem H__law_sides_right (p : Pl K mg "_law_sides_right" s__law_sides_right) (B : Bi mg) (G : ClG K mg) (CI : ClI P w K mg base) (h__law_bars : Has P w K mg base CX0 3 "_law_bars" ["_law_four_here", "_law_which"] (SpLBars K)) (h__law_says : Has P w K mg base CX0 1 "_law_says" ["_law_said", "_law_due"] SpSays)
    (h_shows4 : ∀ x, Ok4 x → HasM P w K mg base CX0 4 x "shows" ["self", "length", "width", "first", "second"] (SpShows4 K x)) : Has P w K mg base CX0 5 "_law_sides_right" ["_law_four_here"] (SpSidesR K) := by
  refine p.mk0 sc__law_sides_right (fun _ _ _ _ _ _ us hl => match us, hl with | [_], _ => rfl) (fun vs H Q E h => ?_) (fun f cdv A outer s H vs Q E hr h => ?_)
  · cases h; rfl
  · obtain @⟨t, L, W, fi, se, _, _, _, ht, hL, hW, hf, hs, q⟩ := h
    refine ⟨_, (pss_cons (ps_setLc (i := 1) (own := [("_law_which", 2)]) (by rfl) sc__law_sides_right.nd rfl rfl (sw_true rfl rfl rfl (by decide +kernel)) (pi_range1 (by rfl) B.range (pa_cons pe_int pa_nil)) (blkOk_by (own := [("_law_which", 2)]) (N := ["_law_four_here", "_law_bars_here", "_law_which", "_law_answer", "_law_due", "_law_good", "_law_said"]) (sc := defScope s__law_sides_right) (by decide +kernel)) (fun _ _ _ _ _ => (pg_name (i := 2) sc__law_sides_right.nd rfl (Or.inl rfl))) (fun _ _ _ _ _ => pts_nil) (fun _ _ _ _ _ => (pe_fn h__law_bars (hr.mono (by decide)) pass0 (pa_cons (pv 0) (pa_cons (pv 2) pa_nil)))))
      (pss_cons (ps_if (pt_not (pt_val (pe_fn h__law_says (hr.mono (by decide)) pass0 (pa_cons (pe_methA h_shows4 (fun x hx => (G.f x (ok4 hx)).c) (hr.mono (by decide)) pass0 (pe_mkN (x := .laid) CI G (by decide) (by decide)) (pa_cons (pe_ix (r := rIxT K) ix_tup (pv 0) pe_int (fun _ _ => rfl)) (pa_cons (pe_ix (r := rIxT K) ix_tup (pv 0) pe_int (fun _ _ => rfl)) (pa_cons (pe_ix (r := rIxT K) ix_tup (pv 0) pe_int (fun _ _ => rfl)) (pa_cons (pe_ix (r := rIxT K) ix_tup (pv 0) pe_int (fun _ _ => rfl)) pa_nil))))) (pa_cons (pe_not (pe_callB (cr_any rfl) (by rfl) B.any (by decide +kernel) (pa_cons (pv 1) pa_nil))) pa_nil))))) (pss_one (ps_ret pe_bl)) pss_nil)
      (pss_cons (ps_for PassesOwn.never (by rfl) (pi_list (pe_lst (pa_cons pe_int (pa_cons pe_int (pa_cons pe_int (pa_cons (pe_un un_neg pe_int) (pa_cons (pe_un un_neg pe_int) (pa_cons (pe_op op_pow pe_int pe_int) pa_nil)))))))) (pg_name (i := 2) sc__law_sides_right.nd rfl (Or.inl rfl)) (pss_one (ps_for PassesOwn.never (by rfl) (pi_list (pe_lst (pa_cons (pe_tup (pa_cons (pe_mkI (x := .striped) CI G (by decide) trivial (hr.mono (by decide)) (pa_cons (pv 2) pa_nil)) (pa_cons (pe_slice sl_list (pv 1) po_none (po_some pe_int)) pa_nil))) (pa_cons (pe_tup (pa_cons (pe_mkI (x := .short) CI G (by decide) trivial (hr.mono (by decide)) (pa_cons (pv 2) pa_nil)) (pa_cons (pe_slice sl_list (pv 1) (po_some pe_int) po_none) pa_nil))) pa_nil)))) (pg_tup (by rfl) (pgs_cons (pg_name (i := 3) sc__law_sides_right.nd rfl (Or.inl rfl)) (pgs_cons (pg_name (i := 4) sc__law_sides_right.nd rfl (Or.inl rfl)) pgs_nil))) (Evl.pss_cut (ps_set (i := 5) sc__law_sides_right.nd rfl (Or.inl rfl) (pe_ifExp (pt_cmpR (r := rIn K false) op_in_seq (pv 2) (pe_lst (pa_cons pe_int (pa_cons pe_int pa_nil))) (by rfl)) (pe_ix (r := rIxL K) ix_list (pv 4) (pv 2) (fun _ _ => rfl)) pe_bl))
      (pss_cons (ps_set (i := 6) sc__law_sides_right.nd rfl (Or.inl rfl) (pe_methA h_shows4 (fun x hx => (G.f x (ok4 hx)).c) (hr.mono (by decide)) pass0 (pv 3) (pa_cons (pe_ix (r := rIxT K) ix_tup (pv 0) pe_int (fun _ _ => rfl)) (pa_cons (pe_ix (r := rIxT K) ix_tup (pv 0) pe_int (fun _ _ => rfl)) (pa_cons (pe_ix (r := rIxT K) ix_tup (pv 0) pe_int (fun _ _ => rfl)) (pa_cons (pe_ix (r := rIxT K) ix_tup (pv 0) pe_int (fun _ _ => rfl)) pa_nil))))))
      (pss_one (ps_if (PW.pt (pw_or (pt_cmpR op_ne (pe_fld (pv 3) rfl) (pv 2) (nomark _)) (pw_or1 (pt_not (pt_val (pe_fn h__law_says (hr.mono (by decide)) pass0 (pa_cons (pv 6) (pa_cons (pv 5) pa_nil)))))))) (pss_one (ps_ret pe_bl)) pss_nil)))))))
      (pss_one (ps_ret pe_bl))))), ?_⟩
    walk_at "rd"
    intro D hD
    refine lc_range (lo := 0) (n := 4) (fun i H' => Same H H' ∧ H' D = some (.lst ((barsL L W fi se i).map V.bl))) ⟨same_upd hD, upd_same⟩ ?_ ?_
    · rintro i H' hi ⟨sm, eD⟩
      have e0 : (0 : Int) + (i : Int) = i := by omega
      refine ⟨rfl, lc_yes ?_⟩
      walk_at "rd"
      refine .mk (Same.tup sm ht) hL hW hf hs fun H3 sm3 => ⟨_, sm3 _ _ eD, ?_, ?_, ?_⟩
      · rw [List.length_map, bars_len]
        exact Nat.lt_of_lt_of_le hi (size4 (by omega))
      · exact fun b1 o e => by rw [upd_ne (ne_of_none e hD)]; exact sm3 _ _ (sm b1 o e)
      · rw [upd_same, bars_succ, List.map_append, e0]
        rfl
    · rintro H1 ⟨sm1, eD⟩
      have sh : ∀ (H' : Hp) (x : Cl) (p : Addr) (a : Ans), AnsAt K H' p a → A4 a → a.fs.lookup ("shows" : Str) = none := fun H' x p a _ h4 => by cases h4 <;> rfl
      refine ⟨.laid, by unfold Ok4; decide, fun p1 H2 np1 sm2 ha => ?_⟩
      obtain ⟨dx, ha⟩ := ha
      have ht2 := Same.tup (sm1.trans sm2) ht
      refine ⟨p1, dx, _, rfl, ha, rfl, ?_⟩
      refine ⟨_, rfl, t, _, 0, _, rfl, rfl, ht2, rfl, _, rfl, t, _, 1, _, rfl, rfl, ht2, rfl, _, rfl, t, _, 2, _, rfl, rfl, ht2, rfl, _, rfl, t, _, 3, _, rfl, rfl, ht2, rfl, ?_⟩
      refine .mk (a := .laid) ⟨dx, ha⟩ rfl .laid hL hW hf hs fun H3 sm3 => ?_
      have eD3 := sm3 _ _ (sm2 _ _ eD)
      refine ⟨_, rfl, D, _, rfl, sqL eD3, _, rfl, ?_⟩
      rw [← bars_due]
      refine .mk ⟨true, rfl, iteF ?_⟩
      have sm03 : Same H H3 := sm1.trans (sm2.trans sm3)
      walk_at "rd"
      intro l4 hl4
      generalize hH4 : upd H3 l4 _ = H4
      obtain ⟨sm4, up4⟩ : Same H3 H4 ∧ H4 l4 = some (.lst ([0, 1, 2, -1, -2, 10 ^ (20 : Int).toNat].map V.int)) := newH hH4 hl4
      clear hH4
      generalize [0, 1, 2, -1, -2, (10 : Int) ^ (20 : Int).toNat] = ws at up4
      have eD4 := sm4 _ _ eD3
      refine ⟨l4, rfl, ⟨_, sqL up4⟩, for_list (K := K) (a := l4) (xs := ws.map V.int) (fun i σ H' => SrI t D H4 σ H') (.mk (Same.refl _)) ?_ ?_ ?_⟩
      · rintro _ _ _ _ ⟨sm⟩
        exact sqL (sm _ _ up4)
      · rintro i v _ H5 hi @⟨_, _, _, _, _, _, sm5⟩
        obtain ⟨wh, _, rfl⟩ := ints_at hi
        have eD5 := sm5 _ _ eD4
        -- the two pairs
        refine ⟨_, rfl, _, rfl, fun q1 H6 nq1 sm6 hq1 => ?_⟩
        walk_at "rd"
        refine ⟨D, _, rfl, sqL (sm6 _ _ eD5), fun l7 hl7 => ?_⟩
        generalize hH7 : upd H6 l7 _ = H7
        obtain ⟨sm7, up7⟩ : Same H6 H7 ∧ H7 l7 = some (.lst [.bl (barB L W fi se 0), .bl (barB L W fi se 1)]) := newH hH7 hl7
        clear hH7
        walk_at "rd"
        intro t8 ht8
        generalize hH8 : upd H7 t8 _ = H8
        obtain ⟨sm8, up8⟩ : Same H7 H8 ∧ H8 t8 = some (.tup [.ref q1, .ref l7]) := newH hH8 ht8
        clear hH8
        refine ⟨_, rfl, _, rfl, fun q2 H9 nq2 sm9 hq2 => ?_⟩
        walk_at "rd"
        have eD9 := sm9 _ _ (sm8 _ _ (sm7 _ _ (sm6 _ _ eD5)))
        refine ⟨D, _, rfl, sqL eD9, fun l10 hl10 => ?_⟩
        generalize hH10 : upd H9 l10 _ = H10
        obtain ⟨sm10, up10⟩ : Same H9 H10 ∧ H10 l10 = some (.lst [.bl (barB L W fi se 2), .bl (barB L W fi se 3)]) := newH hH10 hl10
        clear hH10
        walk_at "rd"
        intro t11 ht11
        generalize hH11 : upd H10 t11 _ = H11
        obtain ⟨sm11, up11⟩ : Same H10 H11 ∧ H11 t11 = some (.tup [.ref q2, .ref l10]) := newH hH11 ht11
        clear hH11
        walk_at "rd"
        intro l12 hl12
        generalize hH12 : upd H11 l12 _ = H12
        obtain ⟨sm12, up12⟩ : Same H11 H12 ∧ H12 l12 = some (.lst [.ref t8, .ref t11]) := newH hH12 hl12
        clear hH12
        have sA : Same H10 H12 := sm11.trans sm12
        have sB : Same H8 H12 := sm9.trans (sm10.trans sA)
        have sC : Same H5 H12 := sm6.trans (sm7.trans (sm8.trans sB))
        have prs : ∀ v ∈ [V.ref t8, V.ref t11], PairAt K L W fi se wh H12 v := by
          intro v hv
          have e : v = .ref t8 ∨ v = .ref t11 := by simpa using hv
          rcases e with rfl | rfl
          · exact ⟨t8, q1, l7, _, _, _, rfl, sB _ _ up8, hq1.mono (sm7.trans (sm8.trans sB)), .inl rfl, sB _ _ (sm8 _ _ up7), rfl⟩
          · exact ⟨t11, q2, l10, _, _, _, rfl, sm12 _ _ up11, hq2.mono (sm10.trans sA), .inr rfl, sA _ _ up10, rfl⟩
        generalize [V.ref t8, V.ref t11] = vs at up12 prs
        have ht12 := Same.tup (sm03.trans (sm4.trans (sm5.trans sC))) ht
        refine ⟨l12, rfl, ⟨_, sqL up12⟩, for_list (K := K) (a := l12) (xs := vs) (fun i σ H' => SrJ t D wh H12 σ H') (.mk (Same.refl _)) ?_ ?_ ?_⟩
        · rintro _ _ _ _ ⟨sm⟩
          exact sqL (sm _ _ up12)
        · rintro j v _ H13 hj @⟨_, _, _, _, _, sm13⟩
          obtain ⟨tt, pp, ll, an, b0, b1, rfl, e1, e2, e3, e4, e5⟩ := prs v (List.mem_of_getElem? hj)
          have ht13 := Same.tup sm13 ht12
          replace e2 := e2.mono sm13
          refine ⟨tt, _, rfl, sqT (sm13 _ _ e1), rfl, ?_⟩
          refine ⟨_, _, rfl, _, _, rfl, rfl, ?_⟩
          refine ⟨SrG t D pp ll wh (due4 L W fi se an) H13, ?_, ?_⟩
          · walk_at "rd"
            intro l14 hl14
            refine ⟨l14, _, rfl, .inl (sqL upd_same), rfl, rfl, _, rfl, ?_⟩
            rw [show (if false = true then !inV (.int wh) [.int 0, .int 1] else inV (.int wh) [.int 0, .int 1]) = (decide (wh = 0) || decide (wh = 1)) from in01 wh]
            have e4' := same_upd (o := .lst [.int 0, .int 1]) hl14 _ _ (sm13 _ _ e4)
            refine iteB (fun c => ?_) (fun c => ?_)
            · have c2 : wh = 0 ∨ wh = 1 := by simpa using c
              rcases c2 with rfl | rfl
              · refine ⟨_, rfl, _, rfl, ll, _, 0, .bl b0, rfl, rfl, sqL e4', rfl, ?_⟩
                rw [e5]
                exact .mk (same_upd hl14)
              · refine ⟨_, rfl, _, rfl, ll, _, 1, .bl b1, rfl, rfl, sqL e4', rfl, ?_⟩
                rw [e5]
                exact .mk (same_upd hl14)
            · have c2 : ¬ wh = 0 ∧ ¬ wh = 1 := by simpa using c
              rw [e5, if_neg c2.1, if_neg c2.2]
              exact .mk (same_upd hl14)
          rintro _ H14 @⟨_, _, sm14⟩
          have ht14 := Same.tup sm14 ht13
          replace e2 := e2.mono sm14
          have h4 : A4 an := by rcases e3 with rfl | rfl <;> constructor
          have okx : Ok4 an.cl := by unfold Ok4; rcases e3 with rfl | rfl <;> simp [Ans.cl]
          have nosh : an.fs.lookup ("shows" : Str) = none := by rcases e3 with rfl | rfl <;> rfl
          obtain ⟨dx, ha⟩ := id e2
          refine ⟨an.cl, okx, _, rfl, pp, dx, _, rfl, ha, nosh, ?_⟩
          refine ⟨_, rfl, t, _, 0, _, rfl, rfl, ht14, rfl, _, rfl, t, _, 1, _, rfl, rfl, ht14, rfl, _, rfl, t, _, 2, _, rfl, rfl, ht14, rfl, _, rfl, t, _, 3, _, rfl, rfl, ht14, rfl, ?_⟩
          refine .mk e2 rfl h4 hL hW hf hs fun H15 sm15 => ?_
          replace ha := sm15 _ _ ha
          have wfld : ∃ C, an.fs.lookup ("which" : Str) = some (.int wh) ∧ Cls K (cl K an.cl) ∧ NoAttr K (cl K an.cl) "which" ∧ C = 0 := by
            rcases e3 with rfl | rfl
            · exact ⟨0, rfl, (G.f .striped (by decide)).c, (G.f .striped (by decide)).no, rfl⟩
            · exact ⟨0, rfl, (G.f .short (by decide)).c, (G.f .short (by decide)).no, rfl⟩
          obtain ⟨_, w1, w2, w3, _⟩ := wfld
          refine ⟨_, rfl, pp, _, dx, _, _, rfl, ha, w2, w3, w1, _, rfl, rfl, _, rfl, iteNe (fun z => absurd rfl z) (fun _ => ?_)⟩
          refine ⟨_, rfl, _, rfl, .mk ⟨true, rfl, iteF (.mk (sm13.trans (sm14.trans sm15)))⟩⟩
        · rintro _ H13 @⟨_, _, _, _, _, sm13⟩
          exact .mk (sm5.trans (sC.trans sm13))
      · rintro _ H5 @⟨_, _, _, _, _, _, sm5⟩
        exact q _ (sm03.trans (sm4.trans sm5))
end
end BF

/-! ### the law k06: cells, the law -/
namespace BF
open PySem PySem.Spec PyProof.Rows L2
inductive CrM (fl l t : Addr) (f s : Int) (b : Bool) (m : Int) (H : Hp) : L2.St → Hp → Prop where
  | mk {H' : Hp} (sm : Same H H') : CrM fl l t f s b m H [some (.ref fl), some (.int f), some (.int s), some (.ref l), some (.ref t), some (.bl b), some (.int m), none, none, none] H'
inductive CrI (fl l t : Addr) (f s : Int) (b : Bool) (m : Int) (H : Hp) : L2.St → Hp → Prop where
  | mk {H' : Hp} {y7 y8 y9 : Option V} (sm : Same H H') : CrI fl l t f s b m H [some (.ref fl), some (.int f), some (.int s), some (.ref l), some (.ref t), some (.bl b), some (.int m), y7, y8, y9] H'
/-- an answer of a cell and what is due -/
def PairAt5 (K : PySem.W.Frag) (L W f s : Int) (bs : List Brick) (t : Addr) (c : Int × Int) (H : Hp) (v : V) : Prop := ∃ u p d, v = .ref u ∧ H u = some (.tup [.ref p, .bl (due5 L W f s bs d)]) ∧ ((d = .twice c ∧ AnsAt K H p (.twice (.ref t))) ∨ (d = .bare c ∧ AnsAt K H p (.bare (.ref t))))
section
variable {P : Program} {w : World} {K : PySem.W.Frag} {mg : Str → Option Value} {base : Heap}
theorem H__law_cell_right (p : Pl K mg "_law_cell_right" s__law_cell_right) (B : Bi mg) (G : ClG K mg) (CI : ClI P w K mg base) (h__law_over : Has P w K mg base CX0 2 "_law_over" ["_law_first", "_law_second", "_law_bricks_here", "_law_cell"] (SpOften K)) (h__law_says : Has P w K mg base CX0 1 "_law_says" ["_law_said", "_law_due"] SpSays)
    (h_shows5 : ∀ x, Ok5 x → HasM P w K mg base CX0 3 x "shows" ["self", "length", "width", "first", "second", "bricks"] (SpShows5 K x)) : Has P w K mg base CX0 4 "_law_cell_right" ["_law_floor", "_law_first", "_law_second", "_law_bricks_here", "_law_cell"] (SpCellR K) := by
  refine p.mk0 sc__law_cell_right (fun _ _ _ _ _ _ us hl => match us, hl with | [_, _, _, _, _], _ => rfl) (fun vs H Q E h => ?_) (fun f cdv A outer s H vs Q E hr h => ?_)
  · cases h; rfl
  · obtain @⟨fl, l, t, ps, ⟨c1, c2⟩, L, W, fi, se, _, _, _, hfl, hL, hW, hf, hs, hl, hb, hn, ht, q⟩ := h
    refine ⟨_, (pss_cons (ps_set (i := 5) sc__law_cell_right.nd rfl (Or.inl rfl) (pe_and (pe_chain op_le op_lt pe_int (pe_ix (r := rIxT K) ix_tup (pv 4) pe_int (fun _ _ => rfl)) (pe_ix (r := rIxT K) ix_tup (pv 0) pe_int (fun _ _ => rfl))) (pe_one (pe_chain op_le op_lt pe_int (pe_ix (r := rIxT K) ix_tup (pv 4) pe_int (fun _ _ => rfl)) (pe_ix (r := rIxT K) ix_tup (pv 0) pe_int (fun _ _ => rfl))))))
      (Evl.pss_cut (ps_set (i := 6) sc__law_cell_right.nd rfl (Or.inl rfl) (pe_ifExp (pt_val (pv 5)) (pe_fn h__law_over (hr.mono (by decide)) pass0 (pa_cons (pv 1) (pa_cons (pv 2) (pa_cons (pv 3) (pa_cons (pv 4) pa_nil))))) pe_int))
      (pss_cons (ps_for PassesOwn.never (by rfl) (pi_list (pe_lst (pa_cons (pe_tup (pa_cons (pe_mkI (x := .twice) CI G (by decide) trivial (hr.mono (by decide)) (pa_cons (pv 4) pa_nil)) (pa_cons (pe_cmpR op_gt (pv 6) pe_int (nomark _)) pa_nil))) (pa_cons (pe_tup (pa_cons (pe_mkI (x := .bare) CI G (by decide) trivial (hr.mono (by decide)) (pa_cons (pv 4) pa_nil)) (pa_cons (pe_cmpR op_eq (pv 6) pe_int (nomark _)) pa_nil))) pa_nil)))) (pg_tup (by rfl) (pgs_cons (pg_name (i := 7) sc__law_cell_right.nd rfl (Or.inl rfl)) (pgs_cons (pg_name (i := 8) sc__law_cell_right.nd rfl (Or.inl rfl)) pgs_nil))) (pss_cons (ps_set (i := 9) sc__law_cell_right.nd rfl (Or.inl rfl) (pe_methA h_shows5 (fun x hx => (G.f x (ok5 hx)).c) (hr.mono (by decide)) pass0 (pv 7) (pa_cons (pe_ix (r := rIxT K) ix_tup (pv 0) pe_int (fun _ _ => rfl)) (pa_cons (pe_ix (r := rIxT K) ix_tup (pv 0) pe_int (fun _ _ => rfl)) (pa_cons (pv 1) (pa_cons (pv 2) (pa_cons (pv 3) pa_nil)))))))
      (pss_one (ps_if (PW.pt (pw_or (pt_cmpR (r := rNeD K) (op_neD hr.units) (pe_fld (pv 7) rfl) (pv 4) (nomark _)) (pw_or1 (pt_not (pt_val (pe_fn h__law_says (hr.mono (by decide)) pass0 (pa_cons (pv 9) (pa_cons (pv 8) pa_nil)))))))) (pss_one (ps_ret pe_bl)) pss_nil))))
      (pss_one (ps_ret pe_bl))))), ?_⟩
    have wi : ∀ r : V → Hp → Prop, r (.bl (cellB L W (c1, c2))) H → (tAndV (tChain (rI0 fun i j => V.bl (decide (i ≤ j))) (rI0 fun i j => V.bl (decide (i < j))) (tC (V.int 0)) (tOp (rIxT K) (tVar 4) (tC (V.int 0))) (tOp (rIxT K) (tVar 0) (tC (V.int 0)))) (tChain (rI0 fun i j => V.bl (decide (i ≤ j))) (rI0 fun i j => V.bl (decide (i < j))) (tC (V.int 0)) (tOp (rIxT K) (tVar 4) (tC (V.int 1))) (tOp (rIxT K) (tVar 0) (tC (V.int 1)))))
        (start ["_law_floor", "_law_first", "_law_second", "_law_bricks_here", "_law_cell", "_law_within", "_law_many", "_law_answer", "_law_due", "_law_said"] [.ref fl, .int fi, .int se, .ref l, .ref t]) H r := by
      intro r hr0
      unfold cellB at hr0
      refine ⟨_, rfl, t, _, 0, _, rfl, rfl, sqT ht, rfl, ?_⟩
      walk_at "rd"
      refine iteD (fun c => ?_) (fun c => ?_)
      · simp only [decide_eq_true c, Bool.true_and] at hr0
        refine ⟨_, rfl, fl, _, 0, _, rfl, rfl, hfl, rfl, ?_⟩
        walk_at "rd"
        refine iteD (fun c => ?_) (fun c => ?_)
        · simp only [decide_eq_true c, Bool.true_and] at hr0
          refine ⟨_, rfl, t, _, 1, _, rfl, rfl, sqT ht, rfl, ?_⟩
          walk_at "rd"
          refine iteD (fun c => ?_) (fun c => ?_)
          · simp only [decide_eq_true c, Bool.true_and] at hr0
            refine ⟨_, rfl, fl, _, 1, _, rfl, rfl, hfl, rfl, ?_⟩
            walk_at "rd"
            exact hr0
          · simp only [decide_eq_false c, Bool.false_and] at hr0
            exact hr0
        · simp only [decide_eq_false c, Bool.false_and] at hr0
          exact hr0
      · simp only [decide_eq_false c, Bool.false_and] at hr0
        exact ⟨_, rfl, iteF hr0⟩
    refine wi _ ?_
    clear wi
    obtain ⟨m, hm⟩ : ∃ m : Int, m = if cellB L W (c1, c2) = true then ((oftN fi se (vals ps) (c1, c2) : Nat) : Int) else 1 := ⟨_, rfl⟩
    refine ⟨CrM fl l t fi se (cellB L W (c1, c2)) m H, ?_, ?_⟩
    · refine ⟨_, rfl, _, rfl, iteB (fun c => ?_) (fun c => ?_)⟩
      · rw [if_pos c] at hm
        walk_at "rd"
        refine .mk hl hb hn (sqT ht) fun H1 sm1 => ?_
        rw [← hm]
        exact .mk sm1
      · rw [c] at hm
        have hm : m = 1 := hm
        rw [hm]
        exact .mk (Same.refl _)
    rintro _ H1 @⟨_, sm1⟩
    -- the two pairs
    refine ⟨_, rfl, _, rfl, fun q1 H2 nq1 sm2 hq1 => ?_⟩
    walk_at "rd"
    intro t3 ht3
    have ed1 : decide (1 < m) = due5 L W fi se (vals ps) (.twice (c1, c2)) := by
      show _ = (cellB L W (c1, c2) && decide (1 < oftN fi se (vals ps) (c1, c2)))
      rw [hm]
      cases cellB L W (c1, c2) with
      | true => exact decide_eq_decide.mpr (by show (1 : Int) < ((oftN fi se (vals ps) (c1, c2) : Nat) : Int) ↔ _; omega)
      | false => rfl
    have ed2 : decide (V.int m = V.int 0) = due5 L W fi se (vals ps) (.bare (c1, c2)) := by
      show _ = (cellB L W (c1, c2) && decide (oftN fi se (vals ps) (c1, c2) = 0))
      rw [hm]
      cases cellB L W (c1, c2) with
      | true => exact decide_eq_decide.mpr ⟨fun z => by have z : ((oftN fi se (vals ps) (c1, c2) : Nat) : Int) = 0 := V.int.inj z; omega, fun z => by show V.int ((oftN fi se (vals ps) (c1, c2) : Nat) : Int) = V.int 0; rw [z]; rfl⟩
      | false => rfl
    generalize hH3 : upd H2 t3 _ = H3
    obtain ⟨sm3, up3⟩ : Same H2 H3 ∧ H3 t3 = some (.tup [.ref q1, .bl (decide (1 < m))]) := newH hH3 ht3
    clear hH3
    refine ⟨_, rfl, _, rfl, fun q2 H4 nq2 sm4 hq2 => ?_⟩
    walk_at "rd"
    intro t5 ht5
    generalize hH5 : upd H4 t5 _ = H5
    obtain ⟨sm5, up5⟩ : Same H4 H5 ∧ H5 t5 = some (.tup [.ref q2, .bl (decide (V.int m = V.int 0))]) := newH hH5 ht5
    clear hH5
    walk_at "rd"
    intro l6 hl6
    generalize hH6 : upd H5 l6 _ = H6
    obtain ⟨sm6, up6⟩ : Same H5 H6 ∧ H6 l6 = some (.lst [.ref t3, .ref t5]) := newH hH6 hl6
    clear hH6
    rw [ed1] at up3
    rw [ed2] at up5
    have sA : Same H4 H6 := sm5.trans sm6
    have sB : Same H3 H6 := sm4.trans sA
    have sC : Same H H6 := sm1.trans (sm2.trans (sm3.trans sB))
    have prs : ∀ v ∈ [V.ref t3, V.ref t5], PairAt5 K L W fi se (vals ps) t (c1, c2) H6 v := by
      intro v hv
      have e : v = .ref t3 ∨ v = .ref t5 := by simpa using hv
      rcases e with rfl | rfl
      · exact ⟨t3, q1, _, rfl, sB _ _ up3, .inl ⟨rfl, hq1.mono (sm3.trans sB)⟩⟩
      · exact ⟨t5, q2, _, rfl, sm6 _ _ up5, .inr ⟨rfl, hq2.mono sA⟩⟩
    generalize [V.ref t3, V.ref t5] = vs at up6 prs
    refine ⟨l6, rfl, ⟨_, sqL up6⟩, for_list (K := K) (a := l6) (xs := vs) (fun i σ H' => CrI fl l t fi se (cellB L W (c1, c2)) m H6 σ H') (.mk (Same.refl _)) ?_ ?_ ?_⟩
    · rintro _ _ _ _ ⟨sm⟩
      exact sqL (sm _ _ up6)
    · rintro j v _ H7 hj @⟨_, _, _, _, sm7⟩
      obtain ⟨u, pp, d, rfl, e1, e2⟩ := prs v (List.mem_of_getElem? hj)
      have s7 : Same H H7 := sC.trans sm7
      have ht7 := s7 _ _ ht
      have hfl7 := Same.tup s7 hfl
      refine ⟨u, _, rfl, sqT (sm7 _ _ e1), rfl, ?_⟩
      refine ⟨_, _, rfl, _, _, rfl, rfl, ?_⟩
      have at5 : At5 K H7 pp d := by
        rcases e2 with ⟨rfl, h⟩ | ⟨rfl, h⟩
        · exact .twice (h.mono sm7) ht7
        · exact .bare (h.mono sm7) ht7
      have ex : ∃ an : Ans, AnsAt K H7 pp an ∧ an.cl = d.cl ∧ an.fs = [(("cell" : Str), V.ref t)] ∧ Ok5 d.cl ∧ Cls K (cl K an.cl) ∧ NoAttr K (cl K an.cl) "cell" := by
        rcases e2 with ⟨rfl, h⟩ | ⟨rfl, h⟩
        · exact ⟨_, h.mono sm7, rfl, rfl, D5.ok _, (G.f .twice (by decide)).c, (G.f .twice (by decide)).no⟩
        · exact ⟨_, h.mono sm7, rfl, rfl, D5.ok _, (G.f .bare (by decide)).c, (G.f .bare (by decide)).no⟩
      obtain ⟨an, han, ecl, efs, okx, kc, kn⟩ := ex
      obtain ⟨dx, ha⟩ := han
      refine ⟨d.cl, okx, _, rfl, pp, dx, an.fs, rfl, by rw [← ecl]; exact ha, by rw [efs]; rfl, ?_⟩
      refine ⟨_, rfl, fl, _, 0, _, rfl, rfl, hfl7, rfl, _, rfl, fl, _, 1, _, rfl, rfl, hfl7, rfl, ?_⟩
      walk_at "rd"
      refine .mk at5 rfl hL hW hf hs (s7.seq hl) (hb.mono s7) hn fun H8 sm8 => ?_
      have ht8 := sm8 _ _ ht7
      refine ⟨_, rfl, pp, _, dx, _, _, rfl, sm8 _ _ ha, kc, kn, by rw [efs]; rfl, _, rfl, ?_⟩
      refine ⟨.tuple [.int c1, .int c2], .tuple [.int c1, .int c2], .tup (sqT ht8) (.cons (.int c1) (.cons (.int c2) .nil)), .tup (sqT ht8) (.cons (.int c1) (.cons (.int c2) .nil)), rfl, rfl, ?_⟩
      rw [SeqAt.eqv_refl]
      · refine ⟨_, rfl, iteF ?_⟩
        exact ⟨_, rfl, _, rfl, .mk ⟨true, rfl, iteF (.mk (sm7.trans sm8))⟩⟩
      · rfl
    · rintro _ H7 @⟨_, _, _, _, sm7⟩
      exact q _ (sC.trans sm7)
end
def SomeAt (H : Hp) (v : V) : Prop := ∃ l ps, v = .ref l ∧ H l = some (.lst (refs ps)) ∧ BrT H ps ∧ ps.length ≤ 300
inductive LA (a : Addr) (wh : Int) (H : Hp) : L2.St → Hp → Prop where
  | mk {H' : Hp} {y2 : Option V} (sm : Same H H') : LA a wh H [some (.ref a), some (.int wh), y2, none, none, none, none, none, none, none, none, none, none, none, none] H'
inductive LB (a fl F : Addr) (wh f s : Int) (H : Hp) : L2.St → Hp → Prop where
  | mk {H' : Hp} {y2 y7 y8 y9 y10 y11 y12 : Option V} (sm : Same H H') : LB a fl F wh f s H [some (.ref a), some (.int wh), y2, some (.ref fl), some (.int f), some (.int s), some (.ref F), y7, y8, y9, y10, y11, y12, none, none] H'
inductive LC (a fl F l : Addr) (wh f s : Int) (H : Hp) : L2.St → Hp → Prop where
  | mk {H' : Hp} {y2 y8 y9 y10 y11 y12 : Option V} (sm : Same H H') : LC a fl F l wh f s H [some (.ref a), some (.int wh), y2, some (.ref fl), some (.int f), some (.int s), some (.ref F), some (.ref l), y8, y9, y10, y11, y12, none, none] H'
inductive LD (a fl F l : Addr) (wh f s al : Int) (H : Hp) : L2.St → Hp → Prop where
  | mk {H' : Hp} {y2 y8 y9 y10 y12 : Option V} (sm : Same H H') : LD a fl F l wh f s al H [some (.ref a), some (.int wh), y2, some (.ref fl), some (.int f), some (.int s), some (.ref F), some (.ref l), y8, y9, y10, some (.int al), y12, none, none] H'
theorem du1 : due4 6 5 2 3 .laid = true := by
  have s1 : shoB 6 2 3 = false := sho_no (m := 3) (n := 0) (by decide) (by decide) ⟨by decide, by decide, by decide⟩
  have s2 : shoB 5 2 3 = false := sho_no (m := 1) (n := 1) (by decide) (by decide) ⟨by decide, by decide, by decide⟩
  have e : strL 6 5 2 3 = [] := by decide
  unfold due4 shoL
  rw [e, s1, s2]
  rfl
theorem du2 : due4 10 10 1 4 (.striped (.int 1)) = true := by
  show (if (1 : Int) = 0 then strB 10 10 1 else if (1 : Int) = 1 then strB 10 10 4 else false) = true
  decide
theorem du3 : due4 6 1 2 3 (.short (.int 1)) = true := sho_yes (x := 1) (by decide) (by rintro m n ⟨h1, h2, h3⟩; omega)
theorem du4 : due5 1 1 1 2 (vals [((0 : Addr), (⟨0, 0, true⟩ : Brick))]) (.beyond 0) = true := by decide
theorem du5 : due4 6 1 2 3 .laid = false := by
  have s2 : shoB 1 2 3 = true := sho_yes (by decide) (by rintro m n ⟨h1, h2, h3⟩; omega)
  unfold due4 shoL
  rw [s2]
  cases shoB 6 2 3 <;> cases (strL 6 1 2 3).isEmpty <;> rfl
theorem du6 : due4 10 10 1 4 (.striped (.int 0)) = false := by
  show (if (0 : Int) = 0 then strB 10 10 1 else if (0 : Int) = 1 then strB 10 10 4 else false) = false
  decide
theorem du7 : due4 6 1 2 3 (.short (.int 0)) = false := sho_no (x := 6) (m := 3) (n := 0) (by decide) (by decide) ⟨by decide, by decide, by decide⟩
theorem du8 : due5 1 1 1 1 (vals ([] : List (Addr × Brick))) .full = false := by decide
theorem rg_up {i j c : Int} (hi : -(2 ^ 62) ≤ i ∧ i < 2 ^ 61) (hj : -(2 ^ 62) ≤ j ∧ j < 2 ^ 61) (hc : 0 < c ∧ c < 1000) : ∃ n, RgC i j c n := by
  refine ⟨(Builtin.Range.rangeSize i j c).toNat, by omega, by omega, ?_, rangeSize_toNat i j c⟩
  have r0 : 0 ≤ Builtin.Range.rangeSize i j c := by rw [rangeSize_toNat]; omega
  have r1 : Builtin.Range.rangeSize i j c < 2 ^ 63 := by
    have := rangeSize_toNat_le i j c
    omega
  unfold Builtin.Range.small
  generalize Builtin.Range.rangeSize i j c = r at r0 r1
  simp only [Builtin.Range.rangeFitsLong, Bool.and_eq_true, Bool.or_eq_true, decide_eq_true_eq, beq_iff_eq, if_pos (show c > 0 by omega)]
  omega
inductive LE (a fl F l : Addr) (wh f s c : Int) (b : Bool) (H : Hp) : L2.St → Hp → Prop where
  | mk {H' : Hp} {y2 y10 y11 y12 : Option V} (sm : Same H H') : LE a fl F l wh f s c b H [some (.ref a), some (.int wh), y2, some (.ref fl), some (.int f), some (.int s), some (.ref F), some (.ref l), some (.int c), some (.bl b), y10, y11, y12, none, none] H'
section
variable {P : Program} {w : World} {K : PySem.W.Frag} {mg : Str → Option Value} {base : Heap}
theorem H_law (p : Pl K mg "law" s_law) (B : Bi mg) (G : ClG K mg) (CI : ClI P w K mg base) (h__law_four : Has P w K mg base CX0 2 "_law_four" ["_law_script", "_law_at", "_law_most"] (SpFour K)) (h__law_sides_right : Has P w K mg base CX0 5 "_law_sides_right" ["_law_four_here"] (SpSidesR K))
    (h__law_bricks : Has P w K mg base CX0 2 "_law_bricks" ["_law_script"] (SpBricks K)) (h__law_says : Has P w K mg base CX0 1 "_law_says" ["_law_said", "_law_due"] SpSays) (h__law_full : Has P w K mg base CX0 3 "_law_full" ["_law_floor", "_law_first", "_law_second", "_law_bricks_here"] (SpLFull K))
    (h__law_out : Has P w K mg base CX0 2 "_law_out" ["_law_floor", "_law_first", "_law_second", "_law_brick"] (SpLOut K)) (h__law_cell_right : Has P w K mg base CX0 4 "_law_cell_right" ["_law_floor", "_law_first", "_law_second", "_law_bricks_here", "_law_cell"] (SpCellR K))
    (h_shows4 : ∀ x, Ok4 x → HasM P w K mg base CX0 4 x "shows" ["self", "length", "width", "first", "second"] (SpShows4 K x)) (h_shows5 : ∀ x, Ok5 x → HasM P w K mg base CX0 3 x "shows" ["self", "length", "width", "first", "second", "bricks"] (SpShows5 K x)) :
    Has P w K mg base CX0 6 "law" ["_law_script"] (SpLaw K) := by
  refine p.mk0 sc_law (fun _ _ _ _ _ _ us hl => match us, hl with | [_], _ => rfl) (fun vs H Q E h => ?_) (fun f cdv A outer s H vs Q E hr h => ?_)
  · cases h; rfl
  · obtain @⟨a, ns, _, _, _, hl, hbits, hS, q⟩ := h
    refine ⟨_, (pss_cons (ps_set (i := 1) sc_law.nd rfl (Or.inl rfl) (pe_callB (cr_sum rfl) (by rfl) B.sum (by decide +kernel) (pa_cons (pe_slice sl_list (pv 0) po_none (po_some pe_int)) pa_nil)))
      (pss_cons (ps_for PassesOwn.never (by rfl) (pi_range1 (by rfl) B.range (pa_cons (pe_callB (call_min2 rfl) (by rfl) B.min (by decide +kernel) (pa_cons pe_int (pa_cons (pe_callB (r := rLen2 K) call_len_seq (by rfl) B.len PySem.boot_len (pa_cons (pv 0) pa_nil)) pa_nil))) pa_nil)) (pg_name (i := 2) sc_law.nd rfl (Or.inl rfl)) (pss_one (ps_if (pt_not (pt_val (pe_fn h__law_sides_right (hr.mono (by decide)) pass0 (pa_cons (pe_fn h__law_four (hr.mono (by decide)) pass0 (pa_cons (pv 0) (pa_cons (pv 2) (pa_cons (pe_ix (r := rIxT K) ix_tup (pe_tup (pa_cons pe_int (pa_cons pe_int (pa_cons (pe_op op_pow pe_int pe_int) (pa_cons (pe_op op_pow pe_int pe_int) pa_nil))))) (pe_op op_mod (pe_op op_add (pv 1) (pv 2)) pe_int) (fun _ _ => rfl)) pa_nil)))) pa_nil)))) (pss_one (ps_ret pe_bl)) pss_nil)))
      (pss_cons (ps_asg (pe_fn h__law_bricks (hr.mono (by decide)) pass0 (pa_cons (pv 0) pa_nil)) (pg_tup (by rfl) (pgs_cons (pg_name (i := 3) sc_law.nd rfl (Or.inl rfl)) (pgs_cons (pg_name (i := 4) sc_law.nd rfl (Or.inl rfl)) (pgs_cons (pg_name (i := 5) sc_law.nd rfl (Or.inl rfl)) (pgs_cons (pg_name (i := 6) sc_law.nd rfl (Or.inl rfl)) pgs_nil))))))
      (pss_cons (ps_for PassesOwn.never (by rfl) (pi_list (pe_lst (pa_cons (pv 6) (pa_cons (pe_slice sl_list (pv 6) (po_some pe_int) po_none) (pa_cons (pe_op op_cat (pv 6) (pe_lst (pa_cons (pe_tup (pa_cons (pe_op op_sub (pe_op op_mod (pv 1) pe_int) pe_int) (pa_cons (pe_op op_sub (pe_op op_mod (pe_op op_fdivW (pv 1) pe_int) pe_int) pe_int) (pa_cons (pe_cmpR op_eq (pe_op op_mod (pv 1) pe_int) pe_int (nomark _)) pa_nil)))) pa_nil))) (pa_cons (pe_lst pa_nil) pa_nil)))))) (pg_name (i := 7) sc_law.nd rfl (Or.inl rfl)) (pss_cons (ps_if (pt_not (pt_val (pe_fn h__law_says (hr.mono (by decide)) pass0 (pa_cons (pe_methA h_shows5 (fun x hx => (G.f x (ok5 hx)).c) (hr.mono (by decide)) pass0 (pe_mkN (x := .full) CI G (by decide) (by decide)) (pa_cons (pe_ix (r := rIxT K) ix_tup (pv 3) pe_int (fun _ _ => rfl)) (pa_cons (pe_ix (r := rIxT K) ix_tup (pv 3) pe_int (fun _ _ => rfl)) (pa_cons (pv 4) (pa_cons (pv 5) (pa_cons (pv 7) pa_nil)))))) (pa_cons (pe_fn h__law_full (hr.mono (by decide)) pass0 (pa_cons (pv 3) (pa_cons (pv 4) (pa_cons (pv 5) (pa_cons (pv 7) pa_nil))))) pa_nil))))) (pss_one (ps_ret pe_bl)) pss_nil)
      (pss_cons (ps_for PassesOwn.never (by rfl) (pi_list (pe_lst (pa_cons pe_int (pa_cons pe_int (pa_cons (pe_op op_sub (pe_callB (r := rLen2 K) call_len_seq (by rfl) B.len PySem.boot_len (pa_cons (pv 7) pa_nil)) pe_int) (pa_cons (pe_callB (r := rLen2 K) call_len_seq (by rfl) B.len PySem.boot_len (pa_cons (pv 7) pa_nil)) (pa_cons (pe_un un_neg pe_int) (pa_cons (pe_un un_neg pe_int) (pa_cons (pv 1) pa_nil))))))))) (pg_name (i := 8) sc_law.nd rfl (Or.inl rfl)) (Evl.pss_cut (ps_set (i := 9) sc_law.nd rfl (Or.inl rfl) (pe_chain op_le op_lt pe_int (pv 8) (pe_callB (r := rLen2 K) call_len_seq (by rfl) B.len PySem.boot_len (pa_cons (pv 7) pa_nil))))
      (Evl.pss_cut (ps_set (i := 9) sc_law.nd rfl (Or.inl rfl) (pe_and (pv 9) (pe_one (pe_fn h__law_out (hr.mono (by decide)) pass0 (pa_cons (pv 3) (pa_cons (pv 4) (pa_cons (pv 5) (pa_cons (pe_ix (r := rIxL K) ix_list (pv 7) (pv 8) (fun _ _ => rfl)) pa_nil))))))))
      (pss_cons (ps_set (i := 10) sc_law.nd rfl (Or.inl rfl) (pe_methA h_shows5 (fun x hx => (G.f x (ok5 hx)).c) (hr.mono (by decide)) pass0 (pe_mkI (x := .beyond) CI G (by decide) trivial (hr.mono (by decide)) (pa_cons (pv 8) pa_nil)) (pa_cons (pe_ix (r := rIxT K) ix_tup (pv 3) pe_int (fun _ _ => rfl)) (pa_cons (pe_ix (r := rIxT K) ix_tup (pv 3) pe_int (fun _ _ => rfl)) (pa_cons (pv 4) (pa_cons (pv 5) (pa_cons (pv 7) pa_nil)))))))
      (pss_one (ps_if (PW.pt (pw_or (pt_cmpR op_ne (pe_fld (pe_mkI (x := .beyond) CI G (by decide) trivial (hr.mono (by decide)) (pa_cons (pv 8) pa_nil)) rfl) (pv 8) (nomark _)) (pw_or1 (pt_not (pt_val (pe_fn h__law_says (hr.mono (by decide)) pass0 (pa_cons (pv 10) (pa_cons (pv 9) pa_nil)))))))) (pss_one (ps_ret pe_bl)) pss_nil))))))
      (pss_one (ps_for PassesOwn.never (by rfl) (pi_range3 (by rfl) B.range (pa_cons (pe_un un_neg pe_int) (pa_cons (pe_op op_add (pe_ix (r := rIxT K) ix_tup (pv 3) pe_int (fun _ _ => rfl)) pe_int) (pa_cons (pe_op op_add pe_int (pe_op op_fdivW (pe_ix (r := rIxT K) ix_tup (pv 3) pe_int (fun _ _ => rfl)) pe_int)) pa_nil)))) (pg_name (i := 11) sc_law.nd rfl (Or.inl rfl)) (pss_one (ps_for PassesOwn.never (by rfl) (pi_range3 (by rfl) B.range (pa_cons (pe_un un_neg pe_int) (pa_cons (pe_op op_add (pe_ix (r := rIxT K) ix_tup (pv 3) pe_int (fun _ _ => rfl)) pe_int) (pa_cons (pe_op op_add pe_int (pe_op op_fdivW (pe_ix (r := rIxT K) ix_tup (pv 3) pe_int (fun _ _ => rfl)) pe_int)) pa_nil)))) (pg_name (i := 12) sc_law.nd rfl (Or.inl rfl)) (pss_one (ps_if (pt_not (pt_val (pe_fn h__law_cell_right (hr.mono (by decide)) pass0 (pa_cons (pv 3) (pa_cons (pv 4) (pa_cons (pv 5) (pa_cons (pv 7) (pa_cons (pe_tup (pa_cons (pv 11) (pa_cons (pv 12) pa_nil))) pa_nil)))))))) (pss_one (ps_ret pe_bl)) pss_nil)))))))))
      (pss_cons (ps_set (i := 13) sc_law.nd rfl (Or.inl rfl) (pe_lst (pa_cons (pe_methA h_shows4 (fun x hx => (G.f x (ok4 hx)).c) (hr.mono (by decide)) pass0 (pe_mkN (x := .laid) CI G (by decide) (by decide)) (pa_cons pe_int (pa_cons pe_int (pa_cons pe_int (pa_cons pe_int pa_nil))))) (pa_cons (pe_methA h_shows4 (fun x hx => (G.f x (ok4 hx)).c) (hr.mono (by decide)) pass0 (pe_mkI (x := .striped) CI G (by decide) trivial (hr.mono (by decide)) (pa_cons pe_int pa_nil)) (pa_cons pe_int (pa_cons pe_int (pa_cons pe_int (pa_cons pe_int pa_nil))))) (pa_cons (pe_methA h_shows4 (fun x hx => (G.f x (ok4 hx)).c) (hr.mono (by decide)) pass0 (pe_mkI (x := .short) CI G (by decide) trivial (hr.mono (by decide)) (pa_cons pe_int pa_nil)) (pa_cons pe_int (pa_cons pe_int (pa_cons pe_int (pa_cons pe_int pa_nil))))) pa_nil)))))
      (pss_cons (ps_expr (pe_bm PySem.F.plainAttrs_list PySem.F.slot_list_append PySem.F.type_list_append mt_append (pv 13) (pa_cons (pe_methA h_shows5 (fun x hx => (G.f x (ok5 hx)).c) (hr.mono (by decide)) pass0 (pe_mkI (x := .beyond) CI G (by decide) trivial (hr.mono (by decide)) (pa_cons pe_int pa_nil)) (pa_cons pe_int (pa_cons pe_int (pa_cons pe_int (pa_cons pe_int (pa_cons (pe_lst (pa_cons (pe_tup (pa_cons pe_int (pa_cons pe_int (pa_cons pe_bl pa_nil)))) pa_nil)) pa_nil)))))) pa_nil)))
      (pss_cons (ps_set (i := 14) sc_law.nd rfl (Or.inl rfl) (pe_lst (pa_cons (pe_methA h_shows4 (fun x hx => (G.f x (ok4 hx)).c) (hr.mono (by decide)) pass0 (pe_mkN (x := .laid) CI G (by decide) (by decide)) (pa_cons pe_int (pa_cons pe_int (pa_cons pe_int (pa_cons pe_int pa_nil))))) (pa_cons (pe_methA h_shows4 (fun x hx => (G.f x (ok4 hx)).c) (hr.mono (by decide)) pass0 (pe_mkI (x := .striped) CI G (by decide) trivial (hr.mono (by decide)) (pa_cons pe_int pa_nil)) (pa_cons pe_int (pa_cons pe_int (pa_cons pe_int (pa_cons pe_int pa_nil))))) (pa_cons (pe_methA h_shows4 (fun x hx => (G.f x (ok4 hx)).c) (hr.mono (by decide)) pass0 (pe_mkI (x := .short) CI G (by decide) trivial (hr.mono (by decide)) (pa_cons pe_int pa_nil)) (pa_cons pe_int (pa_cons pe_int (pa_cons pe_int (pa_cons pe_int pa_nil))))) pa_nil)))))
      (pss_cons (ps_expr (pe_bm PySem.F.plainAttrs_list PySem.F.slot_list_append PySem.F.type_list_append mt_append (pv 14) (pa_cons (pe_methA h_shows5 (fun x hx => (G.f x (ok5 hx)).c) (hr.mono (by decide)) pass0 (pe_mkN (x := .full) CI G (by decide) (by decide)) (pa_cons pe_int (pa_cons pe_int (pa_cons pe_int (pa_cons pe_int (pa_cons (pe_lst pa_nil) pa_nil)))))) pa_nil)))
      (pss_one (ps_ret (pe_and (pe_callB (cr_all rfl) (by rfl) B.all (by decide +kernel) (pa_cons (pe_lc (own := [("_law_said", 10)]) (by rfl) sc_law.nd (pi_list (pv 13)) (blkOk_by (own := [("_law_said", 10)]) (N := ["_law_script", "_law_whole", "_law_at", "_law_floor", "_law_first", "_law_second", "_law_bricks_here", "_law_some", "_law_count", "_law_due", "_law_said", "_law_along", "_law_up", "_law_good", "_law_bad"]) (sc := defScope s_law) (by decide +kernel)) (fun _ _ _ _ _ => (pg_name (i := 10) sc_law.nd rfl (Or.inl rfl))) (fun _ _ _ _ _ => pts_nil) (fun _ _ _ _ _ => (pe_fn h__law_says (hr.mono (by decide)) pass0 (pa_cons (pv 10) (pa_cons pe_bl pa_nil))))) pa_nil)) (pe_one (pe_callB (cr_all rfl) (by rfl) B.all (by decide +kernel) (pa_cons (pe_lc (own := [("_law_said", 10)]) (by rfl) sc_law.nd (pi_list (pv 14)) (blkOk_by (own := [("_law_said", 10)]) (N := ["_law_script", "_law_whole", "_law_at", "_law_floor", "_law_first", "_law_second", "_law_bricks_here", "_law_some", "_law_count", "_law_due", "_law_said", "_law_along", "_law_up", "_law_good", "_law_bad"]) (sc := defScope s_law) (by decide +kernel)) (fun _ _ _ _ _ => (pg_name (i := 10) sc_law.nd rfl (Or.inl rfl))) (fun _ _ _ _ _ => pts_nil) (fun _ _ _ _ _ => (pe_fn h__law_says (hr.mono (by decide)) pass0 (pa_cons (pv 10) (pa_cons pe_bl pa_nil))))) pa_nil)))))))))))))), ?_⟩
    obtain ⟨ms, ems⟩ := cut_ints ns none (some 63)
    refine ⟨_, rfl, 63, rfl, a, _, rfl, hS, fun p1 hp1 => ⟨p1, ms, rfl, sqL (by rw [← ems]; exact upd_same), ?_⟩⟩
    have sm1 : Same H (upd H p1 (.lst (cutV (ns.map V.int) none (some 63)))) := same_upd hp1
    generalize upd H p1 (.lst (cutV (ns.map V.int) none (some 63))) = H1 at sm1 ⊢
    generalize hwh : ms.sum = wh
    refine ⟨_, rfl, a, _, rfl, .inl (sm1.seq hS), _, _, rfl, ?_⟩
    refine ⟨_, rfl, ?_, ?_, ?_⟩
    · show -(2 ^ 62) ≤ (if ((ns.map V.int).length : Int) < 20 then ((ns.map V.int).length : Int) else 20)
      split <;> omega
    · show (if ((ns.map V.int).length : Int) < 20 then ((ns.map V.int).length : Int) else 20) < 2 ^ 62
      split <;> omega
    refine for_range (lo := 0) (n := _) (fun i σ H' => LA a wh H σ H') (.mk sm1) ?_ ?_
    · rintro i _ H2 hi @⟨_, _, sm2⟩
      have hin : i < ns.length := by
        have : (if ((ns.map V.int).length : Int) < 20 then ((ns.map V.int).length : Int) else 20) ≤ ns.length := by
          rw [List.length_map]
          split <;> omega
        omega
      walk_at "rd"
      intro p2 hp2
      generalize hH3 : upd H2 p2 _ = H3
      obtain ⟨sm3, up3⟩ : Same H2 H3 ∧ H3 p2 = some (.tup [.int 3, .int 9, .int (10 ^ (6 : Int).toNat), .int (10 ^ (20 : Int).toNat)]) := newH hH3 hp2
      clear hH3
      replace sm3 := sm2.trans sm3
      obtain ⟨mv, emv, hmv⟩ := pick4 (x0 := .int 3) (x1 := .int 9) (x2 := .int (10 ^ (6 : Int).toNat)) (x3 := .int (10 ^ (20 : Int).toNat)) (k := (wh + (0 + (i : Int))) % 4) (Int.emod_nonneg _ (by decide)) (Int.emod_lt_of_pos _ (by decide))
      obtain ⟨most, rfl, hm1, hm2⟩ : ∃ most : Int, mv = .int most ∧ 0 < most ∧ most ≤ 10 ^ 20 := by
        rcases hmv with rfl | rfl | rfl | rfl <;> exact ⟨_, rfl, by decide, by decide⟩
      walk_at "rd"
      refine ⟨p2, _, _, _, rfl, rfl, sqT up3, emv, ?_⟩
      clear emv hmv
      refine .mk hbits hl (sm3.seq hS) (by omega) (by omega) hm1 hm2 fun L W f s p4 H4 hL hW hf hs sm4 hp4 => ?_
      exact .mk (sqT hp4) hL.sz hW.sz hf.sz hs.sz fun H5 sm5 => ⟨_, rfl, iteF (.mk (sm3.trans (sm4.trans sm5)))⟩
    rintro _ H2 @⟨_, _, sm2⟩
    walk_at "rd"
    refine .mk hbits hl (sm2.seq hS) fun pz fl F L W fi se ps H3 sm3 nF epz efl eF hb hp hL hW hf hs => ?_
    refine ⟨pz, _, rfl, sqT epz, rfl, ?_⟩
    walk_at "rd"
    refine ⟨F, _, rfl, sqL eF, fun l4 hl4 => ?_⟩
    have s23 := sm2.trans sm3
    obtain ⟨ps4, eps4, hps4, hlen4⟩ : ∃ ps4 : List (Addr × Brick), cutV (refs ps) (some 1) none = refs ps4 ∧ (∀ p ∈ ps4, p ∈ ps) ∧ ps4.length ≤ ps.length := by
      unfold cutV refs
      refine ⟨_, cut_map _ ps _ _, fun z hz => List.mem_of_mem_drop (List.mem_of_mem_take hz), ?_⟩
      rw [List.length_take, List.length_drop]
      omega
    generalize hH4 : upd H3 l4 _ = H4
    obtain ⟨sm4, up4⟩ : Same H3 H4 ∧ H4 l4 = some (.lst (refs ps4)) := by rw [← eps4]; exact newH hH4 hl4
    clear hH4
    walk_at "rd"
    intro t5 ht5
    generalize hH5 : upd H4 t5 _ = H5
    obtain ⟨sm5, up5⟩ : Same H4 H5 ∧ H5 t5 = some (.tup (Brick.vs ⟨wh % 5 - 1, wh / 5 % 5 - 1, decide (V.int (wh % 2) = V.int 0)⟩)) := newH hH5 ht5
    clear hH5
    walk_at "rd"
    intro l6 hl6
    generalize hH6 : upd H5 l6 _ = H6
    obtain ⟨sm6, up6⟩ : Same H5 H6 ∧ H6 l6 = some (.lst [.ref t5]) := newH hH6 hl6
    clear hH6
    have s46 : Same H4 H6 := sm5.trans sm6
    have eF6 := s46 _ _ (sm4 _ _ eF)
    refine ⟨F, l6, _, _, rfl, rfl, eF6, up6, ?_, fun l7 hl7 => ?_⟩
    · rw [refs_len]
      exact size4 (by simp; omega)
    generalize hH7 : upd H6 l7 _ = H7
    obtain ⟨sm7, up7⟩ : Same H6 H7 ∧ H7 l7 = some (.lst (refs (ps ++ [(t5, ⟨wh % 5 - 1, wh / 5 % 5 - 1, decide (V.int (wh % 2) = V.int 0)⟩)]))) := by rw [refs_app]; exact newH hH7 hl7
    clear hH7
    walk_at "rd"
    intro l8 hl8
    generalize hH8 : upd H7 l8 _ = H8
    obtain ⟨sm8, up8⟩ : Same H7 H8 ∧ H8 l8 = some (.lst (refs ([] : List (Addr × Brick)))) := newH hH8 hl8
    clear hH8
    walk_at "rd"
    intro l9 hl9
    generalize hH9 : upd H8 l9 _ = H9
    obtain ⟨sm9, up9⟩ : Same H8 H9 ∧ H9 l9 = some (.lst [.ref F, .ref l4, .ref l7, .ref l8]) := newH hH9 hl9
    clear hH9
    have s79 : Same H7 H9 := sm8.trans sm9
    have s69 : Same H6 H9 := sm7.trans s79
    have s49 : Same H4 H9 := s46.trans s69
    have s39 : Same H3 H9 := sm4.trans s49
    have bs9 : ∀ v ∈ [V.ref F, V.ref l4, V.ref l7, V.ref l8], SomeAt H9 v := by
      intro v hv
      have e : v = .ref F ∨ v = .ref l4 ∨ v = .ref l7 ∨ v = .ref l8 := by simpa using hv
      rcases e with rfl | rfl | rfl | rfl
      · exact ⟨F, ps, rfl, s39 _ _ eF, hb.mono s39, by omega⟩
      · exact ⟨l4, ps4, rfl, s49 _ _ up4, (hb.mono s39).sub hps4, by omega⟩
      · exact ⟨l7, _, rfl, s79 _ _ up7, (hb.mono s39).app (.one (s69 _ _ (sm6 _ _ up5))), by rw [List.length_append]; simp; omega⟩
      · exact ⟨l8, [], rfl, sm9 _ _ up8, (fun p hp => nomatch hp), by simp⟩
    generalize [V.ref F, V.ref l4, V.ref l7, V.ref l8] = vs at up9 bs9
    have efl9 := s39 _ _ efl
    refine ⟨l9, rfl, ⟨_, sqL up9⟩, for_list (K := K) (a := l9) (xs := vs) (fun i σ H' => LB a fl F wh fi se H9 σ H') (.mk (Same.refl _)) ?_ ?_ ?_⟩
    · rintro _ _ _ _ ⟨sm⟩
      exact sqL (sm _ _ up9)
    · rintro i v _ Ha hi @⟨_, _, _, _, _, _, _, _, sma⟩
      obtain ⟨l, bps, rfl, el, hbl, hln⟩ := bs9 v (List.mem_of_getElem? hi)
      have efla := sma _ _ efl9
      have ela := sma _ _ el
      have hba := hbl.mono sma
      -- full
      refine ⟨.full, by unfold Ok5; decide, fun p1 Hb np1 smb hab => ?_⟩
      obtain ⟨dx, hab⟩ := hab
      refine ⟨p1, dx, _, rfl, hab, rfl, ?_⟩
      refine ⟨_, rfl, fl, _, 0, _, rfl, rfl, sqT (smb _ _ efla), rfl, _, rfl, fl, _, 1, _, rfl, rfl, sqT (smb _ _ efla), rfl, ?_⟩
      walk_at "rd"
      refine .mk (d := .full) (.full ⟨dx, hab⟩) rfl (by omega) (by omega) (by omega) (by omega) (sqL (smb _ _ ela)) (hba.mono smb).all (by omega) fun Hc smc => ?_
      have sac := smb.trans smc
      walk_at "rd"
      refine .mk (sqT (sac _ _ efla)) (by omega) (by omega) (sqL (sac _ _ ela)) (hba.mono sac).all (by omega) fun Hd smd => ?_
      refine .mk ⟨true, rfl, iteF ?_⟩
      have sad := sac.trans smd
      have efld := sad _ _ efla
      have eld := sad _ _ ela
      have hbd := hba.mono sad
      refine ⟨_, rfl, l, _, rfl, .inl (sqL eld), ?_⟩
      walk_at "rd"
      refine ⟨l, _, rfl, .inl (sqL eld), ?_⟩
      walk_at "rd"
      intro lc hlc
      generalize hHe : upd Hd lc _ = He
      obtain ⟨sme, upe⟩ : Same Hd He ∧ He lc = some (.lst ([0, 1, ((refs bps).length : Int) - 1, ((refs bps).length : Int), -1, -2, wh].map V.int)) := newH hHe hlc
      clear hHe
      generalize [0, 1, ((refs bps).length : Int) - 1, ((refs bps).length : Int), -1, -2, wh] = ws at upe
      have efle := sme _ _ efld
      have ele := sme _ _ eld
      have hbe := hbd.mono sme
      refine ⟨lc, rfl, ⟨_, sqL upe⟩, for_list (K := K) (a := lc) (xs := ws.map V.int) (fun i σ H' => LC a fl F l wh fi se He σ H') (.mk (Same.refl _)) ?_ ?_ ?_⟩
      · rintro _ _ _ _ ⟨sm⟩
        exact sqL (sm _ _ upe)
      · rintro j v _ Hf hj @⟨_, _, _, _, _, _, _, smf⟩
        obtain ⟨cn, _, rfl⟩ := ints_at hj
        have eflf := smf _ _ efle
        have elf := smf _ _ ele
        have hbf := hbe.mono smf
        have b0 : beyAt L W fi se (vals bps) cn = ((decide (0 ≤ cn) && decide (cn < (bps.length : Int))) && beyAt L W fi se (vals bps) cn) := by
          unfold beyAt
          rw [vals_len]
          cases (decide (0 ≤ cn) && decide (cn < (bps.length : Int))) <;> rfl
        refine ⟨LE a fl F l wh fi se cn (decide (0 ≤ cn) && decide (cn < (bps.length : Int))) Hf, ?_, ?_⟩
        · walk_at "rd"
          refine iteD (fun c => ?_) (fun c => ?_)
          · refine ⟨_, rfl, l, _, rfl, .inl (sqL elf), ?_⟩
            walk_at "rd"
            rw [decide_eq_true c, refs_len]
            exact .mk (Same.refl _)
          · rw [decide_eq_false c]
            exact .mk (Same.refl _)
        rintro _ Hg @⟨_, _, _, _, _, smg⟩
        have eflg := smg _ _ eflf
        have elg := smg _ _ elf
        have hbg := hbf.mono smg
        refine ⟨LE a fl F l wh fi se cn (beyAt L W fi se (vals bps) cn) Hg, ?_, ?_⟩
        · refine ⟨_, rfl, _, rfl, iteB (fun c => ?_) (fun c => ?_)⟩
          · have c2 : 0 ≤ cn ∧ cn < (bps.length : Int) := by simpa using c
            obtain ⟨pb, hpb, hpbi, epb⟩ := at_refs c2.1 c2.2
            refine ⟨_, rfl, _, rfl, _, rfl, _, rfl, _, rfl, l, _, _, _, rfl, rfl, sqL elg, epb, ?_⟩
            refine .mk (sqT eflg) (sqT (hbg _ hpb)) fun Hh smh => ?_
            have e : beyAt L W fi se (vals bps) cn = beyB L W fi se pb.2 := by
              unfold beyAt
              rw [vals_len, c]
              have : (vals bps)[cn.toNat]? = some pb.2 := by
                unfold vals
                rw [List.getElem?_map, hpbi]
                rfl
              rw [this]
              rfl
            rw [← e]
            exact .mk smh
          · rw [b0, c]
            exact .mk (Same.refl _)
        rintro _ Hh @⟨_, _, _, _, _, smh⟩
        have eflh := smh _ _ eflg
        have elh := smh _ _ elg
        have hbh := hbg.mono smh
        refine ⟨.beyond, by unfold Ok5; decide, _, rfl, _, rfl, fun p2 Hi np2 smi hai => ?_⟩
        obtain ⟨dx2, hai2⟩ := id hai
        refine ⟨p2, dx2, _, rfl, hai2, rfl, ?_⟩
        refine ⟨_, rfl, fl, _, 0, _, rfl, rfl, sqT (smi _ _ eflh), rfl, _, rfl, fl, _, 1, _, rfl, rfl, sqT (smi _ _ eflh), rfl, ?_⟩
        walk_at "rd"
        refine .mk (d := .beyond cn) (.beyond hai) rfl (by omega) (by omega) (by omega) (by omega) (sqL (smi _ _ elh)) (hbh.mono smi).all (by omega) fun Hj smj => ?_
        refine ⟨_, rfl, _, rfl, fun p3 Hk np3 smk hak => ?_⟩
        obtain ⟨dx3, hak⟩ := hak
        refine ⟨p3, _, dx3, _, _, rfl, hak, (G.f .beyond (by decide)).c, (G.f .beyond (by decide)).no, rfl, _, rfl, rfl, _, rfl, iteNe (fun z => absurd rfl z) (fun _ => ?_)⟩
        refine ⟨_, rfl, _, rfl, .mk ⟨true, rfl, iteF (.mk (smf.trans (smg.trans (smh.trans (smi.trans (smj.trans smk))))))⟩⟩
      · rintro _ Hf @⟨_, _, _, _, _, _, _, smf⟩
        have eflf := smf _ _ efle
        have elf := smf _ _ ele
        have hbf := hbe.mono smf
        walk_at "rd"
        refine ⟨fl, _, 0, _, rfl, rfl, sqT eflf, rfl, ?_⟩
        walk_at "rd"
        refine ⟨fl, _, 0, _, rfl, rfl, sqT eflf, rfl, ?_⟩
        walk_at "rd"
        obtain ⟨n1, rg1⟩ := rg_up (i := -1) (j := L + 1) (c := 1 + L / 5) (by omega) (by omega) (by omega)
        refine ⟨-1, L + 1, 1 + L / 5, n1, rfl, rg1, for_rangeC (lo := -1) (c := 1 + L / 5) (n := n1) (fun i σ H' => LC a fl F l wh fi se Hf σ H') (.mk (Same.refl _)) ?_ ?_⟩
        · rintro i2 _ Hg hi2 @⟨_, _, _, _, _, _, _, smg⟩
          have eflg := smg _ _ eflf
          walk_at "rd"
          refine ⟨fl, _, 1, _, rfl, rfl, sqT eflg, rfl, ?_⟩
          walk_at "rd"
          refine ⟨fl, _, 1, _, rfl, rfl, sqT eflg, rfl, ?_⟩
          walk_at "rd"
          obtain ⟨n2, rg2⟩ := rg_up (i := -1) (j := W + 1) (c := 1 + W / 4) (by omega) (by omega) (by omega)
          refine ⟨-1, W + 1, 1 + W / 4, n2, rfl, rg2, for_rangeC (lo := -1) (c := 1 + W / 4) (n := n2) (fun i σ H' => LD a fl F l wh fi se (-1 + (i2 : Nat) * (1 + L / 5)) Hg σ H') (.mk (Same.refl _)) ?_ ?_⟩
          · rintro i3 _ Hh hi3 @⟨_, _, _, _, _, _, smh⟩
            have s_fh : Same Hf Hh := smg.trans smh
            walk_at "rd"
            intro tc htc
            refine .mk (c := (-1 + (i2 : Nat) * (1 + L / 5), -1 + (i3 : Nat) * (1 + W / 4))) (sqT (same_upd htc _ _ (s_fh _ _ eflf))) (by omega) (by omega) (by omega) (by omega) (sqL (same_upd htc _ _ (s_fh _ _ elf))) (hbf.mono (s_fh.trans (same_upd htc))).all (by omega) upd_same fun Hi smi => ⟨_, rfl, iteF (.mk (smh.trans ((same_upd htc).trans smi)))⟩
          · rintro _ Hh @⟨_, _, _, _, _, _, smh⟩
            exact .mk (smg.trans smh)
        · rintro _ Hg @⟨_, _, _, _, _, _, _, smg⟩
          exact .mk (sma.trans (sad.trans (sme.trans (smf.trans smg))))
    · rintro _ Ha @⟨_, _, _, _, _, _, _, _, sma⟩
      have z : ∀ n : Int, 0 < n → n < 100 → Sz n := fun n h0 h1 => sz_of_lt h0 (by omega)
      refine ⟨.laid, by unfold Ok4; decide, fun p1 K1 np1 s1 a1 => ?_⟩
      obtain ⟨dx1, a1⟩ := a1
      refine ⟨p1, dx1, _, rfl, a1, rfl, ?_⟩
      refine .mk (a := .laid) ⟨dx1, a1⟩ rfl .laid (z _ (by decide) (by decide)) (z _ (by decide) (by decide)) (z _ (by decide) (by decide)) (z _ (by decide) (by decide)) fun J1 u1 => ?_
      rw [du1]
      refine ⟨.striped, by unfold Ok4; decide, _, rfl, fun p2 K2 np2 s2 a2 => ?_⟩
      obtain ⟨dx2, b2⟩ := id a2
      refine ⟨p2, dx2, _, rfl, b2, rfl, ?_⟩
      refine .mk (a := .striped (.int 1)) a2 rfl (.striped 1) (z _ (by decide) (by decide)) (z _ (by decide) (by decide)) (z _ (by decide) (by decide)) (z _ (by decide) (by decide)) fun J2 u2 => ?_
      rw [du2]
      refine ⟨.short, by unfold Ok4; decide, _, rfl, fun p3 K3 np3 s3 a3 => ?_⟩
      obtain ⟨dx3, b3⟩ := id a3
      refine ⟨p3, dx3, _, rfl, b3, rfl, ?_⟩
      refine .mk (a := .short (.int 1)) a3 rfl (.short 1) (z _ (by decide) (by decide)) (z _ (by decide) (by decide)) (z _ (by decide) (by decide)) (z _ (by decide) (by decide)) fun J3 u3 => ?_
      rw [du3]
      walk_at "rd"
      intro g hg
      generalize hHb : upd J3 g _ = Hb
      obtain ⟨smb, upb⟩ : Same J3 Hb ∧ Hb g = some (.lst [.bl true, .bl true, .bl true]) := newH hHb hg
      clear hHb
      refine ⟨_, rfl, .inl ⟨rfl, _, sqL upb⟩, ?_⟩
      refine ⟨.beyond, by unfold Ok5; decide, _, rfl, fun p4 K4 np4 s4 a4 => ?_⟩
      obtain ⟨dx4, b4⟩ := id a4
      refine ⟨p4, dx4, _, rfl, b4, rfl, ?_⟩
      walk_at "rd"
      intro t5 ht5
      generalize hHc : upd K4 t5 _ = Hc
      obtain ⟨smc, upc⟩ : Same K4 Hc ∧ Hc t5 = some (.tup (Brick.vs ⟨0, 0, true⟩)) := newH hHc ht5
      clear hHc
      walk_at "rd"
      intro l6 hl6
      generalize hHd : upd Hc l6 _ = Hd
      obtain ⟨smd, upd6⟩ : Same Hc Hd ∧ Hd l6 = some (.lst (refs [(t5, (⟨0, 0, true⟩ : Brick))])) := newH hHd hl6
      clear hHd
      refine .mk (d := .beyond 0) (ps := [(t5, ⟨0, 0, true⟩)]) (.beyond (a4.mono (smc.trans smd))) rfl (by decide) (by decide) (by decide) (by decide) (sqL upd6) (BrT.one (smd _ _ upc)).all (by simp) fun J4 u4 => ?_
      rw [show due5 1 1 1 2 (vals [(t5, (⟨0, 0, true⟩ : Brick))]) (.beyond 0) = true from du4]
      have upg := u4 _ _ (smd _ _ (smc _ _ (s4 _ _ upb)))
      refine ⟨g, _, _, rfl, rfl, upg, by decide, ?_⟩
      generalize hHe : upd J4 g _ = He
      have ege : He g = some (.lst [.bl true, .bl true, .bl true, .bl true]) := by rw [← hHe]; exact upd_same
      clear hHe
      refine ⟨.laid, by unfold Ok4; decide, fun p7 K7 np7 s7 a7 => ?_⟩
      obtain ⟨dx7, a7⟩ := a7
      refine ⟨p7, dx7, _, rfl, a7, rfl, ?_⟩
      refine .mk (a := .laid) ⟨dx7, a7⟩ rfl .laid (z _ (by decide) (by decide)) (z _ (by decide) (by decide)) (z _ (by decide) (by decide)) (z _ (by decide) (by decide)) fun J7 u7 => ?_
      rw [du5]
      refine ⟨.striped, by unfold Ok4; decide, _, rfl, fun p8 K8 np8 s8 a8 => ?_⟩
      obtain ⟨dx8, b8⟩ := id a8
      refine ⟨p8, dx8, _, rfl, b8, rfl, ?_⟩
      refine .mk (a := .striped (.int 0)) a8 rfl (.striped 0) (z _ (by decide) (by decide)) (z _ (by decide) (by decide)) (z _ (by decide) (by decide)) (z _ (by decide) (by decide)) fun J8 u8 => ?_
      rw [du6]
      refine ⟨.short, by unfold Ok4; decide, _, rfl, fun p9 K9 np9 s9 a9 => ?_⟩
      obtain ⟨dx9, b9⟩ := id a9
      refine ⟨p9, dx9, _, rfl, b9, rfl, ?_⟩
      refine .mk (a := .short (.int 0)) a9 rfl (.short 0) (z _ (by decide) (by decide)) (z _ (by decide) (by decide)) (z _ (by decide) (by decide)) (z _ (by decide) (by decide)) fun J9 u9 => ?_
      rw [du7]
      walk_at "rd"
      intro d hd
      generalize hHf : upd J9 d _ = Hf
      obtain ⟨smf, upf⟩ : Same J9 Hf ∧ Hf d = some (.lst [.bl false, .bl false, .bl false]) := newH hHf hd
      clear hHf
      have egf : Hf g = _ := smf _ _ (u9 _ _ (s9 _ _ (u8 _ _ (s8 _ _ (u7 _ _ (s7 _ _ ege))))))
      have ngd : g ≠ d := ne_of_none (u9 _ _ (s9 _ _ (u8 _ _ (s8 _ _ (u7 _ _ (s7 _ _ ege)))))) hd
      refine ⟨_, rfl, .inl ⟨rfl, _, sqL upf⟩, ?_⟩
      refine ⟨.full, by unfold Ok5; decide, fun pa Ka npa sa aa => ?_⟩
      obtain ⟨dxa, aa⟩ := aa
      refine ⟨pa, dxa, _, rfl, aa, rfl, ?_⟩
      walk_at "rd"
      intro lb hlb
      generalize hHg : upd Ka lb _ = Hg
      obtain ⟨smg, upg2⟩ : Same Ka Hg ∧ Hg lb = some (.lst (refs ([] : List (Addr × Brick)))) := newH hHg hlb
      clear hHg
      refine .mk (d := .full) (ps := []) (.full ⟨dxa, smg _ _ aa⟩) rfl (by decide) (by decide) (by decide) (by decide) (sqL upg2) (fun p hp => nomatch hp) (by decide) fun Jb ub => ?_
      rw [du8]
      have updd := ub _ _ (smg _ _ (sa _ _ upf))
      have egg := ub _ _ (smg _ _ (sa _ _ egf))
      refine ⟨d, _, _, rfl, rfl, updd, by decide, ?_⟩
      generalize hHh : upd Jb d _ = Hh
      have edh : Hh d = some (.lst [.bl false, .bl false, .bl false, .bl false]) := by rw [← hHh]; exact upd_same
      have egh : Hh g = some (.lst [.bl true, .bl true, .bl true, .bl true]) := by rw [← hHh, upd_ne ngd]; exact egg
      clear hHh
      refine ⟨_, rfl, g, rfl, ⟨_, sqL egh⟩, fun D hD => ?_⟩
      refine lc_list (K := K) (a := g) (xs := [.bl true, .bl true, .bl true, .bl true]) (fun i H' => Same Hh H' ∧ H' D = some (.lst ((List.replicate i true).map V.bl))) ⟨same_upd hD, upd_same⟩ (fun i H' _ ⟨sm, _⟩ => sqL (sm _ _ egh)) ?_ ?_
      · rintro i v H' hi ⟨sm, eD⟩
        have ev : v = .bl true := by
          have := List.mem_of_getElem? hi
          simpa using this
        subst ev
        have hi4 : i < 4 := (List.getElem?_eq_some_iff.mp hi).1
        refine ⟨rfl, lc_yes ?_⟩
        walk_at "rd"
        refine .mk ⟨_, eD, ?_, same_mut sm hD, ?_⟩
        · rw [List.length_map, List.length_replicate]
          exact Nat.lt_trans hi4 (by decide)
        · rw [upd_same, List.replicate_succ', List.map_append]
          rfl
      · rintro Hi ⟨smi, eD⟩
        refine ⟨D, _, rfl, sqL eD, _, rfl, iteT ?_⟩
        have edi := smi _ _ edh
        refine ⟨_, rfl, d, rfl, ⟨_, sqL edi⟩, fun D2 hD2 => ?_⟩
        refine lc_list (K := K) (a := d) (xs := [.bl false, .bl false, .bl false, .bl false]) (fun i H' => Same Hi H' ∧ H' D2 = some (.lst ((List.replicate i true).map V.bl))) ⟨same_upd hD2, upd_same⟩ (fun i H' _ ⟨sm, _⟩ => sqL (sm _ _ edi)) ?_ ?_
        · rintro i v H' hi ⟨sm, eD2⟩
          have ev : v = .bl false := by
            have := List.mem_of_getElem? hi
            simpa using this
          subst ev
          have hi4 : i < 4 := (List.getElem?_eq_some_iff.mp hi).1
          refine ⟨rfl, lc_yes ?_⟩
          walk_at "rd"
          refine .mk ⟨_, eD2, ?_, same_mut sm hD2, ?_⟩
          · rw [List.length_map, List.length_replicate]
            exact Nat.lt_trans hi4 (by decide)
          · rw [upd_same, List.replicate_succ', List.map_append]
            rfl
        · rintro Hj ⟨smj, eD2⟩
          exact ⟨D2, _, rfl, sqL eD2, q _⟩
end
end BF

/-! ### what the top leaves of the classes -/
namespace BF
open PySem PySem.Spec PyProof.Rows L2
def Cl.one : Cl → Bool
  | .striped => true
  | .short => true
  | .beyond => true
  | .twice => true
  | .bare => true
  | _ => false
def Cl.zero : Cl → Bool
  | .laid => true
  | .full => true
  | _ => false
def shB (K : PySem.W.Frag) (x : Cl) : Bool := x == .answer || (He.Fa.meth x.nm "shows").ok K
def oneB (K : PySem.W.Frag) (x : Cl) : Bool := !x.one || ((He.Fa.mkr x.nm).ok K && (He.Fa.meth x.nm "__init__").ok K)
def zeroB (K : PySem.W.Frag) (x : Cl) : Bool := !x.zero || decide (PySem.W.findIn K (.ref (cl K x)) "__init__" = some (some (.builtin "object.__init__")))
def exB (K : PySem.W.Frag) : Bool := Cl.has.all (clB K) && ((Cl.has.all fun x => shB K x && (oneB K x && zeroB K x)) && true)
section
variable {K : PySem.W.Frag} {x : Cl}
theorem exB_cl (c : exB K = true) : Cl.has.all (clB K) = true := (He.ba c).1
theorem exB_all (c : exB K = true) (hx : x ∈ Cl.has) : shB K x = true ∧ oneB K x = true ∧ zeroB K x = true := by
  have a := List.all_eq_true.mp (He.ba (He.ba c).2).1 x hx
  exact ⟨(He.ba a).1, (He.ba (He.ba a).2).1, (He.ba (He.ba a).2).2⟩
theorem exB_shows (c : exB K = true) (hx : x ∈ Cl.has) (hn : (x == .answer) = false) : Meth K (cl K x) "shows" (He.ma K (cl K x) "shows") := by
  have a := (exB_all c hx).1
  unfold shB at a
  rw [hn] at a
  exact He.meth_ok a
theorem exB_one (c : exB K = true) (hx : x ∈ Cl.has) (h1 : x.one = true) : Mk K (cl K x) (He.ma K (cl K x) "__init__") ∧ Meth K (cl K x) "__init__" (He.ma K (cl K x) "__init__") := by
  have a := (exB_all c hx).2.1
  unfold oneB at a
  rw [h1] at a
  exact ⟨He.mkr_ok (He.ba a).1, He.meth_ok (He.ba a).2⟩
theorem exB_zero (c : exB K = true) (hx : x ∈ Cl.has) (h1 : x.zero = true) : PySem.W.findIn K (.ref (cl K x)) "__init__" = some (some (.builtin "object.__init__")) := by
  have a := (exB_all c hx).2.2
  unfold zeroB at a
  rw [h1] at a
  exact of_decide_eq_true a
end
end BF

namespace BF
open PySem PySem.Spec PyProof.Rows L2
/-! ### what the top leaves: each def by name -/
def d_is_number : He.DefD := ⟨("is_number", none), "is_number", "is_number", defArgs s_is_number, defBody s_is_number, defScope s_is_number, [], []⟩
def d_shared : He.DefD := ⟨("shared", none), "shared", "shared", defArgs s_shared, defBody s_shared, defScope s_shared, [], []⟩
def d_parts_of : He.DefD := ⟨("parts_of", none), "parts_of", "parts_of", defArgs s_parts_of, defBody s_parts_of, defScope s_parts_of, [], []⟩
def d_is_striped : He.DefD := ⟨("is_striped", none), "is_striped", "is_striped", defArgs s_is_striped, defBody s_is_striped, defScope s_is_striped, [], []⟩
def d_what_bars : He.DefD := ⟨("what_bars", none), "what_bars", "what_bars", defArgs s_what_bars, defBody s_what_bars, defScope s_what_bars, [], []⟩
def d_Laid_shows : He.DefD := ⟨("Laid", some "shows"), "shows", "Laid.shows", defArgs s_Laid_shows, defBody s_Laid_shows, defScope s_Laid_shows, [], []⟩
def d_Striped___init__ : He.DefD := ⟨("Striped", some "__init__"), "__init__", "Striped.__init__", defArgs s_Striped___init__, defBody s_Striped___init__, defScope s_Striped___init__, [], []⟩
def d_Striped_shows : He.DefD := ⟨("Striped", some "shows"), "shows", "Striped.shows", defArgs s_Striped_shows, defBody s_Striped_shows, defScope s_Striped_shows, [], []⟩
def d_Short___init__ : He.DefD := ⟨("Short", some "__init__"), "__init__", "Short.__init__", defArgs s_Short___init__, defBody s_Short___init__, defScope s_Short___init__, [], []⟩
def d_Short_shows : He.DefD := ⟨("Short", some "shows"), "shows", "Short.shows", defArgs s_Short_shows, defBody s_Short_shows, defScope s_Short_shows, [], []⟩
def d_cells_of : He.DefD := ⟨("cells_of", none), "cells_of", "cells_of", defArgs s_cells_of, defBody s_cells_of, defScope s_cells_of, [], []⟩
def d_is_beyond : He.DefD := ⟨("is_beyond", none), "is_beyond", "is_beyond", defArgs s_is_beyond, defBody s_is_beyond, defScope s_is_beyond, [], []⟩
def d_covers : He.DefD := ⟨("covers", none), "covers", "covers", defArgs s_covers, defBody s_covers, defScope s_covers, [], []⟩
def d_is_cell : He.DefD := ⟨("is_cell", none), "is_cell", "is_cell", defArgs s_is_cell, defBody s_is_cell, defScope s_is_cell, [], []⟩
def d_often : He.DefD := ⟨("often", none), "often", "often", defArgs s_often, defBody s_often, defScope s_often, [], []⟩
def d_Full_shows : He.DefD := ⟨("Full", some "shows"), "shows", "Full.shows", defArgs s_Full_shows, defBody s_Full_shows, defScope s_Full_shows, [], []⟩
def d_Beyond___init__ : He.DefD := ⟨("Beyond", some "__init__"), "__init__", "Beyond.__init__", defArgs s_Beyond___init__, defBody s_Beyond___init__, defScope s_Beyond___init__, [], []⟩
def d_Beyond_shows : He.DefD := ⟨("Beyond", some "shows"), "shows", "Beyond.shows", defArgs s_Beyond_shows, defBody s_Beyond_shows, defScope s_Beyond_shows, [], []⟩
def d_Twice___init__ : He.DefD := ⟨("Twice", some "__init__"), "__init__", "Twice.__init__", defArgs s_Twice___init__, defBody s_Twice___init__, defScope s_Twice___init__, [], []⟩
def d_Twice_shows : He.DefD := ⟨("Twice", some "shows"), "shows", "Twice.shows", defArgs s_Twice_shows, defBody s_Twice_shows, defScope s_Twice_shows, [], []⟩
def d_Bare___init__ : He.DefD := ⟨("Bare", some "__init__"), "__init__", "Bare.__init__", defArgs s_Bare___init__, defBody s_Bare___init__, defScope s_Bare___init__, [], []⟩
def d_Bare_shows : He.DefD := ⟨("Bare", some "shows"), "shows", "Bare.shows", defArgs s_Bare_shows, defBody s_Bare_shows, defScope s_Bare_shows, [], []⟩
def d__law_number : He.DefD := ⟨("_law_number", none), "_law_number", "_law_number", defArgs s__law_number, defBody s__law_number, defScope s__law_number, [], []⟩
def d__law_four : He.DefD := ⟨("_law_four", none), "_law_four", "_law_four", defArgs s__law_four, defBody s__law_four, defScope s__law_four, [], []⟩
def d__law_common : He.DefD := ⟨("_law_common", none), "_law_common", "_law_common", defArgs s__law_common, defBody s__law_common, defScope s__law_common, [], []⟩
def d__law_few : He.DefD := ⟨("_law_few", none), "_law_few", "_law_few", defArgs s__law_few, defBody s__law_few, defScope s__law_few, [], []⟩
def d__law_bars : He.DefD := ⟨("_law_bars", none), "_law_bars", "_law_bars", defArgs s__law_bars, defBody s__law_bars, defScope s__law_bars, [], []⟩
def d__law_sides : He.DefD := ⟨("_law_sides", none), "_law_sides", "_law_sides", defArgs s__law_sides, defBody s__law_sides, defScope s__law_sides, [], []⟩
def d__law_over : He.DefD := ⟨("_law_over", none), "_law_over", "_law_over", defArgs s__law_over, defBody s__law_over, defScope s__law_over, [], []⟩
def d__law_out : He.DefD := ⟨("_law_out", none), "_law_out", "_law_out", defArgs s__law_out, defBody s__law_out, defScope s__law_out, [], []⟩
def d__law_full : He.DefD := ⟨("_law_full", none), "_law_full", "_law_full", defArgs s__law_full, defBody s__law_full, defScope s__law_full, [], []⟩
def d__law_bricks : He.DefD := ⟨("_law_bricks", none), "_law_bricks", "_law_bricks", defArgs s__law_bricks, defBody s__law_bricks, defScope s__law_bricks, [], []⟩
def d__law_says : He.DefD := ⟨("_law_says", none), "_law_says", "_law_says", defArgs s__law_says, defBody s__law_says, defScope s__law_says, [], []⟩
def d__law_sides_right : He.DefD := ⟨("_law_sides_right", none), "_law_sides_right", "_law_sides_right", defArgs s__law_sides_right, defBody s__law_sides_right, defScope s__law_sides_right, [], []⟩
def d__law_cell_right : He.DefD := ⟨("_law_cell_right", none), "_law_cell_right", "_law_cell_right", defArgs s__law_cell_right, defBody s__law_cell_right, defScope s__law_cell_right, [], []⟩
def d_law : He.DefD := ⟨("law", none), "law", "law", defArgs s_law, defBody s_law, defScope s_law, [], []⟩
def fns : List He.DefD := [d_is_number, d_shared, d_parts_of, d_is_striped, d_what_bars, d_Laid_shows, d_Striped___init__, d_Striped_shows, d_Short___init__, d_Short_shows, d_cells_of, d_is_beyond, d_covers, d_is_cell, d_often, d_Full_shows, d_Beyond___init__, d_Beyond_shows, d_Twice___init__, d_Twice_shows, d_Bare___init__, d_Bare_shows, d__law_number, d__law_four, d__law_common, d__law_few, d__law_bars, d__law_sides, d__law_over, d__law_out, d__law_full, d__law_bricks, d__law_says, d__law_sides_right, d__law_cell_right, d_law]
def fas : List He.Fa := [.glo "is_number", .glo "shared", .glo "parts_of", .glo "is_striped", .glo "what_bars", .glo "cells_of", .glo "is_beyond", .glo "covers", .glo "is_cell", .glo "often", .glo "_law_number", .glo "_law_four", .glo "_law_common", .glo "_law_few", .glo "_law_bars", .glo "_law_sides", .glo "_law_over", .glo "_law_out", .glo "_law_full", .glo "_law_bricks", .glo "_law_says", .glo "_law_sides_right", .glo "_law_cell_right", .glo "law", .free "all", .free "any", .free "bool", .free "enumerate", .free "int", .free "isinstance", .free "len", .free "max", .free "min", .free "range", .free "sum", .free "tuple"]
def loose0 : List PySem.Str := ["is_number", "shared", "parts_of", "Answer", "is_striped", "what_bars", "Laid", "Striped", "Short", "cells_of", "is_beyond", "covers", "is_cell", "often", "Full", "Beyond", "Twice", "Bare", "_law_number", "_law_four", "_law_common", "_law_few", "_law_bars", "_law_sides", "_law_over", "_law_out", "_law_full", "_law_bricks", "_law_says", "_law_sides_right"]
def loose1 : List PySem.Str := ["_law_cell_right"]
def looseN : List PySem.Str := loose0 ++ loose1
def tfs : List He.Defn := []
abbrev R : PySem.W.OpenRow := PySem.W.OpenLaw.row PySem.Challenge.rw_brickfloor_k06_answers_by_hand
abbrev hk : PySem.W.Hook := He.hookX 7 fas fns [] tfs exB
def ob (s : PySem.W.SharedT) : He.AlX := He.obsX 7 fas fns [] tfs exB (HandSHeadRun.getT s)
theorem ob_eq (s : PySem.W.SharedT) : ob s = hk.obs s.abs := He.obsX_eq (HandSHeadRun.getT_eq s)
theorem run (w : World) : HandSHeadRun.RunEq R (PySem.W.view R.prog [34]) hk ob 4000 looseN w := by
  intro os
  kernel_rfl
abbrev Says (w : World) (h : Heap) (K : PySem.W.Frag) : Prop := He.SaysX fas fns [] tfs exB w h K
section
variable {w : World} {K : PySem.W.Frag} {h : Heap} {mg : Str → Option Value}
theorem pl_is_number (X : K.In h) (G : h.Ns mainGlobals mg) (c : Says w h K) : Pl K mg "is_number" s_is_number := by
  obtain ⟨fd, F⟩ := c.t.d.def_ 0 (d := d_is_number) rfl
  exact ⟨_, fd, F, He.glo_ok X G (c.t.d.fact 0 (f := .glo "is_number") rfl)⟩
theorem pl_shared (X : K.In h) (G : h.Ns mainGlobals mg) (c : Says w h K) : Pl K mg "shared" s_shared := by
  obtain ⟨fd, F⟩ := c.t.d.def_ 1 (d := d_shared) rfl
  exact ⟨_, fd, F, He.glo_ok X G (c.t.d.fact 1 (f := .glo "shared") rfl)⟩
theorem pl_parts_of (X : K.In h) (G : h.Ns mainGlobals mg) (c : Says w h K) : Pl K mg "parts_of" s_parts_of := by
  obtain ⟨fd, F⟩ := c.t.d.def_ 2 (d := d_parts_of) rfl
  exact ⟨_, fd, F, He.glo_ok X G (c.t.d.fact 2 (f := .glo "parts_of") rfl)⟩
theorem pl_is_striped (X : K.In h) (G : h.Ns mainGlobals mg) (c : Says w h K) : Pl K mg "is_striped" s_is_striped := by
  obtain ⟨fd, F⟩ := c.t.d.def_ 3 (d := d_is_striped) rfl
  exact ⟨_, fd, F, He.glo_ok X G (c.t.d.fact 3 (f := .glo "is_striped") rfl)⟩
theorem pl_what_bars (X : K.In h) (G : h.Ns mainGlobals mg) (c : Says w h K) : Pl K mg "what_bars" s_what_bars := by
  obtain ⟨fd, F⟩ := c.t.d.def_ 4 (d := d_what_bars) rfl
  exact ⟨_, fd, F, He.glo_ok X G (c.t.d.fact 4 (f := .glo "what_bars") rfl)⟩
theorem pl_cells_of (X : K.In h) (G : h.Ns mainGlobals mg) (c : Says w h K) : Pl K mg "cells_of" s_cells_of := by
  obtain ⟨fd, F⟩ := c.t.d.def_ 10 (d := d_cells_of) rfl
  exact ⟨_, fd, F, He.glo_ok X G (c.t.d.fact 5 (f := .glo "cells_of") rfl)⟩
theorem pl_is_beyond (X : K.In h) (G : h.Ns mainGlobals mg) (c : Says w h K) : Pl K mg "is_beyond" s_is_beyond := by
  obtain ⟨fd, F⟩ := c.t.d.def_ 11 (d := d_is_beyond) rfl
  exact ⟨_, fd, F, He.glo_ok X G (c.t.d.fact 6 (f := .glo "is_beyond") rfl)⟩
theorem pl_covers (X : K.In h) (G : h.Ns mainGlobals mg) (c : Says w h K) : Pl K mg "covers" s_covers := by
  obtain ⟨fd, F⟩ := c.t.d.def_ 12 (d := d_covers) rfl
  exact ⟨_, fd, F, He.glo_ok X G (c.t.d.fact 7 (f := .glo "covers") rfl)⟩
theorem pl_is_cell (X : K.In h) (G : h.Ns mainGlobals mg) (c : Says w h K) : Pl K mg "is_cell" s_is_cell := by
  obtain ⟨fd, F⟩ := c.t.d.def_ 13 (d := d_is_cell) rfl
  exact ⟨_, fd, F, He.glo_ok X G (c.t.d.fact 8 (f := .glo "is_cell") rfl)⟩
theorem pl_often (X : K.In h) (G : h.Ns mainGlobals mg) (c : Says w h K) : Pl K mg "often" s_often := by
  obtain ⟨fd, F⟩ := c.t.d.def_ 14 (d := d_often) rfl
  exact ⟨_, fd, F, He.glo_ok X G (c.t.d.fact 9 (f := .glo "often") rfl)⟩
theorem pl__law_number (X : K.In h) (G : h.Ns mainGlobals mg) (c : Says w h K) : Pl K mg "_law_number" s__law_number := by
  obtain ⟨fd, F⟩ := c.t.d.def_ 22 (d := d__law_number) rfl
  exact ⟨_, fd, F, He.glo_ok X G (c.t.d.fact 10 (f := .glo "_law_number") rfl)⟩
theorem pl__law_four (X : K.In h) (G : h.Ns mainGlobals mg) (c : Says w h K) : Pl K mg "_law_four" s__law_four := by
  obtain ⟨fd, F⟩ := c.t.d.def_ 23 (d := d__law_four) rfl
  exact ⟨_, fd, F, He.glo_ok X G (c.t.d.fact 11 (f := .glo "_law_four") rfl)⟩
theorem pl__law_common (X : K.In h) (G : h.Ns mainGlobals mg) (c : Says w h K) : Pl K mg "_law_common" s__law_common := by
  obtain ⟨fd, F⟩ := c.t.d.def_ 24 (d := d__law_common) rfl
  exact ⟨_, fd, F, He.glo_ok X G (c.t.d.fact 12 (f := .glo "_law_common") rfl)⟩
theorem pl__law_few (X : K.In h) (G : h.Ns mainGlobals mg) (c : Says w h K) : Pl K mg "_law_few" s__law_few := by
  obtain ⟨fd, F⟩ := c.t.d.def_ 25 (d := d__law_few) rfl
  exact ⟨_, fd, F, He.glo_ok X G (c.t.d.fact 13 (f := .glo "_law_few") rfl)⟩
theorem pl__law_bars (X : K.In h) (G : h.Ns mainGlobals mg) (c : Says w h K) : Pl K mg "_law_bars" s__law_bars := by
  obtain ⟨fd, F⟩ := c.t.d.def_ 26 (d := d__law_bars) rfl
  exact ⟨_, fd, F, He.glo_ok X G (c.t.d.fact 14 (f := .glo "_law_bars") rfl)⟩
theorem pl__law_sides (X : K.In h) (G : h.Ns mainGlobals mg) (c : Says w h K) : Pl K mg "_law_sides" s__law_sides := by
  obtain ⟨fd, F⟩ := c.t.d.def_ 27 (d := d__law_sides) rfl
  exact ⟨_, fd, F, He.glo_ok X G (c.t.d.fact 15 (f := .glo "_law_sides") rfl)⟩
theorem pl__law_over (X : K.In h) (G : h.Ns mainGlobals mg) (c : Says w h K) : Pl K mg "_law_over" s__law_over := by
  obtain ⟨fd, F⟩ := c.t.d.def_ 28 (d := d__law_over) rfl
  exact ⟨_, fd, F, He.glo_ok X G (c.t.d.fact 16 (f := .glo "_law_over") rfl)⟩
theorem pl__law_out (X : K.In h) (G : h.Ns mainGlobals mg) (c : Says w h K) : Pl K mg "_law_out" s__law_out := by
  obtain ⟨fd, F⟩ := c.t.d.def_ 29 (d := d__law_out) rfl
  exact ⟨_, fd, F, He.glo_ok X G (c.t.d.fact 17 (f := .glo "_law_out") rfl)⟩
theorem pl__law_full (X : K.In h) (G : h.Ns mainGlobals mg) (c : Says w h K) : Pl K mg "_law_full" s__law_full := by
  obtain ⟨fd, F⟩ := c.t.d.def_ 30 (d := d__law_full) rfl
  exact ⟨_, fd, F, He.glo_ok X G (c.t.d.fact 18 (f := .glo "_law_full") rfl)⟩
theorem pl__law_bricks (X : K.In h) (G : h.Ns mainGlobals mg) (c : Says w h K) : Pl K mg "_law_bricks" s__law_bricks := by
  obtain ⟨fd, F⟩ := c.t.d.def_ 31 (d := d__law_bricks) rfl
  exact ⟨_, fd, F, He.glo_ok X G (c.t.d.fact 19 (f := .glo "_law_bricks") rfl)⟩
theorem pl__law_says (X : K.In h) (G : h.Ns mainGlobals mg) (c : Says w h K) : Pl K mg "_law_says" s__law_says := by
  obtain ⟨fd, F⟩ := c.t.d.def_ 32 (d := d__law_says) rfl
  exact ⟨_, fd, F, He.glo_ok X G (c.t.d.fact 20 (f := .glo "_law_says") rfl)⟩
theorem pl__law_sides_right (X : K.In h) (G : h.Ns mainGlobals mg) (c : Says w h K) : Pl K mg "_law_sides_right" s__law_sides_right := by
  obtain ⟨fd, F⟩ := c.t.d.def_ 33 (d := d__law_sides_right) rfl
  exact ⟨_, fd, F, He.glo_ok X G (c.t.d.fact 21 (f := .glo "_law_sides_right") rfl)⟩
theorem pl__law_cell_right (X : K.In h) (G : h.Ns mainGlobals mg) (c : Says w h K) : Pl K mg "_law_cell_right" s__law_cell_right := by
  obtain ⟨fd, F⟩ := c.t.d.def_ 34 (d := d__law_cell_right) rfl
  exact ⟨_, fd, F, He.glo_ok X G (c.t.d.fact 22 (f := .glo "_law_cell_right") rfl)⟩
theorem pl_law (X : K.In h) (G : h.Ns mainGlobals mg) (c : Says w h K) : Pl K mg "law" s_law := by
  obtain ⟨fd, F⟩ := c.t.d.def_ 35 (d := d_law) rfl
  exact ⟨_, fd, F, He.glo_ok X G (c.t.d.fact 23 (f := .glo "law") rfl)⟩
theorem plm_Laid_shows (c : Says w h K) : PlM K .laid "shows" "Laid.shows" s_Laid_shows := by
  obtain ⟨fd, F⟩ := c.t.d.def_ 5 (d := d_Laid_shows) rfl
  exact ⟨_, fd, F, exB_shows c.more (by decide) (by decide)⟩
theorem plm_Striped___init__ (c : Says w h K) : PlM K .striped "__init__" "Striped.__init__" s_Striped___init__ := by
  obtain ⟨fd, F⟩ := c.t.d.def_ 6 (d := d_Striped___init__) rfl
  exact ⟨_, fd, F, (exB_one c.more (by decide) (by decide)).2⟩
theorem plm_Striped_shows (c : Says w h K) : PlM K .striped "shows" "Striped.shows" s_Striped_shows := by
  obtain ⟨fd, F⟩ := c.t.d.def_ 7 (d := d_Striped_shows) rfl
  exact ⟨_, fd, F, exB_shows c.more (by decide) (by decide)⟩
theorem plm_Short___init__ (c : Says w h K) : PlM K .short "__init__" "Short.__init__" s_Short___init__ := by
  obtain ⟨fd, F⟩ := c.t.d.def_ 8 (d := d_Short___init__) rfl
  exact ⟨_, fd, F, (exB_one c.more (by decide) (by decide)).2⟩
theorem plm_Short_shows (c : Says w h K) : PlM K .short "shows" "Short.shows" s_Short_shows := by
  obtain ⟨fd, F⟩ := c.t.d.def_ 9 (d := d_Short_shows) rfl
  exact ⟨_, fd, F, exB_shows c.more (by decide) (by decide)⟩
theorem plm_Full_shows (c : Says w h K) : PlM K .full "shows" "Full.shows" s_Full_shows := by
  obtain ⟨fd, F⟩ := c.t.d.def_ 15 (d := d_Full_shows) rfl
  exact ⟨_, fd, F, exB_shows c.more (by decide) (by decide)⟩
theorem plm_Beyond___init__ (c : Says w h K) : PlM K .beyond "__init__" "Beyond.__init__" s_Beyond___init__ := by
  obtain ⟨fd, F⟩ := c.t.d.def_ 16 (d := d_Beyond___init__) rfl
  exact ⟨_, fd, F, (exB_one c.more (by decide) (by decide)).2⟩
theorem plm_Beyond_shows (c : Says w h K) : PlM K .beyond "shows" "Beyond.shows" s_Beyond_shows := by
  obtain ⟨fd, F⟩ := c.t.d.def_ 17 (d := d_Beyond_shows) rfl
  exact ⟨_, fd, F, exB_shows c.more (by decide) (by decide)⟩
theorem plm_Twice___init__ (c : Says w h K) : PlM K .twice "__init__" "Twice.__init__" s_Twice___init__ := by
  obtain ⟨fd, F⟩ := c.t.d.def_ 18 (d := d_Twice___init__) rfl
  exact ⟨_, fd, F, (exB_one c.more (by decide) (by decide)).2⟩
theorem plm_Twice_shows (c : Says w h K) : PlM K .twice "shows" "Twice.shows" s_Twice_shows := by
  obtain ⟨fd, F⟩ := c.t.d.def_ 19 (d := d_Twice_shows) rfl
  exact ⟨_, fd, F, exB_shows c.more (by decide) (by decide)⟩
theorem plm_Bare___init__ (c : Says w h K) : PlM K .bare "__init__" "Bare.__init__" s_Bare___init__ := by
  obtain ⟨fd, F⟩ := c.t.d.def_ 20 (d := d_Bare___init__) rfl
  exact ⟨_, fd, F, (exB_one c.more (by decide) (by decide)).2⟩
theorem plm_Bare_shows (c : Says w h K) : PlM K .bare "shows" "Bare.shows" s_Bare_shows := by
  obtain ⟨fd, F⟩ := c.t.d.def_ 21 (d := d_Bare_shows) rfl
  exact ⟨_, fd, F, exB_shows c.more (by decide) (by decide)⟩
theorem bi_ok (X : K.In h) (G : h.Ns mainGlobals mg) (c : Says w h K) : Bi mg := ⟨He.free_ok X G (c.t.d.fact 24 (f := .free "all") rfl), He.free_ok X G (c.t.d.fact 25 (f := .free "any") rfl), He.free_ok X G (c.t.d.fact 26 (f := .free "bool") rfl), He.free_ok X G (c.t.d.fact 27 (f := .free "enumerate") rfl), He.free_ok X G (c.t.d.fact 28 (f := .free "int") rfl), He.free_ok X G (c.t.d.fact 29 (f := .free "isinstance") rfl), He.free_ok X G (c.t.d.fact 30 (f := .free "len") rfl), He.free_ok X G (c.t.d.fact 31 (f := .free "max") rfl), He.free_ok X G (c.t.d.fact 32 (f := .free "min") rfl), He.free_ok X G (c.t.d.fact 33 (f := .free "range") rfl), He.free_ok X G (c.t.d.fact 34 (f := .free "sum") rfl), He.free_ok X G (c.t.d.fact 35 (f := .free "tuple") rfl)⟩
end
end BF

namespace BF
open PySem PySem.Spec PyProof.Rows L2
theorem ci_ok {w : World} {K : PySem.W.Frag} {h : Heap} {mg : Str → Option Value} {P : Program} {base : Heap} (X : K.In h) (G : h.Ns mainGlobals mg) (c : Says w h K) (GC : ClG K mg) : ClI P w K mg base := by
  refine ⟨fun x hx h1 => (exB_one c.more hx (by cases x <;> first | rfl | exact h1.elim)).1, fun x hx h1 => ?_, fun x hx h0 => exB_zero c.more hx (by rcases h0 with rfl | rfl <;> rfl)⟩
  cases x with
  | striped => exact H_Striped___init__ (plm_Striped___init__ c) GC
  | short => exact H_Short___init__ (plm_Short___init__ c) GC
  | beyond => exact H_Beyond___init__ (plm_Beyond___init__ c) GC
  | twice => exact H_Twice___init__ (plm_Twice___init__ c) GC
  | bare => exact H_Bare___init__ (plm_Bare___init__ c) GC
  | _ => exact h1.elim
end BF

namespace BF
open PySem PySem.Spec PyProof.Rows L2
def lawLevel : Nat := 6
section
variable {w : World} {K : PySem.W.Frag} {h : Heap} {mg : Str → Option Value} {P : Program} {base : Heap}
theorem has_law (X : K.In h) (G : h.Ns mainGlobals mg) (c : Says w h K) : Has P w K mg base CX0 6 "law" ["_law_script"] (SpLaw K) := by
  have B := bi_ok X G c
  have GC := clB_ok X G (exB_cl c.more)
  have CI := ci_ok (P := P) (base := base) X G c GC
  have h1 := H_is_number (P := P) (w := w) (base := base) (pl_is_number X G c) B
  have h3 := H_shared (P := P) (w := w) (base := base) (pl_shared X G c)
  have h4 := H_parts_of (pl_parts_of X G c) h3
  have h5 := H_is_striped (P := P) (w := w) (base := base) (pl_is_striped X G c)
  have h6 := H_what_bars (pl_what_bars X G c) B h5 h4
  have h7 := H_shows4 GC (plm_Laid_shows c) (plm_Striped_shows c) (plm_Short_shows c) h6 h5 h4
  have g1 := H_is_beyond (P := P) (w := w) (base := base) (pl_is_beyond X G c)
  have g2 := H_covers (P := P) (w := w) (base := base) (pl_covers X G c)
  have g3 := H_often (pl_often X G c) B g2
  have g4 := H_is_cell (pl_is_cell X G c) B h1
  have g5 := H_cells_of (P := P) (w := w) (base := base) (pl_cells_of X G c) B
  have g6 := H_shows5 B GC (plm_Full_shows c) (plm_Beyond_shows c) (plm_Twice_shows c) (plm_Bare_shows c) g1 g5 g4 g3
  have l1 := H__law_number (P := P) (w := w) (base := base) (pl__law_number X G c)
  have l3 := H__law_common (P := P) (w := w) (base := base) (pl__law_common X G c)
  have l4 := H__law_few (pl__law_few X G c) l3
  have l5 := H__law_four (pl__law_four X G c) B l1
  have l6 := H__law_bars (pl__law_bars X G c) l4
  have l7 := H__law_sides (P := P) (w := w) (base := base) (pl__law_sides X G c)
  have l8 := H__law_over (pl__law_over X G c) l7
  have l9 := H__law_out (pl__law_out X G c) B l7
  have l10 := H__law_full (pl__law_full X G c) B l9 l8
  have l11 := H__law_bricks (pl__law_bricks X G c) B l1
  have l12 := H__law_says (P := P) (w := w) (base := base) (pl__law_says X G c) B
  have l13 := H__law_sides_right (pl__law_sides_right X G c) B GC CI l6 l12 h7
  have l14 := H__law_cell_right (pl__law_cell_right X G c) B GC CI l8 l12 g6
  exact H_law (pl_law X G c) B GC CI l5 l13 l11 l12 l10 l9 l14 h7 g6
theorem law_at {f : Addr} (X : K.In h) (G : h.Ns mainGlobals mg) (c : Says w h K) (g : mg ("law" : Str) = some (.ref f)) : LamX.LawAtS PySem.Challenge.rw_brickfloor_k06_answers_by_hand w K CX0 lawLevel 63 "_law_script" mg f h := by
  obtain ⟨f', fd, F, g'⟩ := pl_law X G c
  have e := g.symm.trans g'
  cases e
  refine ⟨fd, [], SpLaw K, (fun _ z => nomatch z), (fun _ z => nomatch z), (fun _ z => nomatch z), fun s u => FunD.bindsA (ps := ["_law_script"]) F (fun _ _ _ _ _ _ us hl => match us, hl with | [_], _ => rfl) s [u] rfl, fun H a ns hl hb _ hS => .mk hl hb hS fun _ => rfl, fun base hK hG _ => (has_law X G c).at F g'⟩
end
end BF

open PySem PySem.W PySem.Calls PyProof.Rows
set_option maxRecDepth 100000 in
set_option maxHeartbeats 8000000 in
theorem PySem.Challenge.cw_brickfloor_k06_answers_by_hand_holds : PySem.Challenge.rw_brickfloor_k06_answers_by_hand.Holds := by
  w_on; o_law
  refine HandSHeadRun.head_any (r := OpenLaw.row PySem.Challenge.rw_brickfloor_k06_answers_by_hand) (q := view (OpenLaw.row PySem.Challenge.rw_brickfloor_k06_answers_by_hand).prog [34]) (H := BF.hk) (ob := BF.ob) (loose := BF.looseN) (d := HandSHeadRun.topDef (OpenLaw.row PySem.Challenge.rw_brickfloor_k06_answers_by_hand).prog 34) (kwd := []) BF.ob_eq
    (by kernel_rfl) (fun s => by kernel_rfl) BF.run (by kernel_rfl) (by kernel_rfl) (by kernel_rfl) (by rfl) (by first | assumption | decide +kernel) (by decide +kernel) ⟨rfl, rfl, rfl, rfl, rfl, by decide +kernel⟩ ?hw ?hc
  case hw => w_witness2
  case hc =>
    refine LamX.walk_ofTsE (l := PySem.Challenge.rw_brickfloor_k06_answers_by_hand) (n := 63) (k := BF.lawLevel) (x := "_law_script") (CX := fun _ => L2.CX0) rfl (by decide) (by kernel_rfl) ⟨rfl, by decide, by decide⟩ ?F (fun _ _ _ _ _ z => z)
    intro w mg fa h Y G hmg0
    obtain ⟨K, KX, c⟩ := Y
    have hmg : mg ("law" : PySem.Str) = some (.ref fa) := by
      have e : (HandSHeadRun.topDef (OpenLaw.row PySem.Challenge.rw_brickfloor_k06_answers_by_hand).prog 34).name = ("law" : PySem.Str) := by kernel_rfl
      rw [← e]
      exact hmg0
    exact ⟨K, KX, BF.law_at KX G c hmg⟩
