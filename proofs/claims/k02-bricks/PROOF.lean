import PyProof.Rows.All
import Wide.All
import OpenK.AllK
import Wide.FinOn
import KE.KStateDown
import HandS.ForMost
import HandS.ForExc
import HandS.More
import HandS.Wide
import HandS.WideBits
import HandS.Style
import HandS.Flow
import HandS.Zip
import HandS.TupLen
import HandS.Deep
import HandS.IsInst
import HandS.Defaults
import HandS.Head0
import HandS.Head1
import HandS.Head2
import HandS.HeadEnd
import HandS.HeadHook1
import HandS.HeadHook2
import HandS.HeadHook3
import HandS.HeadHook4
import HandS.HeadWalk
import HandS.Evl
import KE.DataMinMax
import KE.GoesMore
import KE.KeyNested
import KE.SortData
import HandS.Conv
import HandS.ExcIs
import HandS.ExcCtx
import HandS.HotCalls
import PySem.Challenge.RW_brickfloor_k02_whole_bricks
set_option pp.maxSteps 700
set_option Elab.async false
set_option linter.all false
set_option maxRecDepth 100000
set_option maxHeartbeats 4000000
/-! ### a def of the top, where it stands, and its promise -/
namespace BF
open PySem PySem.Spec PyProof.Rows L2
abbrev FnP (K : PySem.W.Frag) (x q : Str) (st : Stmt) (f : Addr) (fd : FuncData) : Prop := FunD K x q (defArgs st) (defBody st) (defScope st) [] [] f fd
/-- the def x of the top stands where the module's name says -/
def Pl (K : PySem.W.Frag) (mg : Str → Option Value) (x : Str) (st : Stmt) : Prop := ∃ f fd, FnP K x x st f fd ∧ mg x = some (.ref f)
/-- the def x keeps its promise, by calls at most k deep -/
def Has (P : Program) (w : World) (K : PySem.W.Frag) (mg : Str → Option Value) (base : Heap) (C : CXT) (k : Nat) (x : Str) (ps : List Str) (sp : Sp) : Prop :=
  ∃ f fd, FnOk P w K mg base C k f fd ps sp ∧ mg x = some (.ref f) ∧ PySem.W.keepIn K (.ref f) = true ∧ Binds K fd ps [] ∧ ∃ oc od osl, K.lookup f = some ⟨oc, od, .func fd, osl⟩
section
variable {P : Program} {w : World} {K : PySem.W.Frag} {mg : Str → Option Value} {base : Heap} {x : Str} {st : Stmt} {N ps : List Str} {k : Nat} {sp : Sp}
theorem Pl.mkX {C : CXT} (p : Pl K mg x st) (S : FnScope N ps (defScope st))
    (hb : ∀ (kV doc pm : Value) (an : Option Addr) (cdv ct : Value) (us : List Value), us.length = ps.length → bindArgs (PySem.W.fnOf x x (defArgs st) (defBody st) (defScope st) .none kV doc pm an cdv ct) ⟨us, []⟩ = pure (ps.zip us))
    (len : ∀ vs H Q E, sp vs H Q E → vs.length = ps.length)
    (body : ∀ (f : Addr) (cdv : Value) (A : Around) (outer : List Env) (s : Shared) (H : Hp) (vs : List V) (Q : VK) (E : XK), Room k (A.deeper (envOfC x (defScope st) s.heap.objs.size f cdv)) → sp vs H Q E →
      ∃ t, PSs (cxOf C P w K mg base N x (defScope st) f cdv A outer s H E) (defBody st) t ∧ t { nx := fun _ H' => Q .non H', rt := Q } (start N vs) H) : Has P w K mg base C (k + 1) x ps sp := by
  obtain ⟨f, fd, F, g⟩ := p
  obtain ⟨oc, od, _, _, _, _, _, _, _, osl, _, lk, _⟩ := F.ex
  exact ⟨f, fd, F.ok S len (body f), g, F.kp, F.bindsN hb, oc, od, osl, lk⟩
/-- of the def at f (the law) -/
theorem Has.at {C : CXT} {f : Addr} {fd : FuncData} (h : Has P w K mg base C k x ps sp) (F : FnP K x x st f fd) (g : mg x = some (.ref f)) : FnOk P w K mg base C k f fd ps sp := by
  obtain ⟨f', fd', G, g', _, _, oc, od, osl, lk⟩ := h
  obtain ⟨oc2, od2, _, _, _, _, _, _, _, osl2, _, lk2, _⟩ := F.ex
  have e : f' = f := by
    have z := g'.symm.trans g
    cases z
    rfl
  subst e
  have z := lk.symm.trans lk2
  cases z
  exact G
theorem Pl.mk0 (p : Pl K mg x st) (S : FnScope N ps (defScope st))
    (hb : ∀ (kV doc pm : Value) (an : Option Addr) (cdv ct : Value) (us : List Value), us.length = ps.length → bindArgs (PySem.W.fnOf x x (defArgs st) (defBody st) (defScope st) .none kV doc pm an cdv ct) ⟨us, []⟩ = pure (ps.zip us))
    (len : ∀ vs H Q E, sp vs H Q E → vs.length = ps.length)
    (body : ∀ (f : Addr) (cdv : Value) (A : Around) (outer : List Env) (s : Shared) (H : Hp) (vs : List V) (Q : VK) (E : XK), Room k (A.deeper (envOfC x (defScope st) s.heap.objs.size f cdv)) → sp vs H Q E →
      ∃ t, PSs (cxOf CX0 P w K mg base N x (defScope st) f cdv A outer s H E).nox (defBody st) t ∧ t { nx := fun _ H' => Q .non H', rt := Q } (start N vs) H) : Has P w K mg base CX0 (k + 1) x ps sp :=
  p.mkX S hb len fun f cdv A outer s H vs Q E hr h => by
    obtain ⟨t, a, b⟩ := body f cdv A outer s H vs Q E hr h
    exact ⟨t, a.nox, b⟩
end
section
variable {X : Cx} {C : CXT} {k : Nat} {ps : List Str} {sp : Sp} {E : XK} {x : Str} {p pos : Pos} {e : Expr} {es : List Expr} {t : TA}
theorem pe_fn (h : Has X.prog X.w X.K X.mg X.base C k x ps sp) (hr : Room k X.A) (hx : Passes C X E) (ha : PA X (e :: es) t) (hg : Gl X x := by rfl) (hdb : (x == ("__debug__" : Str)) = false := by decide)
    (he : starEach (e :: es) X.env = (false, eval e X.env) :: starEach es X.env := by rfl) (hpl : (backTo pos (starEach es X.env)).any (·.1) = false := by rfl) : PE X (.Call (.Name x p) (e :: es) [] pos) (tCall sp [] E t) := by
  obtain ⟨f, fd, F, hm, hk, hb, _⟩ := h
  exact pe_call F hr hg hm hk hb .nil hx ha hdb he hpl
theorem pe_fn0 (h : Has X.prog X.w X.K X.mg X.base C k x ps sp) (hr : Room k X.A) (hx : Passes C X E) (hg : Gl X x := by rfl) (hdb : (x == ("__debug__" : Str)) = false := by decide) : PE X (.Call (.Name x p) [] [] pos) (tCall sp [] E tNil) := by
  obtain ⟨f, fd, F, hm, hk, hb, _⟩ := h
  exact pe_call0 F hr hg hm hk hb .nil hx hdb
end
theorem pe_const {X : Cx} {x : Str} {i : Int} {pos : Pos} (hg : Gl X x) (h : ∃ t, X.mg x = some (.int i t)) (hd : (x == ("__debug__" : Str)) = false := by decide) : PE X (.Name x pos) (tC (.int i)) := by
  obtain ⟨t, e⟩ := h
  exact pe_glob hg e ⟨_, rfl⟩ hd
/-! ### sizes of ints -/
/-- of less than n bits -/
structure Bn (n : Nat) (x : Int) : Prop where
  lt : x.natAbs < 2 ^ n
theorem Bn.mono {n m : Nat} {x : Int} (h : Bn n x) (l : n ≤ m) : Bn m x := ⟨Nat.lt_of_lt_of_le h.lt (Nat.pow_le_pow_right (by decide) l)⟩
theorem bnl {n : Nat} {x : Int} (h : x.natAbs < 2 ^ n) : Bn n x := ⟨h⟩
theorem bn0 {n : Nat} : Bn n 0 := ⟨Nat.two_pow_pos _⟩
theorem Bn.mul {n m : Nat} {x y : Int} (h : Bn n x) (k : Bn m y) : Bn (n + m) (x * y) := ⟨wide_lt h.lt k.lt⟩
theorem Bn.add {n m : Nat} {x y : Int} (h : Bn n x) (k : Bn m y) : Bn (n + m + 1) (x + y) := by
  have h1 : x.natAbs < 2 ^ n := h.lt
  have h2 : y.natAbs < 2 ^ m := k.lt
  have a : 2 ^ n ≤ 2 ^ (n + m) := Nat.pow_le_pow_right (by decide) (by omega)
  have b : 2 ^ m ≤ 2 ^ (n + m) := Nat.pow_le_pow_right (by decide) (by omega)
  have c : 2 ^ (n + m + 1) = 2 ^ (n + m) * 2 := Nat.pow_succ 2 (n + m)
  have d := Int.natAbs_add_le x y
  refine ⟨?_⟩
  omega
theorem Bn.le {n : Nat} {x y : Int} (h : Bn n y) (l : x.natAbs ≤ y.natAbs) : Bn n x := ⟨Nat.lt_of_le_of_lt l h.lt⟩
theorem Bn.of_le {n : Nat} {x y : Int} (h : Bn n y) (h0 : 0 ≤ x) (l : x ≤ y) : Bn n x := h.le (by omega)
theorem Bn.neg {n : Nat} {x : Int} (h : Bn n x) : Bn n (-x) := h.le (by omega)
theorem Bn.sub {n m : Nat} {x y : Int} (h : Bn n x) (k : Bn m y) : Bn (n + m + 1) (x - y) := by
  rw [Int.sub_eq_add_neg]
  exact h.add k.neg
theorem Bn.mulOk {n m : Nat} {x y : Int} (h : Bn n x) (k : Bn m y) (l : n + m ≤ 134217728) : CMulX x y := mulx_ok h.lt k.lt l
theorem Bn.divOk {n : Nat} {x y : Int} (k : Bn n y) (p : 0 < y) (h0 : 0 < n) (l : n ≤ 9000) : CDivW x y := wide_div p k.lt h0 l
theorem divOk_lit {x : Int} {y : Int} (p : 0 < y) (l : y < 4294967296) : CDivW x y := wide_div (b := 32) p (by omega) (by decide) (by decide)
theorem Bn.div {n : Nat} {x y : Int} (h : Bn n x) (p : 0 < y) : Bn n (x / y) := by
  refine h.le ?_
  have a := Int.emod_add_mul_ediv x y
  have b := Int.emod_nonneg x (Int.ne_of_gt p)
  have c := Int.emod_lt_of_pos x p
  rcases Int.lt_or_le x 0 with hx | hx
  · -- x < 0: x / y ≥ x
    have d : x / y < 0 := Int.ediv_neg_of_neg_of_pos hx p
    have e : y * (x / y) ≤ 1 * (x / y) := Int.mul_le_mul_of_nonpos_right (by omega) (by omega)
    rcases Int.lt_or_le (x / y) x with f | f
    · have q1 : y * (x / y) ≤ y * (x - 1) := Int.mul_le_mul_of_nonneg_left (by omega) (by omega)
      have q2 : y * (x - 1) = y * x - y := by rw [Int.mul_sub, Int.mul_one]
      have q3 : y * x ≤ 1 * x := Int.mul_le_mul_of_nonpos_right (by omega) (by omega)
      omega
    · omega
  · have d : 0 ≤ x / y := Int.ediv_nonneg hx (Int.le_of_lt p)
    have e : 1 * (x / y) ≤ y * (x / y) := Int.mul_le_mul_of_nonneg_right (by omega) d
    omega
theorem Bn.mod {n : Nat} {x y : Int} (h : Bn n y) (p : 0 < y) : Bn n (x % y) := h.of_le (Int.emod_nonneg x (Int.ne_of_gt p)) (Int.le_of_lt (Int.emod_lt_of_pos x p))
theorem bn_bits {n : Nat} {x : Int} (h : Builtin.Int.intBits x ≤ n) : Bn (n + 1) x := by
  unfold Builtin.Int.intBits at h
  refine ⟨?_⟩
  split at h
  · rename_i z
    have e : x = 0 := by simpa using z
    rw [e]
    exact Nat.two_pow_pos _
  · have a : x.natAbs < 2 ^ (x.natAbs.log2 + 1) := Nat.lt_log2_self
    exact Nat.lt_of_lt_of_le a (Nat.pow_le_pow_right (by decide) (by omega))
theorem mulOk_left {x y : Int} (h : x.natAbs < 4294967296) (k : Bn 100000000 y) : CMulX x y := mulx_ok (a := 32) h k.lt (by decide)
/-- a size of the program: from 1 on, of less than 2000 bits -/
structure Sz (x : Int) : Prop where
  pos : 0 < x
  bn : Bn 2000 x
/-! ### heaps that grow -/
theorem same_upd {H : Hp} {p : Addr} {o : HO} (h : H p = none) : Same H (upd H p o) := fun b x e => by
  rw [upd_ne (ne_of_none e h)]
  exact e
theorem newH {H H2 : Hp} {p : Addr} {o : HO} (e : upd H p o = H2) (hp : H p = none) : Same H H2 ∧ H2 p = some o := by
  rw [← e]
  exact ⟨same_upd hp, upd_same⟩
theorem Same.tup {K : PySem.W.Frag} {H H' : Hp} {a : Addr} {xs : List V} (e : Same H H') (h : SqT K H a xs) : SqT K H' a xs := by
  rcases h with (h | ⟨o, h⟩) | h
  · exact .inl (.inl (e _ _ h))
  · exact .inl (.inr ⟨o, e _ _ h⟩)
  · exact .inr h
theorem sqL {K : PySem.W.Frag} {H : Hp} {a : Addr} {xs : List V} (h : H a = some (.lst xs)) : SqL K H a xs := .inl (.inl h)
theorem sqT {K : PySem.W.Frag} {H : Hp} {a : Addr} {xs : List V} (h : H a = some (.tup xs)) : SqT K H a xs := .inl (.inl h)
/-- the int that a slot holds, as a measure -/
def slotN (σ : L2.St) (i : Nat) : Nat := match σ[i]? with
  | some (some (.int n)) => n.toNat
  | _ => 0
section
variable {A B : Prop} {i j : Int}
theorem iteD {p : Prop} [Decidable p] (h1 : p → A) (h2 : ¬ p → B) : if decide p = true then A else B := ite2 (fun c => h1 (of_decide_eq_true c)) fun c => h2 fun z => c (decide_eq_true z)
theorem iteEq (h1 : i = j → A) (h2 : i ≠ j → B) : if decide (V.int i = V.int j) = true then A else B := iteD (fun c => h1 (V.int.inj c)) fun c => h2 fun z => c (by rw [z])
theorem iteNe (h1 : i ≠ j → A) (h2 : i = j → B) : if (!decide (V.int i = V.int j)) = true then A else B := by
  by_cases c : i = j
  · rw [decide_eq_true (show V.int i = V.int j by rw [c])]
    exact iteF (h2 c)
  · rw [decide_eq_false (show ¬ V.int i = V.int j from fun z => c (V.int.inj z))]
    exact iteT (h1 c)
theorem iteP {p : Prop} [Decidable p] (hp : p) (h : A) : if decide p = true then A else B := by
  rw [decide_eq_true hp]
  exact iteT h
theorem iteN {p : Prop} [Decidable p] (hp : ¬ p) (h : B) : if decide p = true then A else B := by
  rw [decide_eq_false hp]
  exact iteF h
theorem iteNP {p : Prop} [Decidable p] (hp : p) (h : B) : if (!decide p) = true then A else B := by
  rw [decide_eq_true hp]
  exact iteF h
theorem iteNN {p : Prop} [Decidable p] (hp : ¬ p) (h : A) : if (!decide p) = true then A else B := by
  rw [decide_eq_false hp]
  exact iteT h
theorem iteB {b : Bool} (h1 : b = true → A) (h2 : b = false → B) : if b = true then A else B := by
  cases b with
  | true => exact iteT (h1 rfl)
  | false => exact iteF (h2 rfl)
end
def rLen2 (K : PySem.W.Frag) : List V → Hp → VK → Prop := fun xs H Q => ∃ p ys, xs = [.ref p] ∧ (SqL K H p ys ∨ SqT K H p ys) ∧ Q (.int ys.length) H
theorem lc_yes {σ : L2.St} {H : Hp} {A B : Hp → Prop} (h : A H) : tYes σ H fun b H3 => if b = true then A H3 else B H3 := by
  show if true = true then A H else B H
  rw [if_pos rfl]
  exact h
/-- if t: .. where t is not so, in whatever way it is told -/
theorem if_no {T : TT} {R U : TS} {D : Ends} {σ : L2.St} {H H' : Hp} (hT : ∀ r : Bool → Hp → Prop, r false H' → T σ H r) (hU : U D σ H') : tSeq (tIfS T R tNext) U D σ H :=
  hT _ (by
    show if false = true then _ else _
    exact iteF hU)
theorem tn {D : Ends} {σ : L2.St} {H : Hp} (h : D.nx σ H) : tNext D σ H := h
theorem mul_in {x y A B : Int} (hx : 0 ≤ x) (ha : x ≤ A) (hy : 0 ≤ y) (hb : y ≤ B) : 0 ≤ x * y ∧ x * y ≤ A * B :=
  ⟨Int.mul_nonneg hx hy, Int.le_trans (Int.mul_le_mul_of_nonneg_left hb hx) (Int.mul_le_mul_of_nonneg_right ha (Int.le_trans hy hb))⟩
/-- go on from a word -/
theorem enter {t : TS} {D : Ends} {σ : L2.St} {H : Hp} (M : L2.St → Hp → Prop) (h : M σ H) (k : ∀ σ H, M σ H → t D σ H) : t D σ H := k σ H h
theorem u65 {k : Nat} {A : Around} (r : Room k A) : A.units + 65 < cLine := by have := r.un; omega
theorem size4 {n : Nat} (h : n ≤ 1000000) : n ≤ sizeLine := Nat.le_trans h (by decide)
end BF

/-! Plain mathematics: a size as a sum of two others, the fewest of the first one. -/
namespace BF
/-- m of the first and n of the second make the size -/
def Rep (s a b m n : Int) : Prop := 0 ≤ m ∧ 0 ≤ n ∧ m * a + n * b = s
def IsParts (s a b : Int) : Option (Int × Int) → Prop
  | none => ∀ m n, ¬ Rep s a b m n
  | some x => Rep s a b x.1 x.2 ∧ ∀ m n, Rep s a b m n → x.1 ≤ m
theorem IsParts.unique {s a b : Int} (hb : 0 < b) : ∀ {x y : Option (Int × Int)}, IsParts s a b x → IsParts s a b y → x = y
  | none, none, _, _ => rfl
  | none, some y, h, k => absurd k.1 (h _ _)
  | some x, none, h, k => absurd h.1 (k _ _)
  | some (m, n), some (m', n'), h, k => by
    have h1 := h.2 _ _ k.1
    have h2 := k.2 _ _ h.1
    have e : m = m' := Int.le_antisymm h1 h2
    subst e
    have e1 := h.1.2.2
    have e2 := k.1.2.2
    simp only at e1 e2
    have e3 : n * b = n' * b := by omega
    have e4 : n = n' := Int.eq_of_mul_eq_mul_right (Int.ne_of_gt hb) e3
    rw [e4]
open Classical in
/-- how s is a sum of a and b -/
noncomputable def parts (s a b : Int) : Option (Int × Int) := if h : ∃ x, IsParts s a b x then h.choose else none
theorem parts_eq {s a b : Int} {x : Option (Int × Int)} (hb : 0 < b) (h : IsParts s a b x) : parts s a b = x := by
  unfold parts
  have e : ∃ x, IsParts s a b x := ⟨x, h⟩
  rw [dif_pos e]
  exact IsParts.unique hb e.choose_spec h
/-- g goes into both, t of the first leave it by the second -/
structure Good (a b g t : Int) : Prop where
  pos : 0 < g
  ga : g ∣ a
  gb : g ∣ b
  mod : b ∣ t * a - g
theorem few_core {s a b g t : Int} (ha : 0 < a) (hb : 0 < b) (G : Good a b g t) (hs : g ∣ s) :
    b ∣ s - (s / g * t % (b / g)) * a ∧ 0 ≤ s / g * t % (b / g) ∧ ∀ m, 0 ≤ m → b ∣ s - m * a → s / g * t % (b / g) ≤ m := by
  obtain ⟨hg, ⟨a', ea⟩, ⟨b', eb⟩, ⟨k, ek⟩⟩ := G
  obtain ⟨s', es⟩ := hs
  have hb' : 0 < b' := by
    have h2 : 0 < g * b' := by rw [← eb]; exact hb
    rcases Int.lt_or_le 0 b' with h | h
    · exact h
    · have h3 : g * b' ≤ g * 0 := Int.mul_le_mul_of_nonneg_left h (Int.le_of_lt hg)
      omega
  have e1 : s / g = s' := by rw [es]; exact Int.mul_ediv_cancel_left s' (Int.ne_of_gt hg)
  have e2 : b / g = b' := by rw [eb]; exact Int.mul_ediv_cancel_left b' (Int.ne_of_gt hg)
  rw [e1, e2]
  have hmod := Int.emod_add_mul_ediv (s' * t) b'
  generalize hf : s' * t % b' = f at hmod ⊢
  generalize s' * t / b' = q at hmod
  have h0 : 0 ≤ f := by rw [← hf]; exact Int.emod_nonneg _ (Int.ne_of_gt hb')
  have h1 : f < b' := by rw [← hf]; exact Int.emod_lt_of_pos _ hb'
  have key : b ∣ s - f * a := by
    -- f = s't - b'q, so s - f a = s - s't a + b' q a = s - s'(g + bk) + b'q g a' = b (q a' - s' k)
    refine ⟨q * a' - s' * k, ?_⟩
    have ef : f = s' * t - b' * q := by omega
    have et : t * a = g + b * k := by omega
    calc s - f * a = s - (s' * t - b' * q) * a := by rw [ef]
      _ = s - s' * (t * a) + b' * q * a := by rw [Int.sub_mul, Int.mul_assoc s' t a]; omega
      _ = s - s' * (g + b * k) + b' * q * (g * a') := by rw [et, ← ea]
      _ = b * (q * a' - s' * k) := by
        rw [Int.mul_add, Int.mul_sub, es, eb]
        have x1 : s' * g = g * s' := Int.mul_comm _ _
        have x2 : s' * (g * b' * k) = g * b' * (s' * k) := by
          rw [Int.mul_left_comm]
        have x3 : b' * q * (g * a') = g * b' * (q * a') := by
          rw [Int.mul_comm g b', Int.mul_assoc b' q, Int.mul_assoc b' g, Int.mul_left_comm q g a']
        rw [x1, x2, x3]
        omega
  refine ⟨key, h0, fun m hm hd => ?_⟩
  -- b | (m - f) a, so b | (m - f) g, so b' | m - f
  have d1 : b ∣ (m - f) * a := by
    have : (m - f) * a = (s - f * a) - (s - m * a) := by rw [Int.sub_mul]; omega
    rw [this]
    exact Int.dvd_sub key hd
  have d2 : b ∣ (m - f) * g := by
    have e3 : (m - f) * g = (m - f) * a * t - b * ((m - f) * k) := by
      have et : t * a = g + b * k := by omega
      have : (m - f) * a * t = (m - f) * (t * a) := by rw [Int.mul_assoc, Int.mul_comm a t]
      rw [this, et, Int.mul_add, Int.mul_left_comm (m - f) b k]
      omega
    rw [e3]
    exact Int.dvd_sub (Int.dvd_trans d1 (Int.dvd_mul_right _ _)) (Int.dvd_mul_right _ _)
  have d3 : b' ∣ m - f := by
    obtain ⟨c, ec⟩ := d2
    refine ⟨c, ?_⟩
    have : g * (m - f) = g * (b' * c) := by rw [Int.mul_comm g (m - f), ec, eb, Int.mul_assoc]
    exact Int.eq_of_mul_eq_mul_left (Int.ne_of_gt hg) this
  obtain ⟨c, ec⟩ := d3
  -- m = f + b' c with m ≥ 0, f < b': c ≥ 0
  have hc : 0 ≤ c := by
    rcases Int.lt_or_le c 0 with hc | hc
    · have h2 : b' * c ≤ b' * (-1) := Int.mul_le_mul_of_nonneg_left (by omega) (Int.le_of_lt hb')
      omega
    · exact hc
  have h3 : 0 ≤ b' * c := Int.mul_nonneg (Int.le_of_lt hb') hc
  omega
theorem parts_good {s a b g t : Int} (ha : 0 < a) (hb : 0 < b) (G : Good a b g t) :
    parts s a b = if s % g ≠ 0 then none else if s / g * t % (b / g) * a > s then none else some (s / g * t % (b / g), (s - s / g * t % (b / g) * a) / b) := by
  refine parts_eq hb ?_
  by_cases hs : s % g ≠ 0
  · rw [if_pos hs]
    rintro m n ⟨_, _, e⟩
    refine hs (Int.emod_eq_zero_of_dvd ?_)
    rw [← e]
    exact Int.dvd_add (Int.dvd_trans G.ga (Int.dvd_mul_left _ _)) (Int.dvd_trans G.gb (Int.dvd_mul_left _ _))
  · rw [if_neg hs]
    have hd : g ∣ s := Int.dvd_of_emod_eq_zero (by omega)
    obtain ⟨k1, k2, k3⟩ := few_core ha hb G hd
    generalize s / g * t % (b / g) = f at k1 k2 k3
    have least : ∀ m n, Rep s a b m n → f ≤ m := fun m n ⟨h1, h2, h3⟩ => k3 m h1 ⟨n, by rw [Int.mul_comm b n]; omega⟩
    by_cases hf : f * a > s
    · rw [if_pos hf]
      rintro m n R
      have l := least m n R
      obtain ⟨h1, h2, h3⟩ := R
      have p1 : f * a ≤ m * a := Int.mul_le_mul_of_nonneg_right l (Int.le_of_lt ha)
      have p2 : 0 ≤ n * b := Int.mul_nonneg h2 (Int.le_of_lt hb)
      omega
    · rw [if_neg hf]
      refine ⟨⟨k2, Int.ediv_nonneg (by omega) (Int.le_of_lt hb), ?_⟩, least⟩
      show f * a + (s - f * a) / b * b = s
      rw [Int.ediv_mul_cancel k1]
      omega
/-- the law's number: the fewest of the first, -1 where there is none -/
def fewI : Option (Int × Int) → Int
  | none => -1
  | some x => x.1
theorem parts_some {s a b m n : Int} (hb : 0 < b) (h : parts s a b = some (m, n)) (ex : ∃ x, IsParts s a b x) : IsParts s a b (some (m, n)) := by
  obtain ⟨x, hx⟩ := ex
  have e := parts_eq hb hx
  rw [h] at e
  rw [e]
  exact hx
end BF

/-! ### plain mathematics of the loop in shared -/
namespace BF
structure ShInv (a b one other mine theirs : Int) : Prop where
  o1 : 0 < one
  o2 : 0 ≤ other
  l1 : one ≤ a ∨ one ≤ b
  l2 : other ≤ b
  dv : ∀ d : Int, (d ∣ one ∧ d ∣ other) ↔ (d ∣ a ∧ d ∣ b)
  m1 : b ∣ mine * a - one
  m2 : b ∣ theirs * a - other
  bd : ∃ M T : Int, 0 ≤ M ∧ 0 ≤ T ∧ M ≤ b ∧ T ≤ b ∧ T * one + M * other = b ∧ ((mine = M ∧ theirs = -T) ∨ (mine = -M ∧ theirs = T))
theorem ShInv.start {a b : Int} (ha : 0 < a) (hb : 0 < b) : ShInv a b a b 1 0 where
  o1 := ha
  o2 := Int.le_of_lt hb
  l1 := .inl (Int.le_refl _)
  l2 := Int.le_refl _
  dv := fun d => Iff.rfl
  m1 := by rw [Int.one_mul, Int.sub_self]; exact Int.dvd_zero b
  m2 := by rw [Int.zero_mul, Int.zero_sub]; exact Int.dvd_neg.mpr (Int.dvd_refl b)
  bd := ⟨1, 0, by omega, by omega, by omega, by omega, by omega, .inl ⟨rfl, by omega⟩⟩
theorem ShInv.turn {a b one other mine theirs : Int} (h : ShInv a b one other mine theirs) (ho : 0 < other) :
    ShInv a b other (one - one / other * other) theirs (mine - one / other * theirs) ∧ one - one / other * other < other ∧ 0 ≤ one - one / other * other := by
  obtain ⟨o1, o2, l1, l2, dv, m1, m2, M, T, hM, hT, lM, lT, e, sg⟩ := h
  have hm : one - one / other * other = one % other := by
    have := Int.emod_add_mul_ediv one other
    rw [Int.mul_comm] at this
    omega
  have h0 : 0 ≤ one % other := Int.emod_nonneg _ (Int.ne_of_gt ho)
  have h1 : one % other < other := Int.emod_lt_of_pos _ ho
  have hq : 0 ≤ one / other := Int.ediv_nonneg (Int.le_of_lt o1) o2
  refine ⟨?_, by omega, by omega⟩
  generalize hqq : one / other = q at *
  have key : (M + q * T) * other + T * (one - q * other) = b := by
    have x1 : (M + q * T) * other = M * other + q * T * other := Int.add_mul _ _ _
    have x2 : T * (one - q * other) = T * one - q * T * other := by rw [Int.mul_sub, ← Int.mul_assoc, Int.mul_comm T q]
    omega
  have hqT : 0 ≤ q * T := Int.mul_nonneg hq hT
  have hn : 0 ≤ T * (one - q * other) := Int.mul_nonneg hT (by omega)
  have l3 : M + q * T ≤ b := by
    have : (M + q * T) * 1 ≤ (M + q * T) * other := Int.mul_le_mul_of_nonneg_left (by omega) (by omega)
    omega
  refine ⟨ho, by omega, .inr l2, by omega, fun d => ?_, m2, ?_, T, M + q * T, hT, by omega, lT, l3, key, ?_⟩
  · rw [← dv d]
    constructor
    · rintro ⟨a1, a2⟩
      refine ⟨?_, a1⟩
      have : one = (one - q * other) + q * other := by omega
      rw [this]
      exact Int.dvd_add a2 (Int.dvd_trans a1 (Int.dvd_mul_left _ _))
    · rintro ⟨a1, a2⟩
      exact ⟨a2, Int.dvd_sub a1 (Int.dvd_trans a2 (Int.dvd_mul_left _ _))⟩
  · have : (mine - q * theirs) * a - (one - q * other) = (mine * a - one) - q * (theirs * a - other) := by
      rw [Int.sub_mul, Int.mul_sub, Int.mul_assoc]
      omega
    rw [this]
    exact Int.dvd_sub m1 (Int.dvd_trans m2 (Int.dvd_mul_left _ _))
  · rcases sg with ⟨r1, r2⟩ | ⟨r1, r2⟩
    · right
      subst r1 r2
      refine ⟨rfl, ?_⟩
      rw [Int.mul_neg]
      omega
    · left
      subst r1 r2
      exact ⟨rfl, by omega⟩
theorem ShInv.done {a b one mine theirs : Int} (ha : 0 < a) (hb : 0 < b) (h : ShInv a b one 0 mine theirs) : Good a b one (mine % b) ∧ one ≤ b := by
  have d := (h.dv one).mp ⟨Int.dvd_refl _, Int.dvd_zero _⟩
  refine ⟨⟨h.o1, d.1, d.2, ?_⟩, Int.le_of_dvd hb d.2⟩
  have e : mine % b * a - one = (mine * a - one) - b * (mine / b * a) := by
    have := Int.emod_add_mul_ediv mine b
    have x : mine % b = mine - b * (mine / b) := by omega
    rw [x, Int.sub_mul, Int.mul_assoc]
    omega
  rw [e]
  exact Int.dvd_sub h.m1 (Int.dvd_mul_right _ _)
theorem ShInv.theirs_le {a b one other mine theirs : Int} (h : ShInv a b one other mine theirs) : theirs.natAbs ≤ b.natAbs ∧ mine.natAbs ≤ b.natAbs := by
  obtain ⟨M, T, hM, hT, lM, lT, _, sg⟩ := h.bd
  rcases sg with ⟨r1, r2⟩ | ⟨r1, r2⟩ <;> (subst r1 r2; omega)
end BF

/-! ### plain mathematics of the law's own reckoning: the divisions' rows, and the way back -/
namespace BF
/-- rows: the quotients of the divisions that begin at one, other -/
inductive Eu : Int → Int → List Int → Prop where
  | nil {one : Int} (h : 0 < one) : Eu one 0 []
  | cons {one other : Int} {r : List Int} (h1 : 0 < one) (h2 : 0 < other) (h : Eu other (one % other) r) : Eu one other (one / other :: r)
def back : List Int → Int × Int
  | [] => (1, 0)
  | q :: r => ((back r).2, (back r).1 - q * (back r).2)
theorem Eu.pos : ∀ {one other : Int} {r : List Int}, Eu one other r → 0 < one ∧ 0 ≤ other
  | _, _, _, .nil h => ⟨h, Int.le_refl _⟩
  | _, _, _, .cons h1 h2 _ => ⟨h1, Int.le_of_lt h2⟩
theorem Eu.back : ∀ {one other : Int} {r : List Int}, Eu one other r → ∃ g, 0 < g ∧ (∀ d : Int, d ∣ g ↔ d ∣ one ∧ d ∣ other) ∧ (back r).1 * one + (back r).2 * other = g ∧ (r ≠ [] → (BF.back r).1.natAbs ≤ other.natAbs ∧ (BF.back r).2.natAbs ≤ one.natAbs)
  | _, _, _, .nil (one := one) h => by
    refine ⟨one, h, fun d => ⟨fun e => ⟨e, Int.dvd_zero d⟩, fun e => e.1⟩, ?_, fun z => absurd rfl z⟩
    show (1 : Int) * one + 0 * 0 = one
    omega
  | _, _, _, .cons (one := one) (other := other) (r := r) h1 h2 h => by
    obtain ⟨g, hg, dv, e, bd⟩ := Eu.back h
    have hm := Int.emod_add_mul_ediv one other
    have hq : 0 ≤ one / other := Int.ediv_nonneg (Int.le_of_lt h1) (Int.le_of_lt h2)
    have hr0 : 0 ≤ one % other := Int.emod_nonneg _ (Int.ne_of_gt h2)
    refine ⟨g, hg, fun d => ?_, ?_, fun _ => ?_⟩
    · rw [dv d]
      constructor
      · rintro ⟨a1, a2⟩
        refine ⟨?_, a1⟩
        rw [← hm]
        exact Int.dvd_add a2 (Int.dvd_trans a1 (Int.dvd_mul_right _ _))
      · rintro ⟨a1, a2⟩
        refine ⟨a2, ?_⟩
        have : one % other = one - other * (one / other) := by omega
        rw [this]
        exact Int.dvd_sub a1 (Int.dvd_trans a2 (Int.dvd_mul_right _ _))
    · show (BF.back r).2 * one + ((BF.back r).1 - one / other * (BF.back r).2) * other = g
      generalize (BF.back r).1 = m at *
      generalize (BF.back r).2 = t at *
      generalize one / other = q at *
      have x1 : (m - q * t) * other = m * other - t * (other * q) := by
        rw [Int.sub_mul, Int.mul_comm q t, Int.mul_assoc, Int.mul_comm q other]
      have x2 : t * one = t * (one % other) + t * (other * q) := by rw [← Int.mul_add, hm]
      omega
    · show (BF.back r).2.natAbs ≤ other.natAbs ∧ ((BF.back r).1 - one / other * (BF.back r).2).natAbs ≤ one.natAbs
      cases r with
      | nil =>
        show (0 : Int).natAbs ≤ other.natAbs ∧ ((1 : Int) - one / other * 0).natAbs ≤ one.natAbs
        omega
      | cons q' r' =>
        obtain ⟨b1, b2⟩ := bd (by simp)
        refine ⟨b2, ?_⟩
        generalize (BF.back (q' :: r')).1 = m at *
        generalize (BF.back (q' :: r')).2 = t at *
        have x3 : (one / other * t).natAbs ≤ (other * (one / other)).natAbs := by
          rw [Int.natAbs_mul, Int.natAbs_mul, Nat.mul_comm other.natAbs]
          exact Nat.mul_le_mul_left _ b2
        have x4 : 0 ≤ other * (one / other) := Int.mul_nonneg (Int.le_of_lt h2) hq
        omega
theorem Eu.drop {B : Int} : ∀ {one other : Int} {r : List Int}, Eu one other r → one ≤ B → other ≤ B → ∀ k, k ≤ r.length → ∃ x y, Eu x y (r.drop k) ∧ x ≤ B ∧ y ≤ B
  | _, _, _, .nil h, l1, l2, k, hk => ⟨_, _, by rw [List.drop_nil]; exact .nil h, l1, l2⟩
  | _, _, _, .cons h1 h2 h, l1, l2, 0, _ => ⟨_, _, .cons h1 h2 h, l1, l2⟩
  | _, _, _, .cons (one := one) (other := other) h1 h2 h, l1, l2, k + 1, hk => by
    have h3 : one % other < other := Int.emod_lt_of_pos _ h2
    exact Eu.drop h l2 (by omega) k (by simpa using hk)
theorem emod_le_self {x y : Int} (h : 0 < x) (hy : 0 < y) : x % y ≤ x := by
  have hm := Int.emod_add_mul_ediv x y
  have hq : 0 ≤ x / y := Int.ediv_nonneg (Int.le_of_lt h) (Int.le_of_lt hy)
  have : 0 ≤ y * (x / y) := Int.mul_nonneg (Int.le_of_lt hy) hq
  omega
/-- the loop that gathers the rows -/
structure FwInv (a b : Int) (rows : List Int) (one other : Int) : Prop where
  o1 : 0 < one
  o2 : 0 ≤ other
  l1 : one ≤ a ∨ one ≤ b
  l2 : other ≤ b
  go : ∀ r, Eu one other r → Eu a b (rows ++ r)
  less : rows ≠ [] → other < one
  fst : rows = [] → one = a ∧ other = b
  len : one * other * 2 ^ rows.length ≤ 2 * (a * b)
theorem FwInv.start {a b : Int} (ha : 0 < a) (hb : 0 < b) : FwInv a b [] a b where
  o1 := ha
  o2 := Int.le_of_lt hb
  l1 := .inl (Int.le_refl _)
  l2 := Int.le_refl _
  go := fun r h => h
  less := fun z => absurd rfl z
  fst := fun _ => ⟨rfl, rfl⟩
  len := by
    have : 0 < a * b := Int.mul_pos ha hb
    show a * b * 1 ≤ 2 * (a * b)
    omega
theorem FwInv.turn {a b one other : Int} {rows : List Int} (h : FwInv a b rows one other) (ho : 0 < other) : FwInv a b (rows ++ [one / other]) other (one % other) := by
  obtain ⟨o1, o2, l1, l2, go, less, fst, len⟩ := h
  have h0 : 0 ≤ one % other := Int.emod_nonneg _ (Int.ne_of_gt ho)
  have h1 : one % other < other := Int.emod_lt_of_pos _ ho
  refine ⟨ho, h0, .inr l2, by omega, fun r hr => ?_, fun _ => h1, fun z => by simp at z, ?_⟩
  · rw [List.append_assoc]
    exact go _ (.cons o1 ho hr)
  · rw [List.length_append, List.length_singleton, Int.pow_succ]
    have hp : (0 : Int) ≤ 2 ^ rows.length := Int.pow_nonneg (by decide)
    cases rows with
    | nil =>
      show other * (one % other) * (1 * 2) ≤ 2 * (a * b)
      obtain ⟨e1, e2⟩ := fst rfl
      subst e1 e2
      have x : other * (one % other) ≤ other * one := Int.mul_le_mul_of_nonneg_left (emod_le_self o1 ho) o2
      rw [Int.mul_comm other one] at x
      omega
    | cons q r =>
      have hl := less (by simp)
      have x : 2 * (one % other) ≤ one := by
        have hm := Int.emod_add_mul_ediv one other
        have hq : 1 ≤ one / other := by
          rcases Int.lt_or_le (one / other) 1 with c | c
          · have : other * (one / other) ≤ other * 0 := Int.mul_le_mul_of_nonneg_left (by omega) o2
            omega
          · exact c
        have : other * 1 ≤ other * (one / other) := Int.mul_le_mul_of_nonneg_left hq o2
        omega
      have y : other * (one % other) * ((2 : Int) ^ (q :: r).length * 2) = (other * (2 * (one % other))) * 2 ^ (q :: r).length := by
        rw [Int.mul_comm ((2 : Int) ^ (q :: r).length) 2, ← Int.mul_assoc, Int.mul_assoc other, Int.mul_comm (one % other) 2]
      rw [y]
      refine Int.le_trans (Int.mul_le_mul_of_nonneg_right ?_ hp) len
      rw [Int.mul_comm one other]
      exact Int.mul_le_mul_of_nonneg_left x o2
theorem two_pow_cast (n : Nat) : ((2 ^ n : Nat) : Int) = (2 : Int) ^ n := by
  rw [Int.natCast_pow]
  rfl
/-- at most 4001 rows -/
theorem FwInv.few {a b one other : Int} {rows : List Int} (h : FwInv a b rows one other) (ho : 0 < other) (ha : a.natAbs < 2 ^ 2000) (hb : b.natAbs < 2 ^ 2000) : rows.length ≤ 4001 := by
  have e := h.len
  have h1 : 1 ≤ one * other := Int.mul_pos h.o1 ho
  have hp : (0 : Int) ≤ 2 ^ rows.length := by
    rw [← two_pow_cast]
    exact Int.natCast_nonneg _
  have h2 : (1 : Int) * 2 ^ rows.length ≤ one * other * 2 ^ rows.length := Int.mul_le_mul_of_nonneg_right h1 hp
  have h3 : (a * b).natAbs < 2 ^ 4000 := by
    rw [Int.natAbs_mul, show (4000 : Nat) = 2000 + 2000 from rfl, Nat.pow_add]
    exact Nat.mul_lt_mul'' ha hb
  have h4 : ((2 ^ rows.length : Nat) : Int) ≤ 2 * (a * b) := by
    rw [two_pow_cast]
    omega
  have h5 : 2 ^ rows.length < 2 ^ 4001 := by
    rw [show (4001 : Nat) = 4000 + 1 from rfl, Nat.pow_succ]
    generalize 2 ^ 4000 = Z at *
    generalize 2 ^ rows.length = Y at *
    omega
  have h6 : rows.length < 4001 := (Nat.pow_lt_pow_iff_right (by decide)).mp h5
  omega
/-- the law's way back gives what the program's way gives -/
theorem few_back {s a b g g2 : Int} {rows : List Int} (hs : 0 < s) (ha : 0 < a) (hb : 0 < b) (hg : 0 < g) (dg : ∀ d : Int, d ∣ g ↔ d ∣ a ∧ d ∣ b) (E : Eu (a / g) (b / g) rows) (hz : s % g = 0) :
    fewI (parts s a b) = if s / g * (back rows).1 % (b / g) * (a / g) ≤ s / g then s / g * (back rows).1 % (b / g) else -1 := by
  obtain ⟨da, db⟩ := (dg g).mp (Int.dvd_refl g)
  obtain ⟨a', ea⟩ := da
  obtain ⟨b', eb⟩ := db
  obtain ⟨s', es⟩ := Int.dvd_of_emod_eq_zero hz
  have e1 : s / g = s' := by rw [es]; exact Int.mul_ediv_cancel_left s' (Int.ne_of_gt hg)
  have e2 : b / g = b' := by rw [eb]; exact Int.mul_ediv_cancel_left b' (Int.ne_of_gt hg)
  have e3 : a / g = a' := by rw [ea]; exact Int.mul_ediv_cancel_left a' (Int.ne_of_gt hg)
  rw [e2, e3] at E
  obtain ⟨h, hh, dh, eh, _⟩ := E.back
  have h1 : h = 1 := by
    obtain ⟨x1, x2⟩ := (dh h).mp (Int.dvd_refl h)
    have d1 : g * h ∣ g := (dg _).mpr ⟨by rw [ea]; exact Int.mul_dvd_mul_left g x1, by rw [eb]; exact Int.mul_dvd_mul_left g x2⟩
    have l1 := Int.le_of_dvd hg d1
    rcases Int.lt_or_le 1 h with c | c
    · have : g * 2 ≤ g * h := Int.mul_le_mul_of_nonneg_left (by omega) (Int.le_of_lt hg)
      omega
    · omega
  have G : Good a b g (back rows).1 := by
    refine ⟨hg, ⟨a', ea⟩, ⟨b', eb⟩, -(back rows).2, ?_⟩
    rw [h1] at eh
    generalize (back rows).1 = m at *
    generalize (back rows).2 = t at *
    have x1 : m * a = g * (m * a') := by rw [ea, Int.mul_left_comm]
    have x2 : b * -t = -(g * (t * b')) := by rw [Int.mul_neg, eb, Int.mul_assoc, Int.mul_comm b' t]
    have x3 : g * (m * a' + t * b') = g * 1 := by rw [eh]
    rw [Int.mul_add] at x3
    omega
  rw [parts_good ha hb G, if_neg (by simp [hz]), e1, e2, e3]
  have key : (s' * (back rows).1 % b' * a > s) ↔ ¬ (s' * (back rows).1 % b' * a' ≤ s') := by
    generalize s' * (back rows).1 % b' = f
    have x : f * a = g * (f * a') := by rw [ea, Int.mul_left_comm]
    rw [x, es]
    constructor
    · intro q z
      have := Int.mul_le_mul_of_nonneg_left z (Int.le_of_lt hg)
      omega
    · intro q
      have := Int.mul_lt_mul_of_pos_left (show s' < f * a' by omega) hg
      omega
  by_cases c : s' * (back rows).1 % b' * a' ≤ s'
  · rw [if_neg (fun z => key.mp z c), if_pos c]
    rfl
  · rw [if_pos (key.mpr c), if_neg c]
    rfl
theorem few_none {s a b g : Int} (hb : 0 < b) (dg : ∀ d : Int, d ∣ g ↔ d ∣ a ∧ d ∣ b) (hz : s % g ≠ 0) : fewI (parts s a b) = -1 := by
  have e : parts s a b = none := parts_eq hb (x := none) (by
    rintro m n ⟨_, _, e⟩
    obtain ⟨x1, x2⟩ := (dg g).mp (Int.dvd_refl g)
    refine hz (Int.emod_eq_zero_of_dvd ?_)
    rw [← e]
    exact Int.dvd_add (Int.dvd_trans x1 (Int.dvd_mul_left _ _)) (Int.dvd_trans x2 (Int.dvd_mul_left _ _)))
  rw [e]
  rfl
end BF

/-! ### there is always an answer; a search among few -/
namespace BF
theorem eu_ex : ∀ (n : Nat) (a b : Int), 0 < a → 0 ≤ b → b.toNat ≤ n → ∃ rows, Eu a b rows
  | 0, a, b, ha, hb, h => by
    have e : b = 0 := by omega
    subst e
    exact ⟨[], .nil ha⟩
  | n + 1, a, b, ha, hb, h => by
    rcases Int.lt_or_le 0 b with c | c
    · have h0 : 0 ≤ a % b := Int.emod_nonneg _ (Int.ne_of_gt c)
      have h1 : a % b < b := Int.emod_lt_of_pos _ c
      obtain ⟨r, hr⟩ := eu_ex n b (a % b) c h0 (by omega)
      exact ⟨_, .cons ha c hr⟩
    · have e : b = 0 := by omega
      subst e
      exact ⟨[], .nil ha⟩
theorem good_ex {a b : Int} (ha : 0 < a) (hb : 0 < b) : ∃ g t, Good a b g t := by
  obtain ⟨rows, E⟩ := eu_ex _ a b ha (Int.le_of_lt hb) (Nat.le_refl _)
  obtain ⟨g, hg, dv, e, _⟩ := E.back
  obtain ⟨d1, d2⟩ := (dv g).mp (Int.dvd_refl g)
  refine ⟨g, (back rows).1, hg, d1, d2, -(back rows).2, ?_⟩
  rw [Int.mul_neg, Int.mul_comm b]
  omega
theorem parts_is {s a b : Int} (ha : 0 < a) (hb : 0 < b) : IsParts s a b (parts s a b) := by
  obtain ⟨g, t, G⟩ := good_ex ha hb
  have ex : ∃ x, IsParts s a b x := by
    by_cases hs : s % g ≠ 0
    · refine ⟨none, ?_⟩
      rintro m n ⟨_, _, e⟩
      refine hs (Int.emod_eq_zero_of_dvd ?_)
      rw [← e]
      exact Int.dvd_add (Int.dvd_trans G.ga (Int.dvd_mul_left _ _)) (Int.dvd_trans G.gb (Int.dvd_mul_left _ _))
    · have hd : g ∣ s := Int.dvd_of_emod_eq_zero (by omega)
      obtain ⟨k1, k2, k3⟩ := few_core ha hb G hd
      generalize s / g * t % (b / g) = f at k1 k2 k3
      have least : ∀ m n, Rep s a b m n → f ≤ m := fun m n ⟨h1, h2, h3⟩ => k3 m h1 ⟨n, by rw [Int.mul_comm b n]; omega⟩
      by_cases hf : f * a > s
      · refine ⟨none, ?_⟩
        rintro m n R
        have l := least m n R
        obtain ⟨h1, h2, h3⟩ := R
        have p1 : f * a ≤ m * a := Int.mul_le_mul_of_nonneg_right l (Int.le_of_lt ha)
        have p2 : 0 ≤ n * b := Int.mul_nonneg h2 (Int.le_of_lt hb)
        omega
      · refine ⟨some (f, (s - f * a) / b), ⟨k2, Int.ediv_nonneg (by omega) (Int.le_of_lt hb), ?_⟩, least⟩
        show f * a + (s - f * a) / b * b = s
        rw [Int.ediv_mul_cancel k1]
        omega
  obtain ⟨x, hx⟩ := ex
  rw [parts_eq hb hx]
  exact hx
theorem few_neg {s a b : Int} (ha : 0 < a) (hb : 0 < b) : fewI (parts s a b) < 0 ↔ parts s a b = none := by
  have h := parts_is (s := s) ha hb
  cases e : parts s a b with
  | none => simp [fewI]
  | some x =>
    rw [e] at h
    have := h.1.1
    simp only [fewI, reduceCtorEq, iff_false]
    omega
/-- the counts of the first below n that leave a multiple of the second -/
def hits (s a b : Int) (n : Nat) : List Int := ((List.range n).filter (fun m : Nat => decide ((s - (m : Int) * a) % b = 0))).map (fun m : Nat => (m : Int))
theorem hits_succ (s a b : Int) (n : Nat) : hits s a b (n + 1) = hits s a b n ++ (if (s - (n : Int) * a) % b = 0 then [(n : Int)] else []) := by
  unfold hits
  rw [List.range_succ, List.filter_append, List.map_append]
  congr 1
  by_cases c : (s - (n : Int) * a) % b = 0
  · rw [if_pos c]
    simp [List.filter_cons, c]
  · rw [if_neg c]
    simp [List.filter_cons, c]
theorem hits_len (s a b : Int) (n : Nat) : (hits s a b n).length ≤ n := by
  unfold hits
  rw [List.length_map]
  exact Nat.le_trans (List.length_filter_le _ _) (by rw [List.length_range]; exact Nat.le_refl _)
theorem hits_few {s a b : Int} (hs : 0 < s) (ha : 0 < a) (hb : 0 < b) : (hits s a b (s / a + 1).toNat ++ [-1])[0]? = some (fewI (parts s a b)) := by
  have hq : 0 ≤ s / a := Int.ediv_nonneg (Int.le_of_lt hs) (Int.le_of_lt ha)
  have hm := Int.emod_add_mul_ediv s a
  have hr := Int.emod_nonneg s (Int.ne_of_gt ha)
  have rep : ∀ m : Nat, m < (s / a + 1).toNat → (s - (m : Int) * a) % b = 0 → Rep s a b m ((s - (m : Int) * a) / b) := fun m hl hz => by
    have l1 : (m : Int) ≤ s / a := by omega
    have l2 : a * (m : Int) ≤ a * (s / a) := Int.mul_le_mul_of_nonneg_left l1 (Int.le_of_lt ha)
    rw [Int.mul_comm a (m : Int)] at l2
    refine ⟨Int.natCast_nonneg m, Int.ediv_nonneg (by omega) (Int.le_of_lt hb), ?_⟩
    rw [Int.ediv_mul_cancel (Int.dvd_of_emod_eq_zero hz)]
    omega
  have h := parts_is (s := s) ha hb
  cases e : parts s a b with
  | none =>
    rw [e] at h
    have e0 : hits s a b (s / a + 1).toNat = [] := by
      unfold hits
      rw [List.filter_eq_nil_iff.mpr fun m hm2 => ?_]
      · rfl
      · intro z
        exact h _ _ (rep m (List.mem_range.mp hm2) (of_decide_eq_true z))
    rw [e0]
    rfl
  | some x =>
    rw [e] at h
    obtain ⟨⟨h1, h2, h3⟩, least⟩ := h
    obtain ⟨m, n⟩ := x
    simp only at h1 h2 h3 least
    obtain ⟨k, rfl⟩ := Int.eq_ofNat_of_zero_le h1
    have n0 : 0 ≤ n * b := Int.mul_nonneg h2 (Int.le_of_lt hb)
    have kl : (k : Int) ≤ s / a := by
      rcases Int.lt_or_le (s / a) k with c | c
      · have hl := Int.emod_lt_of_pos s ha
        have : a * (s / a + 1) ≤ a * (k : Int) := Int.mul_le_mul_of_nonneg_left (by omega) (Int.le_of_lt ha)
        rw [Int.mul_add, Int.mul_one, Int.mul_comm a (k : Int)] at this
        omega
      · exact c
    have hf : (List.range (s / a + 1).toNat).find? (fun m : Nat => decide ((s - (m : Int) * a) % b = 0)) = some k := by
      rw [List.find?_range_eq_some]
      refine ⟨decide_eq_true ?_, List.mem_range.mpr (by omega), fun j hj => ?_⟩
      · have : s - (k : Int) * a = n * b := by omega
        rw [this]
        exact Int.mul_emod_left n b
      · rw [Bool.not_eq_true', decide_eq_false_iff_not]
        intro z
        have := least _ _ (rep j (by omega) z)
        omega
    have hh : (hits s a b (s / a + 1).toNat)[0]? = some (k : Int) := by
      unfold hits
      rw [List.getElem?_map, ← List.head?_eq_getElem?, List.head?_filter, hf]
      rfl
    rw [List.getElem?_append_left (by
      rw [List.getElem?_eq_some_iff] at hh
      exact hh.1), hh]
    rfl
end BF

namespace BF
open PySem PySem.Spec PyProof.Rows L2
def topS (i : Nat) : Stmt := PySem.Challenge.pw_brickfloor_k02_whole_bricks.main.body.getD i (.Pass ⟨0, 0, 0, 0⟩)
abbrev s_is_number : Stmt := topS 9
abbrev s_check_sizes : Stmt := topS 10
abbrev s_shared : Stmt := topS 11
abbrev s_parts_of : Stmt := topS 12
abbrev s_is_striped : Stmt := topS 14
abbrev s_what_bars : Stmt := topS 15
abbrev s_is_cell : Stmt := topS 16
abbrev s_check_laid : Stmt := topS 18
abbrev s_plan : Stmt := topS 19
abbrev s_brick_on : Stmt := topS 20
abbrev s_lying : Stmt := topS 21
abbrev s_standing : Stmt := topS 22
abbrev s__law_number : Stmt := topS 24
abbrev s__law_four : Stmt := topS 25
abbrev s__law_whole : Stmt := topS 26
abbrev s__law_common : Stmt := topS 27
abbrev s__law_few : Stmt := topS 28
abbrev s__law_bars : Stmt := topS 29
abbrev s__law_brick : Stmt := topS 30
abbrev s__law_cell_right : Stmt := topS 31
abbrev s__law_refused : Stmt := topS 32
abbrev s__law_counts_right : Stmt := topS 33
abbrev s_law : Stmt := topS 34
theorem sc_is_number : FnScope ["thing"] ["thing"] (defScope s_is_number) := ⟨rfl, rfl, rfl, by decide +kernel, rfl, by decide +kernel, by decide +kernel⟩
theorem sc_check_sizes : FnScope ["some", "one"] ["some"] (defScope s_check_sizes) := ⟨rfl, rfl, rfl, by decide +kernel, rfl, by decide +kernel, by decide +kernel⟩
theorem sc_shared : FnScope ["one", "other", "mine", "theirs", "by", "often"] ["one", "other"] (defScope s_shared) := ⟨rfl, rfl, rfl, by decide +kernel, rfl, by decide +kernel, by decide +kernel⟩
theorem sc_parts_of : FnScope ["size", "first", "second", "by", "turned", "few"] ["size", "first", "second"] (defScope s_parts_of) := ⟨rfl, rfl, rfl, by decide +kernel, rfl, by decide +kernel, by decide +kernel⟩
theorem sc_is_striped : FnScope ["length", "width", "side"] ["length", "width", "side"] (defScope s_is_striped) := ⟨rfl, rfl, rfl, by decide +kernel, rfl, by decide +kernel, by decide +kernel⟩
theorem sc_what_bars : FnScope ["length", "width", "first", "second", "striped", "short", "which", "side"] ["length", "width", "first", "second"] (defScope s_what_bars) := ⟨rfl, rfl, rfl, by decide +kernel, rfl, by decide +kernel, by decide +kernel⟩
theorem sc_is_cell : FnScope ["length", "width", "thing"] ["length", "width", "thing"] (defScope s_is_cell) := ⟨rfl, rfl, rfl, by decide +kernel, rfl, by decide +kernel, by decide +kernel⟩
theorem sc_check_laid : FnScope ["length", "width", "first", "second"] ["length", "width", "first", "second"] (defScope s_check_laid) := ⟨rfl, rfl, rfl, by decide +kernel, rfl, by decide +kernel, by decide +kernel⟩
theorem sc_plan : FnScope ["length", "width", "first", "second"] ["length", "width", "first", "second"] (defScope s_plan) := ⟨rfl, rfl, rfl, by decide +kernel, rfl, by decide +kernel, by decide +kernel⟩
theorem sc_brick_on : FnScope ["length", "width", "first", "second", "cell", "along", "up", "begin", "low", "corner"] ["length", "width", "first", "second", "cell"] (defScope s_brick_on) := ⟨rfl, rfl, rfl, by decide +kernel, rfl, by decide +kernel, by decide +kernel⟩
theorem sc_lying : FnScope ["length", "width", "first", "second", "along", "up"] ["length", "width", "first", "second"] (defScope s_lying) := ⟨rfl, rfl, rfl, by decide +kernel, rfl, by decide +kernel, by decide +kernel⟩
theorem sc_standing : FnScope ["length", "width", "first", "second", "many"] ["length", "width", "first", "second"] (defScope s_standing) := ⟨rfl, rfl, rfl, by decide +kernel, rfl, by decide +kernel, by decide +kernel⟩
theorem sc__law_number : FnScope ["_law_cell", "_law_at", "_law_whole_here", "_law_mixed", "_law_more"] ["_law_cell", "_law_at", "_law_whole_here"] (defScope s__law_number) := ⟨rfl, rfl, rfl, by decide +kernel, rfl, by decide +kernel, by decide +kernel⟩
theorem sc__law_four : FnScope ["_law_script", "_law_at", "_law_most", "_law_whole_here", "_law_number_here", "_law_other", "_law_first", "_law_second", "_law_few_here", "_law_more", "_law_less", "_law_kind", "_law_length", "_law_width"] ["_law_script", "_law_at", "_law_most"] (defScope s__law_four) := ⟨rfl, rfl, rfl, by decide +kernel, rfl, by decide +kernel, by decide +kernel⟩
theorem sc__law_whole : FnScope ["_law_found"] ["_law_found"] (defScope s__law_whole) := ⟨rfl, rfl, rfl, by decide +kernel, rfl, by decide +kernel, by decide +kernel⟩
theorem sc__law_common : FnScope ["_law_one", "_law_other"] ["_law_one", "_law_other"] (defScope s__law_common) := ⟨rfl, rfl, rfl, by decide +kernel, rfl, by decide +kernel, by decide +kernel⟩
theorem sc__law_few : FnScope ["_law_size", "_law_first", "_law_second", "_law_by", "_law_rows", "_law_one", "_law_other", "_law_mine", "_law_theirs", "_law_part", "_law_few_here"] ["_law_size", "_law_first", "_law_second"] (defScope s__law_few) := ⟨rfl, rfl, rfl, by decide +kernel, rfl, by decide +kernel, by decide +kernel⟩
theorem sc__law_bars : FnScope ["_law_four_here", "_law_which", "_law_length", "_law_width", "_law_first", "_law_second", "_law_side"] ["_law_four_here", "_law_which"] (defScope s__law_bars) := ⟨rfl, rfl, rfl, by decide +kernel, rfl, by decide +kernel, by decide +kernel⟩
theorem sc__law_brick : FnScope ["_law_four_here", "_law_cell", "_law_length", "_law_width", "_law_first", "_law_second", "_law_found", "_law_corner", "_law_lies", "_law_long", "_law_high"] ["_law_four_here", "_law_cell"] (defScope s__law_brick) := ⟨rfl, rfl, rfl, by decide +kernel, rfl, by decide +kernel, by decide +kernel⟩
theorem sc__law_cell_right : FnScope ["_law_four_here", "_law_cell", "_law_number_here", "_law_length", "_law_width", "_law_first", "_law_second", "_law_found", "_law_corner", "_law_lies", "_law_long", "_law_high", "_law_last", "_law_drawn", "_law_some", "_law_beside"] ["_law_four_here", "_law_cell", "_law_number_here"] (defScope s__law_cell_right) := ⟨rfl, rfl, rfl, by decide +kernel, rfl, by decide +kernel, by decide +kernel⟩
theorem sc__law_refused : FnScope ["_law_four_here", "_law_door", "error", "_law_others"] ["_law_four_here"] (defScope s__law_refused) := ⟨rfl, rfl, rfl, by decide +kernel, rfl, by decide +kernel, by decide +kernel⟩
theorem sc__law_counts_right : FnScope ["_law_four_here", "_law_counts", "_law_found", "_law_along", "_law_up", "_law_brick_here", "_law_lies", "_law_count"] ["_law_four_here"] (defScope s__law_counts_right) := ⟨rfl, rfl, rfl, by decide +kernel, rfl, by decide +kernel, by decide +kernel⟩
theorem sc_law : FnScope ["_law_script", "_law_whole_here", "_law_at", "_law_four_here", "_law_number_here", "_law_length", "_law_width", "_law_some", "_law_first", "_law_second", "_law_which", "_law_cell"] ["_law_script"] (defScope s_law) := ⟨rfl, rfl, rfl, by decide +kernel, rfl, by decide +kernel, by decide +kernel⟩
/-- the built-ins that the text names are free -/
structure Bi (mg : Str → Option Value) : Prop where
  all : mg "all" = none
  any : mg "any" = none
  bool : mg "bool" = none
  enumerate : mg "enumerate" = none
  int : mg "int" = none
  isinstance : mg "isinstance" = none
  len : mg "len" = none
  max : mg "max" = none
  min : mg "min" = none
  range : mg "range" = none
  sum : mg "sum" = none
  tuple : mg "tuple" = none
end BF

/-! ### small helpers for the laws: the script's cells, picks out of four, sizes of drawn numbers -/
namespace BF
open PySem PySem.Spec PyProof.Rows L2
inductive SpLaw (K : PySem.W.Frag) : Sp where
  | mk {a : Addr} {ns : List Int} {H : Hp} {Q : VK} {E : XK} (hl : ns.length ≤ 63) (hb : ∀ z ∈ ns, Builtin.Int.intBits z ≤ 1048576) (hS : SqL K H a (ns.map V.int)) (q : ∀ H', Q (.bl true) H') : SpLaw K [.ref a] H Q E
theorem bn_of_lt {x : Int} (h0 : 0 ≤ x) (h : x < 10 ^ 60) : Bn 200 x := by
  refine ⟨?_⟩
  have e : (10 : Int) ^ 60 = ((10 ^ 60 : Nat) : Int) := by decide
  have l : (10 : Nat) ^ 60 < 2 ^ 200 := by decide
  rw [e] at h
  omega
theorem sz_of_lt {x : Int} (h0 : 0 < x) (h : x < 10 ^ 60) : Sz x := ⟨h0, (bn_of_lt (by omega) h).mono (by decide)⟩
theorem cut_map {α β : Type} (f : α → β) (xs : List α) (lo hi : Nat) : ((xs.map f).drop lo).take hi = ((xs.drop lo).take hi).map f := by
  rw [← List.map_drop, ← List.map_take]
theorem cut_ints (ns : List Int) (lo hi : Option Int) : ∃ ms : List Int, cutV (ns.map V.int) lo hi = ms.map V.int := by
  unfold cutV
  exact ⟨_, cut_map V.int ns _ _⟩
theorem at_cell {ns : List Int} {k : Int} (h0 : -(ns.length : Int) ≤ k) (h1 : k < ns.length) : ∃ c, c ∈ ns ∧ atI (ns.map V.int) k = some (.int c) := by
  rcases Int.lt_or_le k 0 with hk | hk
  · have hj : (k + ns.length).toNat < ns.length := by omega
    refine ⟨ns[(k + ns.length).toNat], List.getElem_mem _, ?_⟩
    have e : ixN (ns.map V.int).length k = some (k + ns.length).toNat := by
      unfold ixN
      rw [List.length_map, if_neg (by omega), if_pos (by omega)]
    unfold atI
    rw [e]
    show (ns.map V.int)[(k + ns.length).toNat]? = _
    rw [List.getElem?_map, List.getElem?_eq_getElem hj]
    rfl
  · have hj : k.toNat < ns.length := by omega
    refine ⟨ns[k.toNat], List.getElem_mem _, ?_⟩
    obtain ⟨j, rfl⟩ := Int.eq_ofNat_of_zero_le hk
    refine atI_nat ?_
    rw [List.getElem?_map]
    have hj2 : j < ns.length := by omega
    rw [List.getElem?_eq_getElem hj2]
    rfl
theorem pick4 {x0 x1 x2 x3 : V} {k : Int} (h0 : 0 ≤ k) (h4 : k < 4) : ∃ v, atI [x0, x1, x2, x3] k = some v ∧ (v = x0 ∨ v = x1 ∨ v = x2 ∨ v = x3) := by
  have e : k = 0 ∨ k = 1 ∨ k = 2 ∨ k = 3 := by omega
  rcases e with rfl | rfl | rfl | rfl
  · exact ⟨x0, rfl, .inl rfl⟩
  · exact ⟨x1, rfl, .inr (.inl rfl)⟩
  · exact ⟨x2, rfl, .inr (.inr (.inl rfl))⟩
  · exact ⟨x3, rfl, .inr (.inr (.inr rfl))⟩
end BF

/-! ### data at any depth, in a heap that grows -/
namespace BF
open PySem PySem.Spec PyProof.Rows L2
theorem at0 {x : V} {xs : List V} : atI (x :: xs) 0 = some x := by
  show atI (x :: xs) ((0 : Nat) : Int) = some x
  exact atI_nat rfl
mutual
theorem dpS {K : PySem.W.Frag} {H H' : Hp} (sm : Same H H') : ∀ {d : PyData} {v : V}, Dp K H v d → Dp K H' v d
  | .none, _, h => by cases h; exact .non
  | .bool b, _, h => by cases h; exact .bl b
  | .int i, _, h => by cases h; exact .int i
  | .str x, _, h => by cases h; exact .str x
  | .list ds, _, h => by
    cases h with
    | lst hs ha => exact .lst (sm.seq hs) (dpsS sm ha)
  | .tuple ds, _, h => by
    cases h with
    | tup hs ha => exact .tup (Same.tup sm hs) (dpsS sm ha)
theorem dpsS {K : PySem.W.Frag} {H H' : Hp} (sm : Same H H') : ∀ {ds : List PyData} {vs : List V}, DpAll K H vs ds → DpAll K H' vs ds
  | [], _, h => by cases h; exact .nil
  | d :: ds, _, h => by
    cases h with
    | cons h1 h2 => exact .cons (dpS sm h1) (dpsS sm h2)
end
/-- shaped, at most n deep -/
structure Shp (n : Nat) (d : PyData) : Prop where
  c : PyData.canLay0 d = true
  h : PyData.depth d ≤ n
theorem Shp.ok {n : Nat} {d : PyData} (s : Shp n d) (h : n ≤ 64) : SeqAt.shaped d = true := Bool.and_eq_true_iff.mpr ⟨s.c, decide_eq_true (Nat.le_trans s.h h)⟩
theorem shp_all {n : Nat} : ∀ {ds : List PyData}, (∀ d ∈ ds, Shp n d) → PyData.canLayAll0 ds = true ∧ PyData.depthAll ds ≤ n
  | [], _ => ⟨rfl, by simp [PyData.depthAll]⟩
  | d :: ds, h => by
    obtain ⟨a, b⟩ := shp_all (ds := ds) fun d hd => h d (List.mem_cons_of_mem _ hd)
    have c := h d (by simp)
    refine ⟨?_, ?_⟩
    · rw [PyData.canLayAll0, c.c, a]
      rfl
    · rw [PyData.depthAll]
      exact Nat.max_le.mpr ⟨c.h, b⟩
theorem shp_list {n : Nat} {ds : List PyData} (h : ∀ d ∈ ds, Shp n d) : Shp (n + 1) (.list ds) := by
  obtain ⟨a, b⟩ := shp_all h
  refine ⟨by rw [PyData.canLay0]; exact a, ?_⟩
  rw [PyData.depth]
  omega
theorem shp_tuple {n : Nat} {ds : List PyData} (h : ∀ d ∈ ds, Shp n d) : Shp (n + 1) (.tuple ds) := by
  obtain ⟨a, b⟩ := shp_all h
  refine ⟨by rw [PyData.canLay0]; exact a, ?_⟩
  rw [PyData.depth]
  omega
theorem shp_int (i : Int) : Shp 1 (.int i) := ⟨rfl, by simp [PyData.depth]⟩
theorem shp_bool (b : Bool) : Shp 1 (.bool b) := ⟨rfl, by simp [PyData.depth]⟩
theorem shp_ints (xs : List Int) : SeqAt.shaped (.list (xs.map .int)) = true := (shp_list (n := 1) fun d hd => by
  obtain ⟨i, _, rfl⟩ := List.mem_map.mp hd
  exact shp_int i).ok (by decide)
theorem ne_nil (xs : List Int) : (!PyData.eqv (.list (xs.map .int)) (.list [])) = !xs.isEmpty := by
  cases xs with
  | nil => rfl
  | cons x xs => rfl
theorem dp_ints {K : PySem.W.Frag} {H : Hp} : ∀ xs : List Int, DpAll K H (xs.map V.int) (xs.map PyData.int)
  | [] => .nil
  | x :: xs => .cons (.int x) (dp_ints xs)
end BF

/-! ### xs.count(y), flat items -/
namespace BF
open PySem PySem.Spec PyProof.Rows L2
theorem count_eqU {x : V} : ∀ {xs : List V} {us : List Value}, Vals xs us → xs.all flatV = true → us.countP (eqU x) = xs.countP fun y => eqV y x
  | _, _, .nil, _ => rfl
  | y :: xs, u :: us, .cons r t, f => by
    rw [List.all_cons, Bool.and_eq_true] at f
    rw [List.countP_cons, List.countP_cons, count_eqU t f.2, eqU_of r f.1]
def rCntV (K : PySem.W.Frag) : V → List V → Hp → VK → Prop := fun x xs H Q => ∃ (p : Addr) (ys : List V) (y : V), x = .ref p ∧ xs = [y] ∧ SqL K H p ys ∧ flatV y = true ∧ ys.all flatV = true ∧ Q (.int (ys.countP (fun z => eqV z y) : Nat)) H
theorem mt_count {X : Cx} : MtR X "list.count" (rCntV X.K) := by
  intro pins s σ H x xs v us Q I rx rxs h
  obtain ⟨p, ys, y, rfl, rfl, hs, fy, fa, q⟩ := h
  cases rx
  obtain ⟨u, rfl, ru⟩ := rxs.one
  obtain ⟨its, rv, ⟨⟨cls, dd, data, sl⟩, n, ho, hc, hdn, hd⟩, hlen⟩ := I.list hs
  simp only at hc hd
  subst hc hd
  refine call_meets PySem.F.slot_list_count ⟨_, ho, rfl⟩ PySem.F.entry_list_count (PySem.F.args_list_count_2 _ _) (SeqAt.list_countAt p its.toArray n dd sl u (eqU y)) ⟨ho, fun z hz => mem_eqAt ru fy rv fa z (by simpa using hz), ?_⟩
  have ec : its.toArray.toList.countP (eqU y) = ys.countP (fun z => eqV z y) := count_eqU rv fa
  refine ⟨.int (ys.countP (fun z => eqV z y) : Nat), H, I.tok _, ⟨s.toks, ?_⟩, q⟩
  rw [ec]
end BF

/-! ### enumerate(tuple) -/
namespace BF
open PySem PySem.Spec PyProof.Rows L2
open PySem.AutoSeq1 (wpAny_loadPart')
theorem enum_newT (l : Addr) (its : Array Value) (n : Nat) (dd : Option Addr) (sl : Array (Option Value)) :
    Meets (Builtin.«enumerate.__new__» ⟨[.type "enumerate", .ref l], []⟩) (fun _ R s => s.heap.get? l = some { cls := .type "tuple", dict := dd, data := .seq its n, slots := sl } ∧
      R (.ok (.ret (.ref (s.heap.push { cls := .type "tuple_iterator", data := .fields #[.ref l, .int 0 0] }).objs.size)))
        { s with heap := (s.heap.push { cls := .type "tuple_iterator", data := .fields #[.ref l, .int 0 0] }).push { cls := .type "enumerate", data := .fields #[.none, .bool false, .ref s.heap.objs.size, rawInt 0, .none, .none] } }) :=
  .of_wp fun prog w A R s h => by
    obtain ⟨hp, g, d, tk, os⟩ := s
    obtain ⟨hl, h⟩ := h
    have sub := sub_enumerate
    have tl : Heap.IsTuple (Shared.heap ⟨hp, g, d, tk, os⟩) l its := ⟨_, hl, rfl, n, rfl⟩
    wp_walk using wpAny_loadPart' hl
    refine wpAny_stack_any fun st => wpAny_pure ?_
    split
    · rename_i c _ _ _ _ _
      cases (c == Value.type "enumerate") <;> (wp_walk using wpAny_loadPart' hl, wpAny_pyIter_tuple tl; exact ⟨_, rfl, h⟩)
    · wp_walk using wpAny_loadPart' hl, wpAny_pyIter_tuple tl
      exact ⟨_, rfl, h⟩
theorem call_enumT {prog : Program} {w : World} {A : Around} {E : Value → Shared → Prop} {s : Shared} {l : Addr} {items : Array Value} {Q : Value → Shared → Prop} (hL : IsTup s.heap l items)
    (h : ∀ h', IsEnum h' (s.heap.objs.size + 1) s.heap.objs.size 0 .none → h'.IsTupleIter s.heap.objs.size l 0 → (∀ b o, s.heap.get? b = some o → h'.get? b = some o) → Q (.ref (s.heap.objs.size + 1)) { s with heap := h' }) :
    wpAny (model prog w) A (call (.type "enumerate") [.ref l]) Q E s := by
  obtain ⟨⟨c, dd, dt, sl⟩, hl, e1, n, e2⟩ := hL
  simp only at e1 e2
  subst e1 e2
  refine callType_new F.called_enumerate (by decide) (F.typeCall_enumerate_1 _) (F.newCall_enumerate_1 _) (fun obj => F.args_object_init_2 obj _) F.entry_enumerate_new (enum_newT l items n dd sl) ⟨hl, ?_⟩
  have hz : (s.heap.push { cls := .type "tuple_iterator", data := .fields #[.ref l, .int 0 0] }).objs.size = s.heap.objs.size + 1 := Heap.size_push ..
  show _ ∧ _
  rw [hz]
  have he : IsEnum ((s.heap.push { cls := .type "tuple_iterator", data := .fields #[.ref l, .int 0 0] }).push { cls := .type "enumerate", data := .fields #[.none, .bool false, .ref s.heap.objs.size, rawInt 0, .none, .none] }) (s.heap.objs.size + 1) s.heap.objs.size 0 .none := by
    have z := Heap.get?_push_size (s.heap.push { cls := .type "tuple_iterator", data := .fields #[.ref l, .int 0 0] }) (o := { cls := .type "enumerate", data := .fields #[.none, .bool false, .ref s.heap.objs.size, rawInt 0, .none, .none] }) rfl
    rw [hz] at z
    exact z
  exact ⟨⟨_, he, rfl⟩, h _ he ⟨_, Heap.get?_push_of_some _ (Heap.get?_push_size _ rfl), rfl, rfl⟩ fun b o x => Heap.get?_push_of_some _ (Heap.get?_push_of_some _ x)⟩
theorem enum_endT {prog : Program} {w : World} {A : Around} {E : Value → Shared → Prop} {s : Shared} {e it t : Addr} {j : Nat} {i : Int} {old : Value} {items : Array Value} {Q : Option Value → Shared → Prop} (hh : A.in1.handled = none) (he : IsEnum s.heap e it i old)
    (hit : s.heap.IsTupleIter it t j) (ht : s.heap.IsTuple t items) (hx : items[j]? = none) (hQ : ∀ h', Heap.ExtBut it s.heap h' → Q none { s with heap := h' }) : wpAny (model prog w) A (pyNext (.ref e)) Q E s := by
  have ty : s.TypeIs (.ref e) "enumerate" := ⟨_, he, rfl⟩
  unfold pyNext
  refine wpAny_bind (wpAny_attempt (wpAny_callSpecial?_slot (name := Str.ofString "__next__") ty F.slot_enumerate_next (wpAny_call_entry F.slot_enumerate_next ty F.entry_enumerate_next ?_ (F.args_enumerate_next_1 _))))
  show wpAny _ _ (field (.ref e) 2 >>= _) _ _ _
  refine wpAny_bind (wpAny_field he rfl (x := .ref it) rfl (wpAny_bind (wpAny_nextOf_tuple_end hh hit ht hx fun h' x he' ⟨o, ho, hc⟩ => ?_)))
  exact wpAny_bind (wpAny_isInstance (T := "StopIteration") (b := true) ⟨o, ho, hc⟩ isSubtype_stop (wpAny_pure (hQ _ he')))
/-- the tuple at a, each item in a new pair -/
def IteT (K : PySem.W.Frag) (a : Addr) : It :=
  ⟨fun i H => ∃ (xs : List V) (x : V), SqT K H a xs ∧ xs[i]? = some x, fun i H v H' => ∃ T x, v = .ref T ∧ H T = none ∧ H' = upd H T (.tup [.int (i : Nat), x]) ∧ ∀ xs, SqT K H a xs → xs[i]? = some x, fun i H => ∃ xs : List V, SqT K H a xs ∧ xs.length ≤ i⟩
theorem turn_enumT {P : Program} {w : World} {K : PySem.W.Frag} {elts : List Expr} {kk : Nat} {tpos : Pos} (a e it : Addr) :
    Turn P w K (.Tuple elts kk tpos) (IteT K a) [e, it] e (fun i h => (∃ old, IsEnum h e it ((i : Nat) : Int) old) ∧ h.IsTupleIter it a i ∧ e ≠ it ∧ a ≠ it ∧ e ≠ a) where
  mem := by simp
  obj := fun i h st b hb => by
    obtain ⟨⟨old, he⟩, ⟨o, ho, hc, hd⟩, _⟩ := st
    have z : b = e ∨ b = it := by simpa using hb
    rcases z with rfl | rfl
    · exact ⟨_, he, fun v q => nomatch q⟩
    · exact ⟨o, ho, fun v q => by rw [hd] at q; cases q⟩
  keep := fun i h h' st k => let ⟨⟨old, he⟩, hi, r⟩ := st; ⟨⟨old, k e (by simp) _ he⟩, hi.at fun o q => k it (by simp) o q, r⟩
  item := by
    intro X hP hw hK hc i pins s σ H E I hf st hg
    subst hP hw hK
    obtain ⟨⟨old, he⟩, hit, hne, hai, hea⟩ := st
    obtain ⟨xs, x, hq, hx⟩ := hg
    obtain ⟨its, rv, p, hz⟩ := I.tuple hq
    obtain ⟨u, hu, ru⟩ := rv.get hx
    have hel : e < s.heap.objs.size := Heap.lt_size he
    have hil : it < s.heap.objs.size := by obtain ⟨_, q, _⟩ := hit; exact Heap.lt_size q
    have hd : X.A.in1.handled = none := I.ok.hd hc
    have hlt : i < its.toArray.size := by
      have := (List.getElem?_eq_some_iff.mp hu).1
      simpa using this
    refine wpAny_pyNext_enum_itemD (Draws.tuple hd it a hai its.toArray) he ⟨hit, p⟩ hlt hne (by simp [hne, hea]) fun u' h' tk hu' ho hst hT hsz hk => ?_
    have eu : u' = u := by
      have hu2 : its[i]? = some u' := by simpa using hu'
      rw [hu] at hu2
      exact (Option.some.inj hu2).symm
    subst eu
    refine ⟨_, rfl, wpAny_letOwnedTupleGo_enum (s := { s with heap := h', toks := tk + 1 }) ho fun h'' he' sb => ?_⟩
    have hT2 : h''.get? s.heap.objs.size = some { cls := .type "tuple", data := .seq #[.int i tk, u'] } := (sb.2 _ (Nat.ne_of_gt hel)).trans hT
    have new : ObjOk X.prog X.w (upd H s.heap.objs.size (.tup [.int (i : Nat), x])) h'' s.heap.objs.size (.tup [.int (i : Nat), x]) := ⟨by show 2 ≤ sizeLine; decide, [.int i tk, u'], .cons ⟨_, rfl⟩ (.cons ru .nil), ⟨_, hT2, rfl, _, rfl⟩⟩
    have J : Inv X pins σ (upd H s.heap.objs.size (.tup [.int (i : Nat), x])) { s with heap := h'', toks := tk + 1 } := I.turnedNew (ch := [e, it]) (fun b ob hb q => (sb.2 b (fun z => hb (by simp [z]))).trans (hk b ob (fun z => hb (by simp [z])) (fun z => hb (by simp [z])) q)) hf (Nat.le_refl _) new
    refine ⟨.ref s.heap.objs.size, _, J, rfl, ⟨_, x, rfl, I.hok.fresh (Nat.le_refl _), rfl, fun ys hy => by rw [I.tuple_inj hy hq]; exact hx⟩, ⟨⟨u', ?_⟩, hst.1.at fun o q => (sb.2 it (Ne.symm hne)).trans q, hne, hai, hea⟩, fun b hb => ?_⟩
    · rw [show ((i + 1 : Nat) : Int) = (i : Int) + 1 by omega]
      exact he'
    · have hb' : b < s.heap.objs.size := by
        have z : b = e ∨ b = it := by simpa using hb
        rcases z with rfl | rfl
        · exact hel
        · exact hil
      rw [upd_ne (Nat.ne_of_lt hb')]
      exact (hf b hb).1
  done := by
    intro X hP hw hK hc i pins s σ H E I hf st hg
    subst hP hw hK
    obtain ⟨⟨old, he⟩, hit, hne, hai, hea⟩ := st
    obtain ⟨xs, hq, hx⟩ := hg
    obtain ⟨its, rv, p, hz⟩ := I.tuple hq
    obtain ⟨f0, f1, f2, f3, f4, f5⟩ := hf it (by simp)
    have hd : X.A.in1.handled = none := I.ok.hd hc
    have hl := rv.length
    exact enum_endT hd he hit p (by simp; omega) fun h' eb => ⟨rfl, I.turned (t' := s.toks) (fun b o hb q => eb b o hb q) f0 f1 f3 f4 f5⟩
  self := fun A i s Q E st h => let ⟨⟨_, he⟩, _⟩ := st; wpAny_pyIter_enum he h
def iEnumT (K : PySem.W.Frag) (ta : TA) : TI := fun σ H R => ta σ H fun vs H1 => ∃ a xs, vs = [.ref a] ∧ SqT K H1 a xs ∧ R (IteT K a) H1
theorem pi_enumT {X : Cx} {e : Expr} {ta : TA} {p pos tpos : Pos} {elts : List Expr} {kk : Nat} (hg : Gl X "enumerate") (hm : X.mg "enumerate" = none) (ha : PA X [e] ta) (hs : starEach [e] X.env = [(false, eval e X.env)] := by rfl) :
    PI X (.Tuple elts kk tpos) (.Call (.Name "enumerate" p) [e] [] pos) (iEnumT X.K ta) := by
  refine ⟨fun pins s σ H R I h => Call_ (ld_blt I hg hm boot_enumerate (PyProof.Rows.callWith_type1 (thn (ha.run pos pins s σ H _ I h) fun us s1 ⟨vs, H1, J, r1, q1⟩ => ?_) hs rfl))⟩
  obtain ⟨a, xs, ex, hq, q⟩ := q1
  subst ex
  cases r1 with
  | cons r rr =>
    cases rr
    cases r
    obtain ⟨its, rv, tp, hz⟩ := J.tuple hq
    have hal : a < s1.heap.objs.size := by
      obtain ⟨o, ho, _⟩ := tp
      exact Heap.lt_size ho
    refine call_enumT tp fun h' he hit hk => wpAny_pyIter_enum he ?_
    have J2 : Inv X pins σ H1 { s1 with heap := h' } := J.kept (t' := s1.toks) hk
    refine ⟨s1.heap.objs.size + 1, [s1.heap.objs.size + 1, s1.heap.objs.size], _, _, H1, rfl, J2, turn_enumT a (s1.heap.objs.size + 1) s1.heap.objs.size, ⟨⟨.none, he⟩, hit, Nat.succ_ne_self _, Nat.ne_of_lt hal, Nat.ne_of_gt (Nat.lt_succ_of_lt hal)⟩, fun b hb => ?_, q⟩
    have z : b = s1.heap.objs.size + 1 ∨ b = s1.heap.objs.size := by simpa using hb
    have hle : s1.heap.objs.size ≤ b := by
      rcases z with rfl | rfl
      · exact Nat.le_succ _
      · exact Nat.le_refl _
    exact J.fpOk hle (J.hok.fresh hle)
/-- a comprehension over enumerate(tuple) -/
theorem lc_enumT {K : PySem.W.Frag} {a : Addr} {xs : List V} {g : TG} {tt : TT} {te : TE} {vs : List Nat} {σ : L2.St} {H1 : Hp} {D : Addr} {Qd : Hp → Prop} (Pv : Nat → Hp → Prop) (h0 : Pv 0 (upd H1 D (.lst []))) (hl : ∀ i H, i ≤ xs.length → Pv i H → SqT K H a xs)
    (hs : ∀ i x T H, xs[i]? = some x → Pv i H → H T = none → g (.ref T) (wipe σ vs) (upd H T (.tup [.int (i : Nat), x])) fun σ2 H2 => wipe σ2 vs = wipe σ vs ∧ tt σ2 H2 fun b H3 =>
      if b = true then te σ2 H3 fun y H4 => ∃ acc, H4 D = some (.lst acc) ∧ acc.length < sizeLine ∧ Pv (i + 1) (upd H4 D (.lst (acc ++ [y]))) else Pv (i + 1) H3) (hd : ∀ H, Pv xs.length H → Qd H) :
    ∃ W : Nat → Nat → Hp → Prop, (∃ m, W 0 m (upd H1 D (.lst []))) ∧ ∀ i m H, W i m H →
      ((IteT K a).stop i H ∧ Qd H) ∨ ((IteT K a).go i H ∧ ∃ Nx : Hp → Prop, (∀ H', Nx H' → ∃ m', m' < m ∧ W (i + 1) m' H') ∧ ∀ x H', (IteT K a).yld i H x H' → g x (wipe σ vs) H' fun σ2 H2 => wipe σ2 vs = wipe σ vs ∧ tt σ2 H2 fun b H3 =>
        if b = true then te σ2 H3 fun y H4 => ∃ acc, H4 D = some (.lst acc) ∧ acc.length < sizeLine ∧ Nx (upd H4 D (.lst (acc ++ [y]))) else Nx H3) := by
  refine ⟨fun i m H => m = xs.length - i ∧ i ≤ xs.length ∧ Pv i H, ⟨_, rfl, Nat.zero_le _, h0⟩, ?_⟩
  rintro i m H ⟨rfl, hi, p⟩
  have sq := hl i H hi p
  by_cases c : i < xs.length
  · refine .inr ⟨⟨xs, xs[i], sq, by simp [c]⟩, Pv (i + 1), fun H' p' => ⟨xs.length - (i + 1), by omega, rfl, c, p'⟩, fun x H' y => ?_⟩
    obtain ⟨T, z, rfl, hT, rfl, hx⟩ := y
    exact hs i z T H (hx xs sq) p hT
  · have e : i = xs.length := by omega
    subst e
    exact .inl ⟨⟨xs, sq, Nat.le_refl _⟩, hd H p⟩
end BF

/-! ### further rules: min of a pair -/
namespace BF
open PySem PySem.Spec PyProof.Rows L2
def rMinT (K : PySem.W.Frag) : List V → Hp → VK → Prop := fun vs H Q => ∃ (a : Addr) (i j : Int), vs = [V.ref a] ∧ SqT K H a [.int i, .int j] ∧ Q (.int (min i j)) H
theorem cr_minT {X : Cx} (hu : X.A.units + 64 < cLine) (hc : X.calm = true) : CallR X (.builtin "min") (rMinT X.K) := by
  intro pins s σ H vs us Q I r h
  obtain ⟨a, i, j, rfl, hs, q⟩ := h
  obtain ⟨its, rv, ht, _⟩ := I.tuple hs
  rw [Vals.ref1 r]
  obtain ⟨as, ra⟩ := Dp.readsAll I [.int i, .int j] _ _ (.cons (.int i) (.cons (.int j) .nil)) rv
  have al : PySem.W.AlikeAll [.int i, .int j] := by
    refine ⟨fun x hx y hy => ?_, fun x hx => ?_⟩
    · have ex : x = .int i ∨ x = .int j := by simpa using hx
      have ey : y = .int i ∨ y = .int j := by simpa using hy
      rcases ex with rfl | rfl <;> rcases ey with rfl | rfl <;> rfl
    · have ex : x = .int i ∨ x = .int j := by simpa using hx
      rcases ex with rfl | rfl <;> exact fun z => nomatch z
  refine PySem.W.min_tuple_data (I.ok.hd hc) ht (by simpa using ra) al ?_ fun k v h' tk bs hv hr hk => ?_
  · have : PyData.depthAll [.int i, .int j] ≤ 8 := by simp [PyData.depthAll, PyData.depth]
    omega
  · have e : PySem.W.minD (.int i) [.int j] = .int (min i j) := PySem.W.minD_ints i [j]
    rw [e] at hr
    refine ⟨.int (min i j), H, I.kept hk, ?_, q⟩
    cases hr with
    | int n t => exact ⟨t, rfl⟩
end BF

/-! ### bricks and cells, in plain words -/
namespace BF
open PySem L2
structure Brick where
  x : Int
  y : Int
  l : Bool
def Brick.vs (b : Brick) : List V := [.int b.x, .int b.y, .bl b.l]
/-- along, up -/
def Brick.lo (f s : Int) (b : Brick) : Int := if b.l then f else s
def Brick.hi (f s : Int) (b : Brick) : Int := if b.l then s else f
def beyB (L W f s : Int) (b : Brick) : Bool := decide (b.x < 0) || (decide (b.y < 0) || (decide (L < b.x + b.lo f s) || decide (W < b.y + b.hi f s)))
def covB (f s : Int) (c : Int × Int) (b : Brick) : Bool := (decide (b.x ≤ c.1) && decide (c.1 < b.x + b.lo f s)) && (decide (b.y ≤ c.2) && decide (c.2 < b.y + b.hi f s))
def oftN (f s : Int) (bs : List Brick) (c : Int × Int) : Nat := (bs.filter (covB f s c)).length
def cellB (L W : Int) (c : Int × Int) : Bool := (decide (0 ≤ c.1) && decide (c.1 < L)) && (decide (0 ≤ c.2) && decide (c.2 < W))
/-- a column of cells, columns of cells -/
def colL (x y : Int) (n : Nat) : List (Int × Int) := (List.range n).map fun j : Nat => (x, y + (j : Int))
def colsL (x y : Int) (m n : Nat) : List (Int × Int) := (List.range m).flatMap fun i : Nat => colL (x + (i : Int)) y n
def cellsL (f s : Int) (b : Brick) : List (Int × Int) := colsL b.x b.y (b.lo f s).toNat (b.hi f s).toNat
theorem col_succ (x y : Int) (n : Nat) : colL x y (n + 1) = colL x y n ++ [(x, y + (n : Int))] := by
  unfold colL
  rw [List.range_succ, List.map_append]
  rfl
theorem col_len (x y : Int) (n : Nat) : (colL x y n).length = n := by
  unfold colL
  rw [List.length_map, List.length_range]
theorem cols_succ (x y : Int) (m n : Nat) : colsL x y (m + 1) n = colsL x y m n ++ colL (x + (m : Int)) y n := by
  unfold colsL
  rw [List.range_succ, List.flatMap_append]
  simp
theorem cols_len (x y : Int) (n : Nat) : ∀ m, (colsL x y m n).length = m * n
  | 0 => by simp [colsL]
  | m + 1 => by
    rw [cols_succ, List.length_append, cols_len x y n m, col_len, Nat.succ_mul]
theorem col_count (x y : Int) (c : Int × Int) : ∀ n : Nat, (colL x y n).count c = if c.1 = x ∧ y ≤ c.2 ∧ c.2 < y + (n : Int) then 1 else 0
  | 0 => by
    rw [if_neg (by omega)]
    rfl
  | n + 1 => by
    rw [col_succ, List.count_append, col_count x y c n]
    obtain ⟨a, b⟩ := c
    by_cases h : (a, b) = (x, y + (n : Int))
    · have h1 : a = x := congrArg Prod.fst h
      have h2 : b = y + (n : Int) := congrArg Prod.snd h
      rw [h, List.count_singleton_self]
      show (if x = x ∧ y ≤ y + (n : Int) ∧ y + (n : Int) < y + (n : Int) then 1 else 0) + 1 = if x = x ∧ y ≤ y + (n : Int) ∧ y + (n : Int) < y + ((n + 1 : Nat) : Int) then 1 else 0
      rw [if_neg (show ¬ (x = x ∧ y ≤ y + (n : Int) ∧ y + (n : Int) < y + (n : Int)) by omega), if_pos (show x = x ∧ y ≤ y + (n : Int) ∧ y + (n : Int) < y + ((n + 1 : Nat) : Int) by omega)]
    · have e : [(x, y + (n : Int))].count (a, b) = 0 := List.count_eq_zero_of_not_mem (by
        intro z
        exact h (List.mem_singleton.mp z))
      rw [e]
      have ne : ¬ (a = x ∧ b = y + (n : Int)) := fun z => h (by rw [z.1, z.2])
      simp only
      by_cases g : a = x ∧ y ≤ b ∧ b < y + (n : Int)
      · rw [if_pos g, if_pos (by omega)]
      · rw [if_neg g, if_neg (by omega)]
theorem cols_count (x y : Int) (n : Nat) (c : Int × Int) : ∀ m : Nat, (colsL x y m n).count c = if (x ≤ c.1 ∧ c.1 < x + (m : Int)) ∧ y ≤ c.2 ∧ c.2 < y + (n : Int) then 1 else 0
  | 0 => by
    rw [if_neg (by omega)]
    rfl
  | m + 1 => by
    rw [cols_succ, List.count_append, cols_count x y n c m, col_count]
    by_cases h : c.1 = x + (m : Int)
    · rw [if_neg (by omega)]
      by_cases g : y ≤ c.2 ∧ c.2 < y + (n : Int)
      · rw [if_pos (by omega), if_pos (by omega)]
      · rw [if_neg (by omega), if_neg (by omega)]
    · rw [if_neg (c := c.1 = x + (m : Int) ∧ y ≤ c.2 ∧ c.2 < y + (n : Int)) (by omega)]
      by_cases g : (x ≤ c.1 ∧ c.1 < x + (m : Int)) ∧ y ≤ c.2 ∧ c.2 < y + (n : Int)
      · rw [if_pos g, if_pos (by omega)]
      · rw [if_neg g, if_neg (by omega)]
theorem cells_count {f s : Int} (hf : 0 < f) (hs : 0 < s) (b : Brick) (c : Int × Int) : (cellsL f s b).count c = if covB f s c b then 1 else 0 := by
  unfold cellsL
  rw [cols_count]
  have h1 : 0 < b.lo f s := by unfold Brick.lo; split <;> omega
  have h2 : 0 < b.hi f s := by unfold Brick.hi; split <;> omega
  have e1 : ((b.lo f s).toNat : Int) = b.lo f s := Int.toNat_of_nonneg (by omega)
  have e2 : ((b.hi f s).toNat : Int) = b.hi f s := Int.toNat_of_nonneg (by omega)
  rw [e1, e2]
  unfold covB
  by_cases g : (b.x ≤ c.1 ∧ c.1 < b.x + b.lo f s) ∧ b.y ≤ c.2 ∧ c.2 < b.y + b.hi f s
  · rw [if_pos g, decide_eq_true g.1.1, decide_eq_true g.1.2, decide_eq_true g.2.1, decide_eq_true g.2.2]
    rfl
  · rw [if_neg g]
    have e : ((decide (b.x ≤ c.1) && decide (c.1 < b.x + b.lo f s)) && (decide (b.y ≤ c.2) && decide (c.2 < b.y + b.hi f s))) = false := by
      apply Bool.eq_false_iff.mpr
      intro z
      simp only [Bool.and_eq_true, decide_eq_true_eq] at z
      exact g ⟨⟨z.1.1, z.1.2⟩, z.2.1, z.2.2⟩
    rw [e]
    rfl
/-- all cells of all bricks -/
def allL (f s : Int) (bs : List Brick) : List (Int × Int) := bs.flatMap (cellsL f s)
theorem all_count {f s : Int} (hf : 0 < f) (hs : 0 < s) (c : Int × Int) : ∀ bs : List Brick, (allL f s bs).count c = oftN f s bs c
  | [] => rfl
  | b :: bs => by
    have ih := all_count hf hs c bs
    unfold allL at ih ⊢
    rw [List.flatMap_cons, List.count_append, ih, cells_count hf hs]
    unfold oftN
    rw [List.filter_cons]
    split <;> simp <;> omega
/-- the floor's cells -/
def gridL (L W : Int) : List (Int × Int) := colsL 0 0 L.toNat W.toNat
theorem grid_count {L W : Int} (hL : 0 ≤ L) (hW : 0 ≤ W) (c : Int × Int) : (gridL L W).count c = if cellB L W c then 1 else 0 := by
  unfold gridL
  rw [cols_count, Int.toNat_of_nonneg hL, Int.toNat_of_nonneg hW]
  unfold cellB
  by_cases g : (0 ≤ c.1 ∧ c.1 < 0 + L) ∧ 0 ≤ c.2 ∧ c.2 < 0 + W
  · rw [if_pos g, decide_eq_true g.1.1, decide_eq_true (show c.1 < L by omega), decide_eq_true g.2.1, decide_eq_true (show c.2 < W by omega)]
    rfl
  · rw [if_neg g]
    have e : ((decide (0 ≤ c.1) && decide (c.1 < L)) && (decide (0 ≤ c.2) && decide (c.2 < W))) = false := by
      apply Bool.eq_false_iff.mpr
      intro z
      simp only [Bool.and_eq_true, decide_eq_true_eq] at z
      omega
    rw [e]
    rfl
/-- a sum of counts over a list without doubles -/
theorem sum_counts {all : List (Int × Int)} : ∀ {g : List (Int × Int)}, (∀ c, g.count c ≤ 1) → (∀ c ∈ all, c ∈ g) → (g.map fun c => all.count c).sum = all.length := by
  induction all with
  | nil =>
    intro g k1 k2
    clear k1 k2
    show (g.map fun c => ([] : List (Int × Int)).count c).sum = 0
    induction g with
    | nil => rfl
    | cons a g ih =>
      rw [List.map_cons, List.sum_cons, ih]
      rfl
  | cons x all ih =>
    intro g h1 h2
    have hx : g.count x = 1 := by
      have := h1 x
      have := List.count_pos_iff.mpr (h2 x (by simp))
      omega
    have e : ∀ g : List (Int × Int), (g.map fun c => (x :: all).count c).sum = (g.map fun c => all.count c).sum + g.count x := by
      intro g
      induction g with
      | nil => rfl
      | cons a g ihg =>
        rw [List.map_cons, List.sum_cons, ihg, List.map_cons, List.sum_cons, List.count_cons, List.count_cons]
        by_cases z : a = x
        · subst z; simp; omega
        · have z1 : (x == a) = false := by simpa using fun h => z h.symm
          have z2 : (a == x) = false := by simpa using z
          rw [z1, z2]; simp; omega
    rw [e, ih h1 (fun c hc => h2 c (List.mem_cons_of_mem _ hc)), hx, List.length_cons]
theorem sum_ones {h : Int × Int → Nat} : ∀ {g : List (Int × Int)}, (∀ c ∈ g, h c ≤ 1) → (g.map h).sum = g.length → ∀ c ∈ g, h c = 1
  | [], _, _, c, hc => by cases hc
  | a :: g, h1, e, c, hc => by
    have le : ∀ g : List (Int × Int), (∀ c ∈ g, h c ≤ 1) → (g.map h).sum ≤ g.length := by
      intro g hg
      induction g with
      | nil => exact Nat.le_refl _
      | cons b g ih =>
        rw [List.map_cons, List.sum_cons, List.length_cons]
        have := hg b (by simp)
        have := ih fun c hc => hg c (List.mem_cons_of_mem _ hc)
        omega
    rw [List.map_cons, List.sum_cons, List.length_cons] at e
    have a1 := h1 a (by simp)
    have g1 := le g fun c hc => h1 c (List.mem_cons_of_mem _ hc)
    rcases List.mem_cons.mp hc with rfl | hc
    · omega
    · exact sum_ones (fun c hc => h1 c (List.mem_cons_of_mem _ hc)) (by omega) c hc
theorem all_ones {h : Int × Int → Nat} : ∀ {g : List (Int × Int)}, (∀ c ∈ g, h c = 1) → (g.map h).sum = g.length
  | [], _ => rfl
  | a :: g, e => by
    rw [List.map_cons, List.sum_cons, List.length_cons, e a (by simp), all_ones fun c hc => e c (List.mem_cons_of_mem _ hc)]
    omega
theorem cov_cell {L W f s : Int} {b : Brick} {c : Int × Int} (h : beyB L W f s b = false) (g : covB f s c b = true) : cellB L W c = true := by
  unfold beyB at h
  unfold covB at g
  unfold cellB
  simp only [Bool.or_eq_false_iff, decide_eq_false_iff_not] at h
  simp only [Bool.and_eq_true, decide_eq_true_eq] at g ⊢
  omega
theorem mem_cells {f s : Int} (hf : 0 < f) (hs : 0 < s) {b : Brick} {c : Int × Int} (h : c ∈ cellsL f s b) : covB f s c b = true := by
  have := List.count_pos_iff.mpr h
  rw [cells_count hf hs] at this
  by_cases g : covB f s c b = true
  · exact g
  · rw [if_neg g] at this; omega
theorem mem_grid {L W : Int} (hL : 0 ≤ L) (hW : 0 ≤ W) {c : Int × Int} : c ∈ gridL L W ↔ cellB L W c = true := by
  constructor
  · intro h
    have := List.count_pos_iff.mpr h
    rw [grid_count hL hW] at this
    by_cases g : cellB L W c = true
    · exact g
    · rw [if_neg g] at this; omega
  · intro h
    refine List.count_pos_iff.mp ?_
    rw [grid_count hL hW, if_pos h]
    omega
/-- laid: as the program reckons it, and cell by cell -/
theorem full_iff {L W f s : Int} (hL : 0 < L) (hW : 0 < W) (hf : 0 < f) (hs : 0 < s) {bs : List Brick} (hb : ∀ b ∈ bs, beyB L W f s b = false) :
    ((allL f s bs).Nodup ∧ ((allL f s bs).length : Int) = L * W) ↔ ∀ c, cellB L W c = true → oftN f s bs c = 1 := by
  have sub : ∀ c ∈ allL f s bs, c ∈ gridL L W := by
    intro c hc
    obtain ⟨b, hbm, hcb⟩ := List.mem_flatMap.mp hc
    exact (mem_grid (by omega) (by omega)).mpr (cov_cell (hb b hbm) (mem_cells hf hs hcb))
  have g1 : ∀ c, (gridL L W).count c ≤ 1 := fun c => by
    rw [grid_count (by omega) (by omega)]
    split <;> omega
  have gl : ((gridL L W).length : Int) = L * W := by
    unfold gridL
    rw [cols_len, Int.natCast_mul, Int.toNat_of_nonneg (by omega), Int.toNat_of_nonneg (by omega)]
  have sm := sum_counts g1 sub
  constructor
  · rintro ⟨nd, len⟩ c hc
    have e : ((gridL L W).map fun c => (allL f s bs).count c).sum = (gridL L W).length := by omega
    have := sum_ones (h := fun c => (allL f s bs).count c) (fun c _ => List.nodup_iff_count.mp nd c) e c ((mem_grid (by omega) (by omega)).mpr hc)
    rw [← all_count hf hs]
    exact this
  · intro h
    have e := all_ones (h := fun c => (allL f s bs).count c) (g := gridL L W) fun c hc => by
      show (allL f s bs).count c = 1
      rw [all_count hf hs]
      exact h c ((mem_grid (by omega) (by omega)).mp hc)
    refine ⟨List.nodup_iff_count.mpr fun c => ?_, by omega⟩
    by_cases hc : c ∈ allL f s bs
    · rw [all_count hf hs, h c ((mem_grid (by omega) (by omega)).mp (sub c hc))]
      exact Nat.le_refl _
    · rw [List.count_eq_zero_of_not_mem hc]
      omega
end BF

/-! ### the error classes, raising, what an except suite asks -/
namespace BF
open PySem PySem.Spec PyProof.Rows L2
inductive Er where
  | floor | size | cell | colour | bricks | barred | great
deriving DecidableEq
def Er.nm : Er → Str
  | .floor => "FloorError"
  | .size => "BadSize"
  | .cell => "BadCell"
  | .colour => "BadColour"
  | .bricks => "BadBricks"
  | .barred => "Barred"
  | .great => "TooGreat"
def Er.has : List Er := [.floor, .size, .cell, .colour, .bricks, .barred, .great]
theorem mem_er (e : Er) : e ∈ Er.has := by cases e <;> decide
abbrev er (K : PySem.W.Frag) (x : Er) : Addr := He.ga K x.nm
abbrev veB : List Value := [.type "ValueError", .type "Exception", .type "BaseException", .type "object"]
structure ErF (K : PySem.W.Frag) (e : Er) : Prop where
  x : PySem.W.excIn K (er K e) veB "ValueError.__new__" = true
  kp : PySem.W.keepIn K (.ref (er K e)) = true
  b : PySem.W.subIn K (.ref (er K e)) (.type "BaseException") = some true
  t : PySem.W.typeIn K (.ref (er K e)) = some (.type "type")
  ex : PySem.W.exmOne K (.ref (er K e)) (.ref (er K .floor)) = some true
  C : ExcC K (er K e)
  kit : ∀ y ∈ Er.has, PySem.W.kitOne K (.ref (er K e)) (.ref (er K y)) = some (decide (y = e) || decide (y = .floor))
  kitV : PySem.W.kitOne K (.ref (er K e)) (.type "ValueError") = some true
structure ErG (K : PySem.W.Frag) (mg : Str → Option Value) : Prop where
  g : ∀ x : Er, mg x.nm = some (.ref (er K x))
  f : ∀ x : Er, ErF K x
def erB (K : PySem.W.Frag) (e : Er) : Bool := (He.Fa.glo e.nm).ok K && (PySem.W.excIn K (er K e) veB "ValueError.__new__" && (PySem.W.keepIn K (.ref (er K e)) && (decide (PySem.W.subIn K (.ref (er K e)) (.type "BaseException") = some true) &&
  (decide (PySem.W.typeIn K (.ref (er K e)) = some (.type "type")) && (decide (PySem.W.exmOne K (.ref (er K e)) (.ref (er K .floor)) = some true) &&
  (decide (PySem.W.findIn K (.ref (er K e)) "__getattribute__" = some (some (.builtin "BaseException.__getattribute__"))) && (decide (PySem.W.findIn K (.ref (er K e)) "__getattr__" = some none) && (PySem.W.hasDictIn K (er K e) &&
  (decide (PySem.W.findIn K (.ref (er K e)) "__class__" = some (some (.builtin "object.__class__"))) && (decide (PySem.W.specialIn K (.builtin "object.__class__") "__get__" = some (some (.builtin "getset_descriptor.__get__"))) &&
  (decide (PySem.W.takesIn K (.builtin "object.__class__") = some true) && (decide (PySem.W.mroIn K (er K e) (.type "object") = some true) &&
  ((Er.has.all fun y => decide (PySem.W.kitOne K (.ref (er K e)) (.ref (er K y)) = some (decide (y = e) || decide (y = .floor)))) && decide (PySem.W.kitOne K (.ref (er K e)) (.type "ValueError") = some true))))))))))))))
def ersB (K : PySem.W.Frag) : Bool := Er.has.all (erB K)
theorem ersB_ok {K : PySem.W.Frag} {h : Heap} {mg : Str → Option Value} (X : K.In h) (G : h.Ns mainGlobals mg) (c : ersB K = true) : ErG K mg := by
  have a := List.all_eq_true.mp c
  refine ⟨fun x => ?_, fun x => ?_⟩
  · have b := a x (mem_er x)
    unfold erB at b
    exact He.glo_ok X G (He.ba b).1
  · have b := a x (mem_er x)
    unfold erB at b
    obtain ⟨_, b⟩ := He.ba b
    obtain ⟨b1, b⟩ := He.ba b
    obtain ⟨b2, b⟩ := He.ba b
    obtain ⟨b3, b⟩ := He.ba b
    obtain ⟨b4, b⟩ := He.ba b
    obtain ⟨b5, b⟩ := He.ba b
    obtain ⟨b6, b⟩ := He.ba b
    obtain ⟨b7, b⟩ := He.ba b
    obtain ⟨b8, b⟩ := He.ba b
    obtain ⟨b9, b⟩ := He.ba b
    obtain ⟨b10, b⟩ := He.ba b
    obtain ⟨b11, b⟩ := He.ba b
    obtain ⟨b12, b⟩ := He.ba b
    obtain ⟨b13, b14⟩ := He.ba b
    have s := of_decide_eq_true b3
    exact ⟨b1, b2, s, of_decide_eq_true b4, of_decide_eq_true b5, ⟨of_decide_eq_true b6, of_decide_eq_true b7, s, b8, of_decide_eq_true b9, of_decide_eq_true b10, of_decide_eq_true b11, of_decide_eq_true b12⟩, fun y hy => of_decide_eq_true (List.all_eq_true.mp b13 y hy), of_decide_eq_true b14⟩
abbrev CXN (P : Program) (w : World) : CXT := L2N.CX P w
section
variable {X : Cx} {e : Er} {x m : Str} {j : Nat} {p p2 pos : Pos}
/-- Error("..") -/
theorem pmk_err (G : ErG X.K X.mg) (hx : x = e.nm) (hg : Gl X x := by rfl) (hdb : (x == ("__debug__" : Str)) = false := by decide) : L2N.PMk X (.Call (.Name x p) [.Constant (.str m) j p2] [] pos) (fun _ H Q => Q (.ref (er X.K e)) none H) :=
  L2N.pmk_own PySem.F.excBase_ValueError (G.f e).x (by rw [hx]; exact G.g e) (G.f e).kp (raises_own (G.f e).b (G.f e).t) hg hdb
end
section
variable {X : Cx} {k : Nat} {ps : List Str} {sp : Sp} {E : L2.St → XK} {x : Str} {p pos : Pos} {e : Expr} {es : List Expr} {t : TA} {C : CXT}
/-- a call whose errors are caught here -/
theorem pe_fnS (h : Has X.prog X.w X.K X.mg X.base C k x ps sp) (hr : Room k X.A) (hx : ∀ σ, PassesAt C X σ (E σ)) (ha : PA X (e :: es) t) (hg : Gl X x := by rfl) (hdb : (x == ("__debug__" : Str)) = false := by decide)
    (he : starEach (e :: es) X.env = (false, eval e X.env) :: starEach es X.env := by rfl) (hpl : (backTo pos (starEach es X.env)).any (·.1) = false := by rfl) : PE X (.Call (.Name x p) (e :: es) [] pos) (tCallS sp E t) := by
  obtain ⟨f, fd, F, hm, hk, hb, _⟩ := h
  exact pe_callS F hr hg hm hk hb hx ha hdb he hpl
theorem pss_any {ι : Type} {ss : List Stmt} {Ok : ι → Prop} {t : ι → TS} (h : ∀ i, Ok i → PSs X ss (t i)) : PSs X ss (fun D σ H => ∃ i, Ok i ∧ t i D σ H) := ⟨fun pins s σ H D I ⟨i, hi, q⟩ => (h i hi).run pins s σ H D I q⟩
end
theorem takes0N {X : Cx} : L2N.Takes X (fun _ _ _ _ => False) := fun _ _ x => by
  obtain ⟨_, _, _, _, _, _, _, _, _, _, _, _, _, _, _, _, z⟩ := x
  exact z.elim
/-- try: body, except C as n: suite -/
def tTryN (K : PySem.W.Frag) (c : Value) (i : Nat) (ts : Addr → Value → Option Addr → TS) (Wout : WX) (tb : WX → TS) : TS := fun D σ H => tb (wAs K c i ts Wout D) D σ H
theorem ps_tryN {X : Cx} {x n : Str} {c : Value} {i : Nat} {body suite : List Stmt} {b₀ : Stmt} {np pos pos' : Pos} {tb : WX → TS} {ts : Addr → Value → Option Addr → TS} {Wout : WX} (hs : X.stack = X.env :: X.outer) (hf : X.env.frame = some X.env.locals) (hN : X.N.Nodup) (hi : X.N[i]? = some n) (hln : X.env.kindOf n = some .local) (hc : Names X x c) (tk : L2N.Takes X Wout)
    (hb : ∀ (W : WX) (pn : List (Addr × Obj)) (xe : Value → Shared → Prop), L2N.Takes (X.tr pn xe) W → PassesOwn (model X.prog X.w) X.A X.env xe → PSs (X.tr pn xe) body (tb W))
    (hsu : ∀ (a : Addr) (oe : Obj) (cls : Value) (d : Option Addr) (pn : List (Addr × Obj)), L2N.Zn cls d oe → (∃ vs, oe.data = .fields vs) → PSs (X.suite a ((a, oe) :: pn)) (b₀ :: suite) (ts a cls d)) :
    PS X (.Try body [.ExceptHandler (some (.Name x np)) (some n) (b₀ :: suite) pos'] [] [] pos) (tTryN X.K c i ts Wout tb) := L2N.ps_try_as hs hf hN hi hln hc tk hb hsu
/-- the error of a suite is of the class e -/
def IsEr (K : PySem.W.Frag) (cls : Value) (d : Option Addr) (e : Er) : Prop := cls = .ref (er K e) ∧ d = none
section
variable {X : Cx} {a : Addr} {oe : Obj} {cls : Value} {d : Option Addr} {pn : List (Addr × Obj)} {e : Er}
/-- isinstance(error, Class) -/
def rIsX (K : PySem.W.Frag) (e : Er) (a : Addr) : List V → Hp → VK → Prop := fun xs H Q => ∃ y : Er, xs = [.ref a, .ref (er K y)] ∧ Q (.bl (decide (y = e) || decide (y = .floor))) H
theorem call_isX {mg : Str → Option Value} (G : ErG X.K mg) (hi : IsEr X.K cls d e) (hz : L2N.Zn cls d oe) (hf : ∃ vs, oe.data = .fields vs) : CallR (X.suite a ((a, oe) :: pn)) (.builtin "isinstance") (rIsX X.K e a) := by
  obtain ⟨rfl, rfl⟩ := hi
  intro pins s σ H xs us Q I r h
  obtain ⟨y, rfl, q⟩ := h
  exact call_isE (G.f e).C hz.zc hf pins s σ H _ us Q I r ⟨.ref (er X.K y), .ref (er X.K y), _, rfl, fun u hu => hu, (G.f e).kit y (mem_er y), q⟩
/-- isinstance(error, ValueError) -/
def rIsV (a : Addr) : List V → Hp → VK → Prop := fun xs H Q => xs = [.ref a, .ty "ValueError"] ∧ Q (.bl true) H
theorem call_isV {mg : Str → Option Value} (G : ErG X.K mg) (hi : IsEr X.K cls d e) (hz : L2N.Zn cls d oe) (hf : ∃ vs, oe.data = .fields vs) : CallR (X.suite a ((a, oe) :: pn)) (.builtin "isinstance") (rIsV a) := by
  obtain ⟨rfl, rfl⟩ := hi
  intro pins s σ H xs us Q I r h
  obtain ⟨rfl, q⟩ := h
  exact call_isE (G.f e).C hz.zc hf pins s σ H _ us Q I r ⟨.ty "ValueError", .type "ValueError", _, rfl, fun u hu => hu, (G.f e).kitV, q⟩
/-- isinstance(error, (Class, Class)) -/
def rIsX2 (K : PySem.W.Frag) (e : Er) (a : Addr) : List V → Hp → VK → Prop := fun xs H Q => ∃ (y z : Er) (t : Addr), xs = [.ref a, .ref t] ∧ H t = some (.tup [.ref (er K y), .ref (er K z)]) ∧ Q (.bl ((decide (y = e) || decide (y = .floor)) || (decide (z = e) || decide (z = .floor)))) H
theorem call_isX2 {mg : Str → Option Value} (G : ErG X.K mg) (hi : IsEr X.K cls d e) (hz : L2N.Zn cls d oe) (hf : ∃ vs, oe.data = .fields vs) : CallR (X.suite a ((a, oe) :: pn)) (.builtin "isinstance") (rIsX2 X.K e a) := by
  obtain ⟨rfl, rfl⟩ := hi
  intro pins s σ H xs us Q I r h
  obtain ⟨y, z, t, rfl, ht, q⟩ := h
  have C := (G.f e).C
  cases r with
  | cons rx rr =>
    cases rr with
    | cons rt rr =>
      cases rr
      cases rx
      cases rt
      obtain ⟨hget, _⟩ := I.pin (a, oe) (List.mem_append.mpr (.inl List.mem_cons_self))
      obtain ⟨vs, hv⟩ := hf
      have J : PySem.W.InstAt s.heap a oe (er X.K e) none := by
        obtain ⟨oc, od, oda, osl⟩ := oe
        obtain ⟨h1, h2, _⟩ := hz
        dsimp only at h1 h2 hv
        subst h1 h2 hv
        exact ⟨hget, rfl, rfl, trivial⟩
      obtain ⟨_, its, rv, o, ho, hc, n, hd⟩ := I.hok _ _ ht
      have ei : its = [Value.ref (er X.K y), Value.ref (er X.K z)] := by
        cases rv with
        | cons r1 r2 =>
          cases r2 with
          | cons r3 r4 =>
            cases r4
            cases r1
            cases r3
            rfl
      subst ei
      have k1 := (G.f e).kit y (mem_er y)
      have k2 := (G.f e).kit z (mem_er z)
      have ho' : s.heap.get? t = some ⟨.type "tuple", o.dict, .seq [Value.ref (er X.K y), Value.ref (er X.K z)].toArray n, o.slots⟩ := by
        rw [ho]
        obtain ⟨oc, od, oda, osl⟩ := o
        dsimp only at hc hd
        subst hc hd
        rfl
      refine PySem.W.kia_tup (b := ((decide (y = e) || decide (y = .floor)) || (decide (z = e) || decide (z = .floor)))) (PySem.W.handS_kitx_exc C.hg C.hk C.hs C.hd C.ha C.hn C.ht C.hm) I.kIn J ho' ?_ (fun z => nomatch z) fun tk => ⟨.bl _, H, I.kept (t' := tk) fun _ _ z => z, rfl, q⟩
      unfold PySem.W.kitAny
      rw [k1]
      cases (decide (y = e) || decide (y = Er.floor)) with
      | true => rfl
      | false =>
        unfold PySem.W.kitAny
        rw [k2]
        cases (decide (z = e) || decide (z = Er.floor)) with
        | true => rfl
        | false => rfl
end
section
variable {prog : Program} {w : World} {A : Around} {E : Value → Shared → Prop} {s : Shared}
theorem list_end_hot {it l x1 : Addr} {i : Nat} {items : Array Value} {Q : Option Value → Shared → Prop} (hot : HotX.HotAt A x1 s.heap) (hne : x1 ≠ it) (hit : s.heap.IsListIter it l i) (hl : s.heap.IsList l items) (hx : items[i]? = none)
    (hQ : ∀ h', Heap.ExtBut it s.heap h' → Q none { s with heap := h' }) : wpAny (model prog w) A (pyNext (.ref it)) Q E s := by
  obtain ⟨o, ho, hc, hd⟩ := id hit
  obtain ⟨ol, hol, _, nl, hdl⟩ := hl
  obtain ⟨hh, o1, vs1, h1, d1, c1⟩ := hot
  unfold pyNext
  refine wpAny_bind (wpAny_attempt (wpAny_callSpecial?_slot (name := Str.ofString "__next__") hit.typeIs slot_listiter_next
    (wpAny_call_entry slot_listiter_next hit.typeIs entry_listiter_next ?_ (args_listiter_next _))))
  show wpAny _ _ (field (.ref it) 0 >>= _) _ _ s
  refine wpAny_bind (wpAny_field ho hd (x := .ref l) rfl ?_)
  show wpAny _ _ (if (Value.ref l == Value.none) = true then _ else _) _ _ s
  rw [if_neg (show ¬ ((Value.ref l == Value.none) = true) from Bool.false_ne_true)]
  show wpAny _ _ (field (.ref it) 1 >>= _) _ _ s
  refine wpAny_bind (wpAny_field ho hd (x := .int i 0) rfl ?_)
  show wpAny _ _ (seqItems? (.ref l) >>= _) _ _ s
  refine wpAny_bind (wpAny_seqItems hol hdl ?_)
  simp only [Int.toNat_natCast, hx]
  refine wpAny_bind (wpAny_rule (wpAny_bind (wpAny_setField ho hd (by simp) ?_)))
  show wpAny _ _ (newExc (.type "StopIteration") [] >>= _) _ _ _
  refine wpAny_bind ?_
  simp only [newExc, newTuple]
  refine wpAny_bind (wpAny_newObj_type ?_ (by size_fits))
  refine wpAny_bind (m := firstArgMember _ _) (wpAny_of_eq (a := Value.none) (by first | rfl | (simp only [firstArgMember]; rfl)) ?_)
  refine wpAny_newObj_type ?_ (by size_fits)
  have e1 : (s.heap.update it (Obj.mapFields fun x => x.setIfInBounds 0 Value.none)).get? x1 = some o1 := by
    rw [Heap.get?_update_other _ _ hne.symm]
    exact h1
  refine HotX.raiseNew_hot ⟨hh, o1, vs1, Heap.get?_push_of_some _ (Heap.get?_push_of_some _ e1), d1, c1⟩ (Nat.ne_of_lt (Heap.lt_size (Heap.get?_push_of_some _ e1))) (Heap.get?_push_size _ rfl) rfl (by first | (simp; done) | (simp; omega) | (simp only [Array.size_append]; simp; omega)) ?_
  refine wpAny_bind (wpAny_isInstance (T := "StopIteration") (b := true) ⟨_, Heap.get?_update_self _ (Heap.get?_push_size _ rfl) rfl, rfl⟩ isSubtype_stop ?_)
  refine wpAny_pure (hQ _ fun b o hb e => ?_)
  have e2 : (s.heap.update it (Obj.mapFields fun x => x.setIfInBounds 0 Value.none)).get? b = some o := by
    rw [Heap.get?_update_other _ _ (Ne.symm hb)]
    exact e
  rw [Heap.get?_update_other _ _ (Nat.ne_of_gt (Heap.lt_size (Heap.get?_push_of_some _ e2)))]
  exact Heap.get?_push_of_some _ (Heap.get?_push_of_some _ e2)
theorem walks_hot {x1 : Addr} {o1 : Obj} {vs1 : Array Value} (hh : A.handled = some (.ref x1)) (d1 : o1.data = .fields vs1) (c1 : vs1[2]? = some .none) (I ax : Addr) (hne : ax ≠ I) (hx : x1 ≠ I) (items : Array Value) :
    Walks prog w A I [I, ax, x1] [I] items.size (fun i v => items[i]? = some v) (fun i h => (h.IsListIter I ax i ∧ h.IsList ax items) ∧ h.get? x1 = some o1) where
  sub := fun b hb => by simp at hb; simp [hb]
  frame := fun _ _ _ st hk => ⟨⟨st.1.1.at fun o e => hk I (by simp) o e, st.1.2.at fun o e => hk ax (by simp) o e⟩, hk x1 (by simp) _ st.2⟩
  item := fun i s Q E hi st hQ => by
    refine wpAny_pyNext_list_item st.1.1 st.1.2 (x := items[i]) (by simp [hi]) fun h' hit' hs' => ?_
    exact hQ _ h' s.toks (by simp [hi]) ⟨⟨hit', st.1.2.extBut hs'.extBut hne⟩, hs'.extBut _ _ hx st.2⟩ fun b o hb e => hs'.extBut b o (fun h => hb (by simp [h])) e
  done := fun s Q E st hQ => list_end_hot ⟨hh, o1, vs1, st.2, d1, c1⟩ hx st.1.1 st.1.2 (by simp) fun h' he' => hQ h' s.toks fun b o hb e => he' b o (fun h => hb (by simp [h])) e
  self := fun _ _ _ _ st hQ => wpAny_pyIter_listiter st.1.1 hQ
end
section
variable {X : Cx} {a : Addr} {oe : Obj} {cls : Value} {d : Option Addr} {pn : List (Addr × Obj)}
/-- any(list) in an except suite -/
theorem cr_anyH (hz : L2N.Zn cls d oe) (hf : ∃ vs, oe.data = .fields vs) : CallR (X.suite a ((a, oe) :: pn)) (.builtin "any") (rAny X.K) := by
  intro pins s σ H vs us Q I r h
  obtain ⟨l, bs, rfl, hs, q⟩ := h
  obtain ⟨its, rv, hl, _⟩ := I.list hs
  rw [Vals.ref1 r]
  have hb := rv.bls
  obtain ⟨hget, _⟩ := I.pin (a, oe) (List.mem_append.mpr (.inl List.mem_cons_self))
  obtain ⟨vs1, hv⟩ := hf
  refine call_any_walk (iter_any hl.isList fun s₂ e2 st hne => ?_)
  subst e2
  have hlt : a < s.heap.objs.size := Heap.lt_size hget
  refine ⟨_, _, _, _, _, _, _, rfl, walks_hot (A := (X.suite a ((a, oe) :: pn)).A.in1) (x1 := a) (o1 := oe) (vs1 := vs1) rfl hv (hz.2.2 vs1 hv) _ l hne (Nat.ne_of_lt hlt) its.toArray, ⟨st, Heap.get?_push_of_some _ hget⟩, truth_bools hb, fun h' tk hk => ?_⟩
  refine ⟨.bl _, H, I.kept fun b o eo => hk b o (fun hmem => ?_) (Heap.get?_push_of_some _ eo), ?_, q⟩
  · rcases List.mem_cons.mp hmem with e1 | hmem
    · exact absurd (e1 ▸ Heap.lt_size eo) (Nat.lt_irrefl _)
    · cases hmem
  · show Value.bool _ = Value.bool _
    rw [← L2.any_range, hb, List.size_toArray, List.length_map]
end
end BF

/-! short words for readings: walk_at "rd" takes all steps that are plain -/
local macro_rules | `(tactic| walk_at "bn") => `(tactic| first | with_reducible assumption | ((with_reducible show BF.Bn _ ((_ : Int) % _)); exact BF.Bn.mod (by walk_at "bn") (by walk_at "ps")) | ((with_reducible show BF.Bn _ ((_ : Int) / _)); exact BF.Bn.div (by walk_at "bn") (by walk_at "ps")) | ((with_reducible show BF.Bn _ ((_ : Int) * _)); exact BF.Bn.mul (by walk_at "bn") (by walk_at "bn")) | ((with_reducible show BF.Bn _ ((_ : Int) + _)); exact BF.Bn.add (by walk_at "bn") (by walk_at "bn")) | ((with_reducible show BF.Bn _ ((_ : Int) - _)); exact BF.Bn.sub (by walk_at "bn") (by walk_at "bn")) | exact BF.Sz.bn (by with_reducible assumption) | exact BF.bnl (n := 80) (by decide))
local macro_rules | `(tactic| walk_at "ps") => `(tactic| first | with_reducible assumption | decide | exact BF.Sz.pos (by with_reducible assumption) | omega)
local macro_rules | `(tactic| walk_at "sd") => `(tactic| first | with_reducible assumption | ((with_reducible show L2.CPow _ _); exact ⟨by decide, by decide, by decide⟩) | ((with_reducible show L2.CDivW _ _); first | exact BF.divOk_lit (by decide) (by decide) | exact BF.Bn.divOk (by walk_at "bn") (by walk_at "ps") (by decide) (by decide)) | ((with_reducible show L2.CMulX _ _); exact BF.Bn.mulOk (by walk_at "bn") (by walk_at "bn") (by decide)) | ((with_reducible show _ ≤ PySem.sizeLine); exact BF.size4 (by simp)) | ((with_reducible show (0 : Int) < _); walk_at "ps") | ((with_reducible show (_ : Int) ≤ _); omega) | ((with_reducible show (_ : Int) < _); omega))
local macro_rules | `(tactic| walk_at "rd1") => `(tactic| first | refine And.intro (by walk_at "sd") ?_ | refine ⟨_, rfl, ?_⟩ | refine And.intro rfl ?_ | refine ⟨_, _, rfl, rfl, ?_⟩ | refine ⟨_, _, rfl, ?_⟩ | refine ⟨_, _, _, rfl, ?_⟩)
local macro_rules | `(tactic| walk_at "rd") => `(tactic| repeat walk_at "rd1")

/-! ### sums.py -/
namespace BF
open PySem PySem.Spec PyProof.Rows L2
/-- is_number(x): x of the built-in type T -/
inductive SpIsNumber (K : PySem.W.Frag) : Sp where
  | mk {x : V} {T : String} {i b : Bool} {H : Hp} {Q : VK} {E : XK} (ty : TyX K H x (.type T)) (hi : kitB T "int" = some i) (hb : kitB T "bool" = some b) (q : Q (.bl (i && !b)) H) : SpIsNumber K [x] H Q E
theorem num_int {K : PySem.W.Frag} {H : Hp} {Q : VK} {E : XK} {n : Int} (q : Q (.bl true) H) : SpIsNumber K [.int n] H Q E := .mk (T := "int") (i := true) (b := false) (.base (.int n)) (by decide +kernel) (by decide +kernel) q
section
variable {P : Program} {w : World} {K : PySem.W.Frag} {mg : Str → Option Value} {base : Heap}
theorem H_is_number (p : Pl K mg "is_number" s_is_number) (B : Bi mg) : Has P w K mg base CX0 1 "is_number" ["thing"] (SpIsNumber K) := by
  refine p.mk0 sc_is_number (fun _ _ _ _ _ _ us hl => match us, hl with | [_], _ => rfl) (fun vs H Q E h => ?_) (fun f cdv A outer s H vs Q E hr h => ?_)
  · cases h; rfl
  · obtain @⟨x, T, i, b, _, _, _, hT, hi, hb, q⟩ := h
    refine ⟨_, (pss_one (ps_ret (pe_and (pe_callB (r := rIsi K) call_isi (by rfl) B.isinstance (by decide +kernel) (pa_cons (pv 0) (pa_cons (pe_bltn (v := .ty "int") (by rfl) B.int (by decide +kernel) rfl) pa_nil))) (pe_one (pe_not (pe_callB (r := rIsi K) call_isi (by rfl) B.isinstance (by decide +kernel) (pa_cons (pv 0) (pa_cons (pe_bltn (v := .ty "bool") (by rfl) B.bool (by decide +kernel) rfl) pa_nil)))))))), ?_⟩
    refine ⟨_, rfl, x, _, _, _, i, rfl, .ty "int", hT, kit_ty hi, i, rfl, ?_⟩
    cases i with
    | false => exact iteF q
    | true => exact iteT ⟨_, rfl, x, _, _, _, b, rfl, .ty "bool", hT, kit_ty hb, b, rfl, q⟩
theorem ints_at {ns : List Int} {i : Nat} {y : V} (h : (ns.map V.int)[i]? = some y) : ∃ n, ns[i]? = some n ∧ y = .int n := by
  rw [List.getElem?_map] at h
  cases e : ns[i]? with
  | none => rw [e] at h; cases h
  | some n =>
    rw [e] at h
    exact ⟨n, rfl, (Option.some.inj h).symm⟩
end
end BF

namespace BF
open PySem PySem.Spec PyProof.Rows L2
/-- check_sizes(some), all of them sizes -/
inductive SpCheckSizes (K : PySem.W.Frag) : Sp where
  | mk {a : Addr} {ns : List Int} {H : Hp} {Q : VK} {E : XK} (hS : SqL K H a (ns.map V.int)) (hp : ∀ n ∈ ns, 0 < n) (q : Q .non H) : SpCheckSizes K [.ref a] H Q E
section
variable {P : Program} {w : World} {K : PySem.W.Frag} {mg : Str → Option Value} {base : Heap}
theorem H_check_sizes (p : Pl K mg "check_sizes" s_check_sizes) (h_is_number : Has P w K mg base CX0 1 "is_number" ["thing"] (SpIsNumber K)) : Has P w K mg base CX0 2 "check_sizes" ["some"] (SpCheckSizes K) := by
  refine p.mk0 sc_check_sizes (fun _ _ _ _ _ _ us hl => match us, hl with | [_], _ => rfl) (fun vs H Q E h => ?_) (fun f cdv A outer s H vs Q E hr h => ?_)
  · cases h; rfl
  · obtain @⟨a, ns, _, _, _, hS, hp, q⟩ := h
    refine ⟨_, (pss_one (ps_for PassesOwn.never (by rfl) (pi_list (pv 0)) (pg_name (i := 1) sc_check_sizes.nd rfl (Or.inl rfl)) (pss_one (ps_if (PW.pt (pw_or (pt_not (pt_val (pe_fn h_is_number (hr.mono (by decide)) pass0 (pa_cons (pv 1) pa_nil)))) (pw_or1 (pt_cmpR op_lt (pv 1) pe_int (nomark _))))) (pss_one ps_never) pss_nil)))), ?_⟩
    refine ⟨_, rfl, a, rfl, ⟨_, hS⟩, for_list (K := K) (a := a) (xs := ns.map V.int) (fun i σ H' => H' = H ∧ ∃ y, σ = [some (.ref a), y]) ⟨rfl, none, rfl⟩ (fun i σ H' _ ⟨e, _⟩ => by rw [e]; exact hS) ?_ ?_⟩
    · rintro i y σ H' hi ⟨rfl, z, rfl⟩
      obtain ⟨n, hn, rfl⟩ := ints_at hi
      have h0 := hp n (List.mem_of_getElem? hn)
      refine ⟨_, rfl, num_int ⟨true, rfl, iteF ⟨_, rfl, _, _, rfl, rfl, _, rfl, ?_⟩⟩⟩
      rw [decide_eq_false (by omega)]
      exact iteF ⟨rfl, _, rfl⟩
    · rintro σ H' ⟨rfl, z, rfl⟩
      exact q
end
end BF

namespace BF
open PySem PySem.Spec PyProof.Rows L2
inductive SpShared : Sp where
  | mk {a b : Int} {H : Hp} {Q : VK} {E : XK} (ha : Sz a) (hb : Sz b) (q : ∀ g t p H', Good a b g t → g ≤ b → 0 ≤ t → t < b → Same H H' → H' p = some (.tup [.int g, .int t]) → Q (.ref p) H') : SpShared [.int a, .int b] H Q E
/-- what parts_of hands back: None, or a new pair -/
def tellParts (x : Option (Int × Int)) (H : Hp) (Q : VK) : Prop := match x with
  | none => ∀ H', Same H H' → Q .non H'
  | some y => ∀ p H', Same H H' → H p = none → H' p = some (.tup [.int y.1, .int y.2]) → Q (.ref p) H'
theorem tellParts.mono {x : Option (Int × Int)} {H H' : Hp} {Q : VK} (q : tellParts x H Q) (sm : Same H H') : tellParts x H' Q := by
  cases x with
  | none => exact fun H2 s2 => q H2 (sm.trans s2)
  | some y => exact fun p H2 s2 hn hp => q p H2 (sm.trans s2) (sm.free hn) hp
/-- the value that tells x -/
def Told (x : Option (Int × Int)) (H : Hp) (v : V) : Prop := match x with
  | none => v = .non
  | some y => ∃ p, v = .ref p ∧ H p = some (.tup [.int y.1, .int y.2])
theorem Told.mono {x : Option (Int × Int)} {H H' : Hp} {v : V} (h : Told x H v) (sm : Same H H') : Told x H' v := by
  cases x with
  | none => exact h
  | some y =>
    obtain ⟨p, e, hp⟩ := h
    exact ⟨p, e, sm _ _ hp⟩
theorem tell_of {x : Option (Int × Int)} {H : Hp} {Q : VK} (q : ∀ v H', Same H H' → Told x H' v → Q v H') : tellParts x H Q := by
  cases x with
  | none => exact fun H' sm => q _ H' sm rfl
  | some y => exact fun p H' sm _ hp => q _ H' sm ⟨p, rfl, hp⟩
inductive SpParts : Sp where
  | mk {s a b : Int} {H : Hp} {Q : VK} {E : XK} (hs : Sz s) (ha : Sz a) (hb : Sz b) (q : tellParts (parts s a b) H Q) : SpParts [.int s, .int a, .int b] H Q E
section
variable {P : Program} {w : World} {K : PySem.W.Frag} {mg : Str → Option Value} {base : Heap}
theorem H_shared (p : Pl K mg "shared" s_shared) : Has P w K mg base CX0 1 "shared" ["one", "other"] SpShared := by
  refine p.mk0 sc_shared (fun _ _ _ _ _ _ us hl => match us, hl with | [_, _], _ => rfl) (fun vs H Q E h => ?_) (fun f cdv A outer s H vs Q E hr h => ?_)
  · cases h; rfl
  · obtain @⟨a, b, _, _, _, ha, hb, q⟩ := h
    refine ⟨_, (pss_cons (ps_asg (pe_tup (pa_cons pe_int (pa_cons pe_int pa_nil))) (pg_tup (by rfl) (pgs_cons (pg_name (i := 2) sc_shared.nd rfl (Or.inl rfl)) (pgs_cons (pg_name (i := 3) sc_shared.nd rfl (Or.inl rfl)) pgs_nil))))
      (pss_cons (ps_set (i := 4) sc_shared.nd rfl (Or.inl rfl) (pv 1))
      (pss_cons (ps_while PassesOwn.never (pt_cmpR op_gt (pv 1) pe_int (nomark _)) (pss_cons (ps_set (i := 5) sc_shared.nd rfl (Or.inl rfl) (pe_op op_fdivW (pv 0) (pv 1)))
      (pss_cons (ps_par (i := 0) (j := 1) (by rfl) sc_shared.nd rfl rfl (by decide) rfl rfl (pa_cons (pv 1) (pa_cons (pe_op op_sub (pv 0) (pe_op op_mulX (pv 5) (pv 1))) pa_nil)) (by rfl))
      (pss_one (ps_par (i := 2) (j := 3) (by rfl) sc_shared.nd rfl rfl (by decide) rfl rfl (pa_cons (pv 3) (pa_cons (pe_op op_sub (pv 2) (pe_op op_mulX (pv 5) (pv 3))) pa_nil)) (by rfl))))))
      (pss_one (ps_ret (pe_tup (pa_cons (pv 0) (pa_cons (pe_op op_mod (pv 2) (pv 4)) pa_nil)))))))), ?_⟩
    refine ⟨by show 2 ≤ sizeLine; decide, fun p0 hp0 => ⟨p0, _, rfl, sqT upd_same, rfl, _, _, rfl, _, _, rfl, rfl, ?_⟩⟩
    have sm0 : Same H (upd H p0 (.tup [.int 1, .int 0])) := same_upd hp0
    refine ⟨_, rfl, while_by (fun σ H' => Same H H' ∧ ∃ one other mine theirs y, σ = [some (.int one), some (.int other), some (.int mine), some (.int theirs), some (.int b), y] ∧ ShInv a b one other mine theirs)
      (fun σ _ => slotN σ 1) ⟨sm0, a, b, 1, 0, none, rfl, ShInv.start ha.pos hb.pos⟩ ?_ (fun σ H Q Q' hq h => ?_)⟩
    · rintro σ H' ⟨sm, one, other, mine, theirs, y, rfl, I⟩
      have b1 : Bn 2000 one := by
        rcases I.l1 with l | l
        · exact ha.bn.of_le (Int.le_of_lt I.o1) l
        · exact hb.bn.of_le (Int.le_of_lt I.o1) l
      have b2 : Bn 2000 other := hb.bn.of_le I.o2 I.l2
      have b3 : Bn 2000 theirs := hb.bn.le I.theirs_le.1
      refine ⟨_, rfl, _, _, rfl, rfl, _, rfl, iteD (fun ho => ?_) (fun ho' => ?_)⟩
      · have ho : 0 < other := ho
        have bq : Bn 2000 (one / other) := b1.div ho
        obtain ⟨t1, t2, t3⟩ := I.turn ho
        refine ⟨_, rfl, _, rfl, _, _, rfl, rfl, b2.divOk ho (by decide) (by decide), ?_⟩
        refine ⟨_, rfl, _, rfl, _, rfl, _, rfl, _, _, rfl, rfl, bq.mulOk b2 (by decide), _, _, rfl, rfl, _, _, rfl, ?_⟩
        refine ⟨_, rfl, _, rfl, _, rfl, _, rfl, _, _, rfl, rfl, bq.mulOk b3 (by decide), _, _, rfl, rfl, _, _, rfl, ?_⟩
        exact ⟨⟨sm, _, _, _, _, _, rfl, t1⟩, (show (one - one / other * other).toNat < other.toNat by omega)⟩
      · have ho : other = 0 := by
          have h1 : ¬ 0 < other := ho'
          have h2 := I.o2
          omega
        subst ho
        obtain ⟨G, l⟩ := I.done ha.pos hb.pos
        refine ⟨_, rfl, _, rfl, _, rfl, _, _, rfl, rfl, hb.pos, by show 2 ≤ sizeLine; decide, fun p hp => ?_⟩
        exact q _ _ p _ G l (Int.emod_nonneg _ (Int.ne_of_gt hb.pos)) (Int.emod_lt_of_pos _ hb.pos) (sm.trans (same_upd hp)) upd_same
    · obtain ⟨v, e, i, j, e1, e2, k, e3, q⟩ := h
      exact ⟨v, e, i, j, e1, e2, k, e3, hq _ _ q⟩
theorem H_parts_of (p : Pl K mg "parts_of" s_parts_of) (h_shared : Has P w K mg base CX0 1 "shared" ["one", "other"] SpShared) : Has P w K mg base CX0 2 "parts_of" ["size", "first", "second"] SpParts := by
  refine p.mk0 sc_parts_of (fun _ _ _ _ _ _ us hl => match us, hl with | [_, _, _], _ => rfl) (fun vs H Q E h => ?_) (fun f cdv A outer s H vs Q E hr h => ?_)
  · cases h; rfl
  · obtain @⟨sz, a, b, _, _, _, hs, ha, hb, q⟩ := h
    refine ⟨_, (pss_cons (ps_asg (pe_fn h_shared (hr.mono (by decide)) pass0 (pa_cons (pv 1) (pa_cons (pv 2) pa_nil))) (pg_tup (by rfl) (pgs_cons (pg_name (i := 3) sc_parts_of.nd rfl (Or.inl rfl)) (pgs_cons (pg_name (i := 4) sc_parts_of.nd rfl (Or.inl rfl)) pgs_nil))))
      (pss_cons (ps_if (pt_cmpR op_ne (pe_op op_mod (pv 0) (pv 3)) pe_int (nomark _)) (pss_one (ps_ret pe_non)) pss_nil)
      (pss_cons (ps_set (i := 5) sc_parts_of.nd rfl (Or.inl rfl) (pe_op op_mod (pe_op op_mulX (pe_op op_fdivW (pv 0) (pv 3)) (pv 4)) (pe_op op_fdivW (pv 2) (pv 3))))
      (pss_cons (ps_if (pt_cmpR op_gt (pe_op op_mulX (pv 5) (pv 1)) (pv 0) (nomark _)) (pss_one (ps_ret pe_non)) pss_nil)
      (pss_one (ps_ret (pe_tup (pa_cons (pv 5) (pa_cons (pe_op op_fdivW (pe_op op_sub (pv 0) (pe_op op_mulX (pv 5) (pv 1))) (pv 2)) pa_nil))))))))), ?_⟩
    refine ⟨_, rfl, _, rfl, .mk ha hb fun g t p H1 G lg t0 t1 sm hp => ?_⟩
    refine ⟨p, _, rfl, sqT hp, rfl, _, _, rfl, _, _, rfl, rfl, ?_⟩
    have e := parts_good (s := sz) ha.pos hb.pos G
    have bg : Bn 2000 g := hb.bn.of_le (Int.le_of_lt G.pos) lg
    have bt : Bn 2000 t := hb.bn.of_le t0 (Int.le_of_lt t1)
    have hbg : 0 < b / g := by
      obtain ⟨c, ec⟩ := G.gb
      have := hb.pos
      have e2 : b / g = c := by rw [ec]; exact Int.mul_ediv_cancel_left c (Int.ne_of_gt G.pos)
      rw [e2]
      rcases Int.lt_or_le 0 c with h | h
      · exact h
      · have h3 : g * c ≤ g * 0 := Int.mul_le_mul_of_nonneg_left h (Int.le_of_lt G.pos)
        omega
    refine ⟨_, rfl, _, rfl, _, _, rfl, rfl, G.pos, rfl, _, rfl, iteNe (fun c1 => ?_) (fun c2 => ?_)⟩
    · have c1 : sz % g ≠ 0 := c1
      rw [if_pos c1] at e
      rw [e] at q
      exact q _ sm
    · have c1 : ¬ sz % g ≠ 0 := fun z => z c2
      rw [if_neg c1] at e
      have bf : Bn 2000 (sz / g * t % (b / g)) := (hb.bn.div G.pos).mod hbg
      refine ⟨_, rfl, _, rfl, _, _, rfl, rfl, bg.divOk G.pos (by decide) (by decide), _, rfl, _, _, rfl, rfl, (hs.bn.div G.pos).mulOk bt (by decide), _, rfl, _, rfl, _, _, rfl, rfl, bg.divOk G.pos (by decide) (by decide), _, _, rfl, rfl, hbg, ?_⟩
      refine ⟨_, rfl, _, rfl, _, _, rfl, rfl, bf.mulOk ha.bn (by decide), _, rfl, _, _, rfl, rfl, _, rfl, iteD (fun d => ?_) (fun d => ?_)⟩
      · rw [if_pos d] at e
        rw [e] at q
        exact q _ sm
      · rw [if_neg d] at e
        rw [e] at q
        refine ⟨_, rfl, _, rfl, _, rfl, _, rfl, _, _, rfl, rfl, bf.mulOk ha.bn (by decide), _, _, rfl, rfl, _, rfl, _, _, rfl, rfl, hb.bn.divOk hb.pos (by decide) (by decide), by show 2 ≤ sizeLine; decide, fun p' hp' => ?_⟩
        exact q p' _ (sm.trans (same_upd hp')) (sm.free hp') upd_same
end
end BF

/-! ### what bars, in plain words -/
namespace BF
open PySem L2
def strB (L W d : Int) : Bool := !decide (L % d = 0) && !decide (W % d = 0)
noncomputable def shoB (x f s : Int) : Bool := (parts x f s).isNone
/-- those of 0, 1 that are so -/
def two (a b : Bool) : List Int := (if a then [0] else []) ++ (if b then [1] else [])
def strL (L W f s : Int) : List Int := two (strB L W f) (strB L W s)
noncomputable def shoL (L W f s : Int) : List Int := two (shoB L f s) (shoB W f s)
/-- whether a side bars: 0, 1 of the brick, 2, 3 of the floor -/
noncomputable def barB (L W f s : Int) (k : Int) : Bool := if k < 2 then strB L W (if k = 0 then f else s) else shoB (if k = 2 then L else W) f s
end BF
namespace BF
theorem sho_no {x f s m n : Int} (hf : 0 < f) (hs : 0 < s) (h : Rep x f s m n) : shoB x f s = false := by
  have p := parts_is (s := x) hf hs
  unfold shoB
  cases e : parts x f s with
  | none =>
    rw [e] at p
    exact absurd h (p m n)
  | some y => rfl
theorem sho_yes {x f s : Int} (hs : 0 < s) (h : ∀ m n, ¬ Rep x f s m n) : shoB x f s = true := by
  have p := parts_eq (s := x) (a := f) (b := s) (x := none) hs h
  unfold shoB
  rw [p]
  rfl
end BF

/-! ### answers.py: what bars -/
namespace BF
open PySem PySem.Spec PyProof.Rows L2
inductive SpStriped : Sp where
  | mk {L W d : Int} {H : Hp} {Q : VK} {E : XK} (hd : 0 < d) (q : Q (.bl (strB L W d)) H) : SpStriped [.int L, .int W, .int d] H Q E
inductive SpBars : Sp where
  | mk {L W f s : Int} {H : Hp} {Q : VK} {E : XK} (hL : Sz L) (hW : Sz W) (hf : Sz f) (hs : Sz s)
      (q : ∀ p p1 p2 H', Same H H' → H' p = some (.tup [.ref p1, .ref p2]) → H' p1 = some (.lst ((strL L W f s).map V.int)) → H' p2 = some (.lst ((shoL L W f s).map V.int)) → Q (.ref p) H') : SpBars [.int L, .int W, .int f, .int s] H Q E
/-- what two tests have picked behind i turns -/
def twoN (a b : Bool) : Nat → List Int
  | 0 => []
  | 1 => if a then [0] else []
  | _ => two a b
section
variable {P : Program} {w : World} {K : PySem.W.Frag} {mg : Str → Option Value} {base : Heap}
theorem H_is_striped (p : Pl K mg "is_striped" s_is_striped) : Has P w K mg base CX0 1 "is_striped" ["length", "width", "side"] SpStriped := by
  refine p.mk0 sc_is_striped (fun _ _ _ _ _ _ us hl => match us, hl with | [_, _, _], _ => rfl) (fun vs H Q E h => ?_) (fun f cdv A outer s H vs Q E hr h => ?_)
  · cases h; rfl
  · obtain @⟨L, W, d, _, _, _, hd, q⟩ := h
    refine ⟨_, (pss_one (ps_ret (pe_and (pe_cmpR op_ne (pe_op op_mod (pv 0) (pv 2)) pe_int (nomark _)) (pe_one (pe_cmpR op_ne (pe_op op_mod (pv 1) (pv 2)) pe_int (nomark _)))))), ?_⟩
    unfold strB at q
    walk_at "rd"
    refine iteNe (fun c => ?_) (fun c => ?_)
    · rw [decide_eq_false c] at q
      walk_at "rd"
      have e : decide (V.int (W % d) = V.int 0) = decide (W % d = 0) := decide_eq_decide.mpr ⟨fun z => V.int.inj z, fun z => congrArg V.int z⟩
      rw [show (!decide (V.int (W % d) = V.int 0)) = (!false && !decide (W % d = 0)) by rw [e]; rfl]
      exact q
    · rw [decide_eq_true c] at q
      exact q
theorem H_what_bars (p : Pl K mg "what_bars" s_what_bars) (B : Bi mg) (h_is_striped : Has P w K mg base CX0 1 "is_striped" ["length", "width", "side"] SpStriped) (h_parts_of : Has P w K mg base CX0 2 "parts_of" ["size", "first", "second"] SpParts) :
    Has P w K mg base CX0 3 "what_bars" ["length", "width", "first", "second"] SpBars := by
  refine p.mk0 sc_what_bars (fun _ _ _ _ _ _ us hl => match us, hl with | [_, _, _, _], _ => rfl) (fun vs H Q E h => ?_) (fun f cdv A outer s H vs Q E hr h => ?_)
  · cases h; rfl
  · obtain @⟨L, W, fi, se, _, _, _, hL, hW, hf, hs, q⟩ := h
    refine ⟨_, (pss_cons (ps_setLc (i := 4) (own := [("which", 6), ("side", 7)]) (g := (gTup K 2 (gCons (gName 6) (gCons (gName 7) gNil)))) (by rfl) sc_what_bars.nd rfl rfl (sw_true rfl rfl rfl (by decide +kernel)) (pi_enumT (by rfl) B.enumerate (pa_cons (pe_tup (pa_cons (pv 2) (pa_cons (pv 3) pa_nil))) pa_nil)) (blkOk_by (own := [("which", 6), ("side", 7)]) (N := ["length", "width", "first", "second", "striped", "short", "which", "side"]) (sc := defScope s_what_bars) (by decide +kernel)) (fun _ _ _ _ _ => (pg_tup (by rfl) (pgs_cons (pg_name (i := 6) sc_what_bars.nd rfl (Or.inl rfl)) (pgs_cons (pg_name (i := 7) sc_what_bars.nd rfl (Or.inl rfl)) pgs_nil)))) (fun _ _ _ _ _ => pts_one (pt_val (pe_fn h_is_striped (hr.mono (by decide)) pass0 (pa_cons (pv 0) (pa_cons (pv 1) (pa_cons (pv 7) pa_nil)))))) (fun _ _ _ _ _ => (pv 6)))
      (pss_cons (ps_setLc (i := 5) (own := [("which", 6), ("side", 7)]) (g := (gTup K 2 (gCons (gName 6) (gCons (gName 7) gNil)))) (by rfl) sc_what_bars.nd rfl rfl (sw_true rfl rfl rfl (by decide +kernel)) (pi_enumT (by rfl) B.enumerate (pa_cons (pe_tup (pa_cons (pv 0) (pa_cons (pv 1) pa_nil))) pa_nil)) (blkOk_by (own := [("which", 6), ("side", 7)]) (N := ["length", "width", "first", "second", "striped", "short", "which", "side"]) (sc := defScope s_what_bars) (by decide +kernel)) (fun _ _ _ _ _ => (pg_tup (by rfl) (pgs_cons (pg_name (i := 6) sc_what_bars.nd rfl (Or.inl rfl)) (pgs_cons (pg_name (i := 7) sc_what_bars.nd rfl (Or.inl rfl)) pgs_nil)))) (fun _ _ _ _ _ => pts_one (pt_cmpR op_isN (pe_fn h_parts_of (hr.mono (by decide)) pass0 (pa_cons (pv 7) (pa_cons (pv 2) (pa_cons (pv 3) pa_nil)))) pe_non (nomark _))) (fun _ _ _ _ _ => (pv 6)))
      (pss_one (ps_ret (pe_tup (pa_cons (pv 4) (pa_cons (pv 5) pa_nil))))))), ?_⟩
    walk_at "rd"
    intro t1 ht1
    generalize hH1 : upd H t1 _ = H1
    obtain ⟨sm1, up1⟩ : Same H H1 ∧ H1 t1 = some (.tup [.int fi, .int se]) := newH hH1 ht1
    clear hH1
    refine ⟨t1, _, rfl, sqT up1, fun D1 hD1 => lc_enumT (K := K) (a := t1) (xs := [.int fi, .int se]) (fun i H' => Same H1 H' ∧ H' D1 = some (.lst ((twoN (strB L W fi) (strB L W se) i).map V.int))) ⟨same_upd hD1, upd_same⟩ (fun i H' _ ⟨sm, _⟩ => sqT (sm _ _ up1)) ?_ ?_⟩
    · rintro i x T H' hx ⟨sm, eD⟩ hT
      obtain ⟨d, rfl, hd⟩ : ∃ d : Int, x = .int d ∧ ((i = 0 ∧ d = fi) ∨ (i = 1 ∧ d = se)) := by
        match i, hx with
        | 0, e => cases e; exact ⟨_, rfl, .inl ⟨rfl, rfl⟩⟩
        | 1, e => cases e; exact ⟨_, rfl, .inr ⟨rfl, rfl⟩⟩
        | n + 2, e => cases e
      have hdp : 0 < d := by
        rcases hd with ⟨_, rfl⟩ | ⟨_, rfl⟩
        · exact hf.pos
        · exact hs.pos
      have eD2 := same_upd (o := .tup [.int (i : Nat), .int d]) hT _ _ eD
      refine ⟨T, _, rfl, sqT upd_same, rfl, ?_⟩
      have sm2 : Same H1 (upd H' T (.tup [.int (i : Nat), .int d])) := sm.trans (same_upd hT)
      generalize upd H' T (.tup [.int (i : Nat), .int d]) = H2 at eD2 sm2 ⊢
      walk_at "rd"
      refine .mk hdp ⟨_, rfl, iteB (fun c => ?_) (fun c => ?_)⟩
      · refine ⟨_, rfl, _, eD2, ?_, ?_, ?_⟩
        · rw [List.length_map]
          refine Nat.lt_of_le_of_lt (m := 2) ?_ (by decide)
          rcases hd with ⟨rfl, _⟩ | ⟨rfl, _⟩
          · exact Nat.zero_le _
          · show (if strB L W fi then [(0 : Int)] else []).length ≤ 2; split <;> decide
        · exact fun b o e => by rw [upd_ne (ne_of_none e hD1)]; exact sm2 b o e
        · rw [upd_same]
          rcases hd with ⟨rfl, rfl⟩ | ⟨rfl, rfl⟩
          · show some (HO.lst ([] ++ [V.int 0])) = some (HO.lst ((if strB L W d then [0] else []).map V.int))
            rw [c]
            rfl
          · show some (HO.lst ((if strB L W fi then [0] else []).map V.int ++ [V.int 1])) = some (HO.lst ((two (strB L W fi) (strB L W d)).map V.int))
            unfold two
            rw [c, List.map_append]
            rfl
      · refine ⟨sm2, ?_⟩
        rw [eD2]
        rcases hd with ⟨rfl, rfl⟩ | ⟨rfl, rfl⟩
        · show some (HO.lst []) = some (HO.lst ((if strB L W d then [0] else []).map V.int))
          rw [c]
          rfl
        · show some (HO.lst ((if strB L W fi then [0] else []).map V.int)) = some (HO.lst ((two (strB L W fi) (strB L W d)).map V.int))
          unfold two
          rw [c]
          simp
    · rintro H2 ⟨sm2, eD1⟩
      walk_at "rd"
      intro t2 ht2
      generalize hH3 : upd H2 t2 _ = H3
      obtain ⟨sm3, up3⟩ : Same H2 H3 ∧ H3 t2 = some (.tup [.int L, .int W]) := newH hH3 ht2
      clear hH3
      refine ⟨t2, _, rfl, sqT up3, fun D2 hD2 => lc_enumT (K := K) (a := t2) (xs := [.int L, .int W]) (fun i H' => Same H3 H' ∧ H' D2 = some (.lst ((twoN (shoB L fi se) (shoB W fi se) i).map V.int))) ⟨same_upd hD2, upd_same⟩ (fun i H' _ ⟨sm, _⟩ => sqT (sm _ _ up3)) ?_ ?_⟩
      · rintro i x T H' hx ⟨sm, eD⟩ hT
        obtain ⟨d, rfl, hd⟩ : ∃ d : Int, x = .int d ∧ ((i = 0 ∧ d = L) ∨ (i = 1 ∧ d = W)) := by
          match i, hx with
          | 0, e => cases e; exact ⟨_, rfl, .inl ⟨rfl, rfl⟩⟩
          | 1, e => cases e; exact ⟨_, rfl, .inr ⟨rfl, rfl⟩⟩
          | n + 2, e => cases e
        have hdp : Sz d := by
          rcases hd with ⟨_, rfl⟩ | ⟨_, rfl⟩
          · exact hL
          · exact hW
        have eD2 := same_upd (o := .tup [.int (i : Nat), .int d]) hT _ _ eD
        refine ⟨T, _, rfl, sqT upd_same, rfl, ?_⟩
        have sm4 : Same H3 (upd H' T (.tup [.int (i : Nat), .int d])) := sm.trans (same_upd hT)
        generalize upd H' T (.tup [.int (i : Nat), .int d]) = H4 at eD2 sm4 ⊢
        walk_at "rd"
        refine .mk hdp hf hs (tell_of fun v H5 sm5 tv => ?_)
        have ev : (decide (v = .non)) = shoB d fi se := by
          unfold shoB
          cases hp : parts d fi se with
          | none =>
            rw [hp] at tv
            obtain rfl : v = .non := tv
            rfl
          | some y =>
            rw [hp] at tv
            obtain ⟨p5, rfl, _⟩ := tv
            rfl
        refine ⟨rfl, _, rfl, ?_⟩
        rw [ev]
        replace eD2 := sm5 _ _ eD2
        replace sm4 := sm4.trans sm5
        refine iteB (fun c => ?_) (fun c => ?_)
        · refine ⟨_, rfl, _, eD2, ?_, ?_, ?_⟩
          · rw [List.length_map]
            refine Nat.lt_of_le_of_lt (m := 2) ?_ (by decide)
            rcases hd with ⟨rfl, _⟩ | ⟨rfl, _⟩
            · exact Nat.zero_le _
            · show (if shoB L fi se then [(0 : Int)] else []).length ≤ 2; split <;> decide
          · exact fun b o e => by rw [upd_ne (ne_of_none e hD2)]; exact sm4 b o e
          · rw [upd_same]
            rcases hd with ⟨rfl, rfl⟩ | ⟨rfl, rfl⟩
            · show some (HO.lst ([] ++ [V.int 0])) = some (HO.lst ((if shoB d fi se then [0] else []).map V.int))
              rw [c]
              rfl
            · show some (HO.lst ((if shoB L fi se then [0] else []).map V.int ++ [V.int 1])) = some (HO.lst ((two (shoB L fi se) (shoB d fi se)).map V.int))
              unfold two
              rw [c, List.map_append]
              rfl
        · refine ⟨sm4, ?_⟩
          rw [eD2]
          rcases hd with ⟨rfl, rfl⟩ | ⟨rfl, rfl⟩
          · show some (HO.lst []) = some (HO.lst ((if shoB d fi se then [0] else []).map V.int))
            rw [c]
            rfl
          · show some (HO.lst ((if shoB L fi se then [0] else []).map V.int)) = some (HO.lst ((two (shoB L fi se) (shoB d fi se)).map V.int))
            unfold two
            rw [c]
            simp
      · rintro H4 ⟨sm4, eD2⟩
        walk_at "rd"
        intro t3 ht3
        have e1 : H4 D1 = _ := sm4 _ _ (sm3 _ _ eD1)
        exact q t3 D1 D2 _ (sm1.trans (sm2.trans (sm3.trans (sm4.trans (same_upd ht3))))) upd_same (same_upd ht3 _ _ e1) (same_upd ht3 _ _ eD2)
end
end BF

/-! ### the laws' own helpers: a drawn number, the fewest -/
namespace BF
open PySem PySem.Spec PyProof.Rows L2
/-- some number -/
inductive SpNumber : Sp where
  | mk {cell at_ whole : Int} {H : Hp} {Q : VK} {E : XK} (hc : Bn 1048577 cell) (ha : Bn 10 at_) (q : ∀ n, Q (.int n) H) : SpNumber [.int cell, .int at_, .int whole] H Q E
section
variable {P : Program} {w : World} {K : PySem.W.Frag} {mg : Str → Option Value} {base : Heap}
theorem H__law_number (p : Pl K mg "_law_number" s__law_number) : Has P w K mg base CX0 1 "_law_number" ["_law_cell", "_law_at", "_law_whole_here"] SpNumber := by
  refine p.mk0 sc__law_number (fun _ _ _ _ _ _ us hl => match us, hl with | [_, _, _], _ => rfl) (fun vs H Q E h => ?_) (fun f cdv A outer s H vs Q E hr h => ?_)
  · cases h; rfl
  · obtain @⟨cell, at_, whole, _, _, _, hc, ha, q⟩ := h
    refine ⟨_, (pss_cons (ps_if (pt_cmpR op_ge (pv 0) (pe_op op_pow pe_int pe_int) (nomark _)) (pss_one (ps_ret (pv 0))) pss_nil)
      (pss_cons (ps_set (i := 3) sc__law_number.nd rfl (Or.inl rfl) (pe_op op_mod (pe_op op_add (pe_op op_mulX (pe_op op_add (pv 0) (pe_op op_mulX pe_int (pv 1))) pe_int) (pv 2)) pe_int))
      (pss_cons (ps_set (i := 4) sc__law_number.nd rfl (Or.inl rfl) (pe_op op_mulX (pe_op op_mulX (pv 3) (pe_op op_add (pe_op op_add (pv 3) (pe_op op_mulX pe_int (pv 1))) pe_int)) (pe_op op_add (pe_op op_add (pv 3) (pv 0)) pe_int)))
      (pss_one (ps_ret (pe_op op_fdivW (pe_op op_mulX (pv 4) (pe_op op_add (pv 4) pe_int)) pe_int)))))), ?_⟩
    refine ⟨_, rfl, _, _, rfl, rfl, ⟨by decide, by decide, by decide⟩, _, _, rfl, rfl, _, rfl, iteD (fun _ => ⟨_, rfl, q _⟩) (fun _ => ?_)⟩
    have b1 : Bn 20 (977 * at_) := ((bnl (n := 10) (x := 977) (by decide)).mul ha).mono (by decide)
    have b2 : Bn 1048598 (cell + 977 * at_) := (hc.add b1).mono (by decide)
    refine ⟨_, rfl, _, rfl, _, _, rfl, rfl, (bnl (n := 10) (by decide)).mulOk ha (by decide), _, _, rfl, rfl, _, _, rfl, rfl, b2.mulOk (bnl (n := 16) (by decide)) (by decide), _, rfl, _, _, rfl, rfl, _, _, rfl, rfl, by show (0 : Int) < 2147483647; decide, ?_⟩
    dsimp only
    generalize hm : ((cell + 977 * at_) * 48271 + whole) % 2147483647 = m
    have b3 : Bn 31 m := by
      rw [← hm]
      exact Bn.mod (bnl (by decide)) (by decide)
    have b4 : Bn 17 (31 * at_) := ((bnl (n := 5) (x := 31) (by decide)).mul ha).mono (by decide)
    have b5 : Bn 60 (m + 31 * at_ + 7) := ((b3.add b4).add (bnl (n := 3) (x := 7) (by decide))).mono (by decide)
    have b6 : Bn 1048700 (m + cell + 5) := ((b3.add hc).add (bnl (n := 3) (x := 5) (by decide))).mono (by decide)
    have b7 : Bn 91 (m * (m + 31 * at_ + 7)) := (b3.mul b5).mono (by decide)
    refine ⟨_, rfl, _, rfl, _, rfl, _, _, rfl, rfl, (bnl (n := 5) (by decide)).mulOk ha (by decide), _, _, rfl, rfl, _, _, rfl, rfl, _, _, rfl, rfl, b3.mulOk b5 (by decide), _, rfl, _, rfl, _, _, rfl, rfl, _, _, rfl, rfl, _, _, rfl, rfl, b7.mulOk b6 (by decide), ?_⟩
    have b8 : Bn 1048791 (m * (m + 31 * at_ + 7) * (m + cell + 5)) := (b7.mul b6).mono (by decide)
    dsimp only
    generalize m * (m + 31 * at_ + 7) * (m + cell + 5) = x at b8 ⊢
    have b9 : Bn 1048900 (x + 48271) := (b8.add (bnl (n := 16) (x := 48271) (by decide))).mono (by decide)
    exact ⟨_, rfl, _, rfl, _, _, rfl, rfl, _, _, rfl, rfl, b8.mulOk b9 (by decide), _, _, rfl, rfl, divOk_lit (by decide) (by decide), q _⟩
theorem H__law_whole (p : Pl K mg "_law_whole" s__law_whole) (B : Bi mg) : Has P w K mg base CX0 1 "_law_whole" ["_law_found"] (SpIsNumber K) := by
  refine p.mk0 sc__law_whole (fun _ _ _ _ _ _ us hl => match us, hl with | [_], _ => rfl) (fun vs H Q E h => ?_) (fun f cdv A outer s H vs Q E hr h => ?_)
  · cases h; rfl
  · obtain @⟨x, T, i, b, _, _, _, hT, hi, hb, q⟩ := h
    refine ⟨_, (pss_one (ps_ret (pe_and (pe_callB (r := rIsi K) call_isi (by rfl) B.isinstance (by decide +kernel) (pa_cons (pv 0) (pa_cons (pe_bltn (v := .ty "int") (by rfl) B.int (by decide +kernel) rfl) pa_nil))) (pe_one (pe_not (pe_callB (r := rIsi K) call_isi (by rfl) B.isinstance (by decide +kernel) (pa_cons (pv 0) (pa_cons (pe_bltn (v := .ty "bool") (by rfl) B.bool (by decide +kernel) rfl) pa_nil)))))))), ?_⟩
    refine ⟨_, rfl, x, _, _, _, i, rfl, .ty "int", hT, kit_ty hi, i, rfl, ?_⟩
    cases i with
    | false => exact iteF q
    | true => exact iteT ⟨_, rfl, x, _, _, _, b, rfl, .ty "bool", hT, kit_ty hb, b, rfl, q⟩
end
end BF

/-! ### a drawn floor and brick -/
namespace BF
open PySem PySem.Spec PyProof.Rows L2
/-- a drawn size -/
structure Sd (x : Int) : Prop where
  pos : 0 < x
  lt : x < 10 ^ 60
theorem Sd.sz {x : Int} (h : Sd x) : Sz x := sz_of_lt h.pos h.lt
theorem Sd.bn {x : Int} (h : Sd x) : Bn 200 x := bn_of_lt (Int.le_of_lt h.pos) h.lt
inductive SpFour (K : PySem.W.Frag) : Sp where
  | mk {a : Addr} {ns : List Int} {at_ most : Int} {H : Hp} {Q : VK} {E : XK} (hb : ∀ z ∈ ns, Builtin.Int.intBits z ≤ 1048576) (hl : ns.length ≤ 63) (hS : SqL K H a (ns.map V.int)) (h0 : 0 ≤ at_) (h1 : at_ < ns.length) (m1 : 0 < most) (m2 : most ≤ 10 ^ 20)
      (q : ∀ L W f s p H', Sd L → Sd W → Sd f → Sd s → Same H H' → H' p = some (.tup [.int L, .int W, .int f, .int s]) → Q (.ref p) H') : SpFour K [.ref a, .int at_, .int most] H Q E
/-- what is between -/
structure Md (b x : Int) : Prop where
  lo : -b ≤ x
  hi : x ≤ b
theorem Md.wide {x : Int} (h : Md (10 ^ 50) x) : Md (10 ^ 51) x := ⟨by have := h.lo; omega, by have := h.hi; omega⟩
inductive FourI (b : Int) (a : Addr) (at_ most wh num oth : Int) (H : Hp) : L2.St → Hp → Prop where
  | mk {H' : Hp} {f s fe mo le ki L W : Int} (sm : Same H H') (hf : 0 < f ∧ f ≤ 10 ^ 20) (hs : 0 < s ∧ s ≤ 10 ^ 20) (hfe : 0 < fe ∧ fe ≤ 5) (hmo : 0 ≤ mo ∧ mo ≤ 3) (hle : 0 < le ∧ le ≤ 3) (hL : Md b L) (hW : Md b W) :
    FourI b a at_ most wh num oth H [some (.ref a), some (.int at_), some (.int most), some (.int wh), some (.int num), some (.int oth), some (.int f), some (.int s), some (.int fe), some (.int mo), some (.int le), some (.int ki), some (.int L), some (.int W)] H'
section
variable {P : Program} {w : World} {K : PySem.W.Frag} {mg : Str → Option Value} {base : Heap}
theorem H__law_four (p : Pl K mg "_law_four" s__law_four) (B : Bi mg) (h__law_number : Has P w K mg base CX0 1 "_law_number" ["_law_cell", "_law_at", "_law_whole_here"] SpNumber) :
    Has P w K mg base CX0 2 "_law_four" ["_law_script", "_law_at", "_law_most"] (SpFour K) := by
  refine p.mk0 sc__law_four (fun _ _ _ _ _ _ us hl => match us, hl with | [_, _, _], _ => rfl) (fun vs H Q E h => ?_) (fun f cdv A outer s H vs Q E hr h => ?_)
  · cases h; rfl
  · obtain @⟨a, ns, at_, most, _, _, _, hbits, hl, hS, h0, h1, m1, m2, q⟩ := h
    refine ⟨_, (pss_cons (ps_set (i := 3) sc__law_four.nd rfl (Or.inl rfl) (pe_callB (cr_sum rfl) (by rfl) B.sum (by decide +kernel) (pa_cons (pe_slice sl_list (pv 0) po_none (po_some pe_int)) pa_nil)))
      (pss_cons (ps_set (i := 4) sc__law_four.nd rfl (Or.inl rfl) (pe_fn h__law_number (hr.mono (by decide)) pass0 (pa_cons (pe_ix (r := rIxL K) ix_list (pv 0) (pv 1) (fun _ _ => rfl)) (pa_cons (pv 1) (pa_cons (pv 3) pa_nil)))))
      (pss_cons (ps_set (i := 5) sc__law_four.nd rfl (Or.inl rfl) (pe_fn h__law_number (hr.mono (by decide)) pass0 (pa_cons (pe_ix (r := rIxL K) ix_list (pv 0) (pe_op op_sub (pv 1) pe_int) (fun _ _ => rfl)) (pa_cons (pe_op op_add (pv 1) pe_int) (pa_cons (pv 3) pa_nil)))))
      (pss_cons (ps_par (i := 6) (j := 7) (by rfl) sc__law_four.nd rfl rfl (by decide) rfl rfl (pa_cons (pe_op op_add pe_int (pe_op op_mod (pe_op op_fdivW (pv 4) pe_int) (pv 2))) (pa_cons (pe_op op_add pe_int (pe_op op_mod (pe_op op_fdivW (pe_op op_fdivW (pv 4) pe_int) (pv 2)) (pv 2))) pa_nil)) (by rfl))
      (pss_cons (ps_par3 (i := 8) (j := 9) (l := 10) (by rfl) sc__law_four.nd rfl rfl rfl (by decide) (by decide) (by decide) rfl rfl rfl (pa_cons (pe_op op_add pe_int (pe_op op_mod (pv 5) pe_int)) (pa_cons (pe_op op_mod (pe_op op_fdivW (pv 5) pe_int) pe_int) (pa_cons (pe_op op_add pe_int (pe_op op_mod (pe_op op_fdivW (pv 5) pe_int) pe_int)) pa_nil))) (by rfl))
      (pss_cons (ps_set (i := 11) sc__law_four.nd rfl (Or.inl rfl) (pe_op op_mod (pe_op op_add (pv 4) (pe_op op_fdivW (pv 5) pe_int)) pe_int))
      (pss_cons (ps_par (i := 12) (j := 13) (by rfl) sc__law_four.nd rfl rfl (by decide) rfl rfl (pa_cons (pe_op op_mulX (pv 6) (pv 8)) (pa_cons (pe_op op_mulX (pv 7) (pv 10)) pa_nil)) (by rfl))
      (Evl.pss_cut (ps_if (pt_cmpR (r := rIn K false) op_in_seq (pv 11) (pe_lst (pa_cons pe_int (pa_cons pe_int (pa_cons pe_int pa_nil)))) (by rfl)) (pss_cons (ps_set (i := 12) sc__law_four.nd rfl (Or.inl rfl) (pe_op op_mulX (pe_op op_mulX (pv 6) (pv 7)) (pv 10)))
      (pss_one (ps_set (i := 13) sc__law_four.nd rfl (Or.inl rfl) (pe_op op_add (pe_op op_mulX (pv 6) (pv 8)) (pe_op op_mulX (pv 7) (pv 9)))))) pss_nil)
      (Evl.pss_cut (ps_if (pt_cmpR op_eq (pv 11) pe_int (nomark _)) (pss_one (ps_set (i := 13) sc__law_four.nd rfl (Or.inl rfl) (pe_op op_sub (pe_op op_add (pv 13) pe_int) (pe_op op_mod (pe_op op_fdivW (pv 5) pe_int) pe_int)))) pss_nil)
      (Evl.pss_cut (ps_if (pt_cmpR op_eq (pv 11) pe_int (nomark _)) (pss_one (ps_par (i := 12) (j := 13) (by rfl) sc__law_four.nd rfl rfl (by decide) rfl rfl (pa_cons (pe_op op_add pe_int (pe_op op_mod (pe_op op_fdivW (pv 4) pe_int) (pe_op op_mulX pe_int (pv 2)))) (pa_cons (pe_op op_add pe_int (pe_op op_mod (pe_op op_fdivW (pv 5) pe_int) (pe_op op_mulX pe_int (pv 2)))) pa_nil)) (by rfl))) pss_nil)
      (Evl.pss_cut (ps_if (pt_cmpR op_eq (pv 11) pe_int (nomark _)) (pss_one (ps_par (i := 12) (j := 13) (by rfl) sc__law_four.nd rfl rfl (by decide) rfl rfl (pa_cons (pe_op op_mulX (pv 6) (pv 8)) (pa_cons (pe_op op_add (pe_op op_mulX (pv 6) (pv 10)) (pv 9)) pa_nil)) (by rfl))) pss_nil)
      (Evl.pss_cut (ps_if (pt_cmpR op_eq (pe_op op_mod (pe_op op_add (pe_op op_fdivW (pv 4) pe_int) (pv 1)) pe_int) pe_int (nomark _)) (pss_one (ps_par (i := 12) (j := 13) (by rfl) sc__law_four.nd rfl rfl (by decide) rfl rfl (pa_cons (pv 13) (pa_cons (pv 12) pa_nil)) (by rfl))) pss_nil)
      (pss_one (ps_ret (pe_tup (pa_cons (pe_callB (call_max2 rfl) (by rfl) B.max (by decide +kernel) (pa_cons pe_int (pa_cons (pv 12) pa_nil))) (pa_cons (pe_callB (call_max2 rfl) (by rfl) B.max (by decide +kernel) (pa_cons pe_int (pa_cons (pv 13) pa_nil))) (pa_cons (pv 6) (pa_cons (pv 7) pa_nil))))))))))))))))))), ?_⟩
    have bmo : Bn 200 most := bn_of_lt (by omega) (by omega)
    obtain ⟨ms, ems⟩ := cut_ints ns none (some 63)
    refine ⟨_, rfl, 63, rfl, a, _, rfl, hS, fun p1 hp1 => ⟨p1, ms, rfl, sqL (by rw [← ems]; exact upd_same), ?_⟩⟩
    have sm1 : Same H (upd H p1 (.lst (cutV (ns.map V.int) none (some 63)))) := same_upd hp1
    generalize upd H p1 (.lst (cutV (ns.map V.int) none (some 63))) = H1 at sm1 ⊢
    generalize hwh : ms.sum = wh
    obtain ⟨c1, hc1, ec1⟩ := at_cell (ns := ns) (k := at_) (by omega) (by omega)
    refine ⟨_, rfl, _, rfl, a, _, _, _, rfl, rfl, sm1.seq hS, ec1, _, rfl, _, rfl, .mk (bn_bits (hbits _ hc1)) (bnl (n := 10) (by omega)) fun num => ?_⟩
    obtain ⟨c2, hc2, ec2⟩ := at_cell (ns := ns) (k := at_ - 1) (by omega) (by omega)
    refine ⟨_, rfl, _, rfl, _, _, rfl, rfl, a, _, _, _, rfl, rfl, sm1.seq hS, ec2, _, rfl, _, _, rfl, rfl, _, rfl, .mk (bn_bits (hbits _ hc2)) (bnl (n := 10) (by omega)) fun oth => ?_⟩
    have n1 : 0 ≤ num / 7 % most ∧ num / 7 % most < most := ⟨Int.emod_nonneg _ (by omega), Int.emod_lt_of_pos _ m1⟩
    have n2 : 0 ≤ num / 7 / most % most ∧ num / 7 / most % most < most := ⟨Int.emod_nonneg _ (by omega), Int.emod_lt_of_pos _ m1⟩
    walk_at "rd"
    refine enter (FourI (10 ^ 50) a at_ most wh num oth H) ?_ ?_
    · refine .mk sm1 ⟨by omega, by omega⟩ ⟨by omega, by omega⟩ ⟨by omega, by omega⟩ ⟨by omega, by omega⟩ ⟨by omega, by omega⟩ ?_ ?_
      · have := mul_in (A := 10 ^ 20) (B := 5) (x := 1 + num / 7 % most) (y := 1 + oth % 5) (by omega) (by omega) (by omega) (by omega)
        exact ⟨by omega, by omega⟩
      · have := mul_in (A := 10 ^ 20) (B := 3) (x := 1 + num / 7 / most % most) (y := 1 + oth / 20 % 3) (by omega) (by omega) (by omega) (by omega)
        exact ⟨by omega, by omega⟩
    rintro _ _ @⟨H2, f, s, fe, mo, le, ki, L, W, sm2, hf, hs, hfe, hmo, hle, hL, hW⟩
    have bf : Bn 200 f := bn_of_lt (by omega) (by omega)
    have bs : Bn 200 s := bn_of_lt (by omega) (by omega)
    have bfe : Bn 200 fe := bn_of_lt (by omega) (by omega)
    have bmo' : Bn 200 mo := bn_of_lt (by omega) (by omega)
    have ble : Bn 200 le := bn_of_lt (by omega) (by omega)
    -- sides that go in, sums
    refine ⟨FourI (10 ^ 50) a at_ most wh num oth H, ?_, ?_⟩
    · walk_at "rd"
      refine fun pl hpl => ⟨pl, _, rfl, .inl (sqL upd_same), rfl, rfl, _, rfl, iteB (fun c => ?_) (fun c => ?_)⟩
      · walk_at "rd"
        have k1 := mul_in (A := 10 ^ 20) (B := 10 ^ 20) (x := f) (y := s) (by omega) (by omega) (by omega) (by omega)
        have k2 := mul_in (A := 10 ^ 40) (B := 3) (x := f * s) (y := le) (by omega) (by omega) (by omega) (by omega)
        have k3 := mul_in (A := 10 ^ 20) (B := 5) (x := f) (y := fe) (by omega) (by omega) (by omega) (by omega)
        have k4 := mul_in (A := 10 ^ 20) (B := 3) (x := s) (y := mo) (by omega) (by omega) (by omega) (by omega)
        exact .mk (sm2.trans (same_upd hpl)) hf hs hfe hmo hle ⟨by omega, by omega⟩ ⟨by omega, by omega⟩
      · exact .mk (sm2.trans (same_upd hpl)) hf hs hfe hmo hle hL hW
    · clear sm2 hf hs hfe hmo hle hL hW bf bs bfe bmo' ble
      rintro _ _ @⟨H2, f, s, fe, mo, le, ki, L, W, sm2, hf, hs, hfe, hmo, hle, hL, hW⟩
      refine ⟨FourI (10 ^ 51) a at_ most wh num oth H, ?_, ?_⟩
      · walk_at "rd"
        refine iteEq (fun c => ?_) (fun c => ?_)
        · walk_at "rd"
          exact .mk sm2 hf hs hfe hmo hle hL.wide ⟨by have := hW.lo; omega, by have := hW.hi; omega⟩
        · exact .mk sm2 hf hs hfe hmo hle hL.wide hW.wide
      · clear sm2 hf hs hfe hmo hle hL hW
        rintro _ _ @⟨H2, f, s, fe, mo, le, ki, L, W, sm2, hf, hs, hfe, hmo, hle, hL, hW⟩
        refine ⟨FourI (10 ^ 51) a at_ most wh num oth H, ?_, ?_⟩
        · walk_at "rd"
          refine iteEq (fun c => ?_) (fun c => ?_)
          · have q1 : 0 ≤ num / 11 % (3 * most) ∧ num / 11 % (3 * most) < 3 * most := ⟨Int.emod_nonneg _ (by omega), Int.emod_lt_of_pos _ (by omega)⟩
            have q2 : 0 ≤ oth / 3 % (3 * most) ∧ oth / 3 % (3 * most) < 3 * most := ⟨Int.emod_nonneg _ (by omega), Int.emod_lt_of_pos _ (by omega)⟩
            walk_at "rd"
            exact .mk sm2 hf hs hfe hmo hle ⟨by omega, by omega⟩ ⟨by omega, by omega⟩
          · exact .mk sm2 hf hs hfe hmo hle hL hW
        · clear sm2 hf hs hfe hmo hle hL hW
          rintro _ _ @⟨H2, f, s, fe, mo, le, ki, L, W, sm2, hf, hs, hfe, hmo, hle, hL, hW⟩
          have bf : Bn 200 f := bn_of_lt (by omega) (by omega)
          have bfe : Bn 200 fe := bn_of_lt (by omega) (by omega)
          have ble : Bn 200 le := bn_of_lt (by omega) (by omega)
          refine ⟨FourI (10 ^ 51) a at_ most wh num oth H, ?_, ?_⟩
          · walk_at "rd"
            refine iteEq (fun c => ?_) (fun c => ?_)
            · have k3 := mul_in (A := 10 ^ 20) (B := 5) (x := f) (y := fe) (by omega) (by omega) (by omega) (by omega)
              have k4 := mul_in (A := 10 ^ 20) (B := 3) (x := f) (y := le) (by omega) (by omega) (by omega) (by omega)
              walk_at "rd"
              exact .mk sm2 hf hs hfe hmo hle ⟨by omega, by omega⟩ ⟨by omega, by omega⟩
            · exact .mk sm2 hf hs hfe hmo hle hL hW
          · clear sm2 hf hs hfe hmo hle hL hW bf bfe ble
            rintro _ _ @⟨H2, f, s, fe, mo, le, ki, L, W, sm2, hf, hs, hfe, hmo, hle, hL, hW⟩
            refine ⟨FourI (10 ^ 51) a at_ most wh num oth H, ?_, ?_⟩
            · walk_at "rd"
              refine iteEq (fun c => ?_) (fun c => ?_)
              · walk_at "rd"
                exact .mk sm2 hf hs hfe hmo hle hW hL
              · exact .mk sm2 hf hs hfe hmo hle hL hW
            · clear sm2 hf hs hfe hmo hle hL hW
              rintro _ _ @⟨H2, f, s, fe, mo, le, ki, L, W, sm2, hf, hs, hfe, hmo, hle, hL, hW⟩
              walk_at "rd"
              have mx : ∀ x : Int, Md (10 ^ 51) x → Sd (if x > 1 then x else 1) := fun x hx => by
                have := hx.hi
                split
                · exact ⟨by omega, by omega⟩
                · exact ⟨by omega, by omega⟩
              exact fun p hp => q _ _ _ _ p _ (mx L hL) (mx W hW) ⟨by omega, by omega⟩ ⟨by omega, by omega⟩ (sm2.trans (same_upd hp)) upd_same
end
end BF

namespace BF
open PySem PySem.Spec PyProof.Rows L2
/-- the greatest that goes into both -/
inductive SpCommon : Sp where
  | mk {a b : Int} {H : Hp} {Q : VK} {E : XK} (ha : 0 < a) (hb : 0 < b) (q : ∀ g : Int, 0 < g → (∀ d : Int, d ∣ g ↔ d ∣ a ∧ d ∣ b) → Q (.int g) H) : SpCommon [.int a, .int b] H Q E
inductive SpFew : Sp where
  | mk {s a b : Int} {H : Hp} {Q : VK} {E : XK} (hs : Sz s) (ha : Sz a) (hb : Sz b) (q : ∀ H', Same H H' → Q (.int (fewI (parts s a b))) H') : SpFew [.int s, .int a, .int b] H Q E
section
variable {P : Program} {w : World} {K : PySem.W.Frag} {mg : Str → Option Value} {base : Heap}
structure CmInv (a b one other : Int) : Prop where
  o1 : 0 < one
  o2 : 0 ≤ other
  dv : ∀ d : Int, (d ∣ one ∧ d ∣ other) ↔ (d ∣ a ∧ d ∣ b)
theorem CmInv.turn {a b one other : Int} (h : CmInv a b one other) (ho : 0 < other) : CmInv a b other (one % other) := by
  have hm := Int.emod_add_mul_ediv one other
  refine ⟨ho, Int.emod_nonneg _ (Int.ne_of_gt ho), fun d => ?_⟩
  rw [← h.dv d]
  constructor
  · rintro ⟨a1, a2⟩
    refine ⟨?_, a1⟩
    rw [← hm]
    exact Int.dvd_add a2 (Int.dvd_trans a1 (Int.dvd_mul_right _ _))
  · rintro ⟨a1, a2⟩
    refine ⟨a2, ?_⟩
    have : one % other = one - other * (one / other) := by omega
    rw [this]
    exact Int.dvd_sub a1 (Int.dvd_trans a2 (Int.dvd_mul_right _ _))
theorem H__law_common (p : Pl K mg "_law_common" s__law_common) : Has P w K mg base CX0 1 "_law_common" ["_law_one", "_law_other"] SpCommon := by
  refine p.mk0 sc__law_common (fun _ _ _ _ _ _ us hl => match us, hl with | [_, _], _ => rfl) (fun vs H Q E h => ?_) (fun f cdv A outer s H vs Q E hr h => ?_)
  · cases h; rfl
  · obtain @⟨a, b, _, _, _, ha, hb, q⟩ := h
    refine ⟨_, (pss_cons (ps_while PassesOwn.never (pt_cmpR op_gt (pv 1) pe_int (nomark _)) (pss_one (ps_par (i := 0) (j := 1) (by rfl) sc__law_common.nd rfl rfl (by decide) rfl rfl (pa_cons (pv 1) (pa_cons (pe_op op_mod (pv 0) (pv 1)) pa_nil)) (by rfl))))
      (pss_one (ps_ret (pv 0)))), ?_⟩
    refine while_by (fun σ H' => H' = H ∧ ∃ one other, σ = [some (.int one), some (.int other)] ∧ CmInv a b one other) (fun σ _ => slotN σ 1) ⟨rfl, a, b, rfl, ha, Int.le_of_lt hb, fun d => Iff.rfl⟩ ?_ (fun σ H Q Q' hq h => ?_)
    · rintro σ H' ⟨rfl, one, other, rfl, I⟩
      refine ⟨_, rfl, _, _, rfl, rfl, _, rfl, iteD (fun ho => ?_) (fun ho => ?_)⟩
      · have ho : 0 < other := ho
        refine ⟨_, rfl, _, rfl, _, rfl, _, _, rfl, rfl, ho, _, _, rfl, ⟨rfl, _, _, rfl, I.turn ho⟩, ?_⟩
        have h0 : 0 ≤ one % other := Int.emod_nonneg _ (Int.ne_of_gt ho)
        have h1 : one % other < other := Int.emod_lt_of_pos _ ho
        show (one % other).toNat < other.toNat
        omega
      · have h0 := I.o2
        have ho : ¬ 0 < other := ho
        have e : other = 0 := by omega
        subst e
        refine ⟨_, rfl, q one I.o1 fun d => ?_⟩
        rw [← I.dv d]
        exact ⟨fun z => ⟨z, Int.dvd_zero d⟩, fun z => z.1⟩
    · obtain ⟨v, e, i, j, e1, e2, k, e3, q⟩ := h
      exact ⟨v, e, i, j, e1, e2, k, e3, hq _ _ q⟩
theorem div_pos_of_dvd {g b : Int} (hg : 0 < g) (hb : 0 < b) (d : g ∣ b) : 0 < b / g := by
  obtain ⟨c, ec⟩ := d
  have e2 : b / g = c := by rw [ec]; exact Int.mul_ediv_cancel_left c (Int.ne_of_gt hg)
  rw [e2]
  rcases Int.lt_or_le 0 c with h | h
  · exact h
  · have h3 : g * c ≤ g * 0 := Int.mul_le_mul_of_nonneg_left h (Int.le_of_lt hg)
    omega
theorem H__law_few (p : Pl K mg "_law_few" s__law_few) (h__law_common : Has P w K mg base CX0 1 "_law_common" ["_law_one", "_law_other"] SpCommon) : Has P w K mg base CX0 2 "_law_few" ["_law_size", "_law_first", "_law_second"] SpFew := by
  refine p.mk0 sc__law_few (fun _ _ _ _ _ _ us hl => match us, hl with | [_, _, _], _ => rfl) (fun vs H Q E h => ?_) (fun f cdv A outer s H vs Q E hr h => ?_)
  · cases h; rfl
  · obtain @⟨sz, a, b, _, _, _, hs, ha, hb, q⟩ := h
    refine ⟨_, (pss_cons (ps_set (i := 3) sc__law_few.nd rfl (Or.inl rfl) (pe_fn h__law_common (hr.mono (by decide)) pass0 (pa_cons (pv 1) (pa_cons (pv 2) pa_nil))))
      (pss_cons (ps_if (pt_cmpR op_gt (pe_op op_mod (pv 0) (pv 3)) pe_int (nomark _)) (pss_one (ps_ret (pe_un un_neg pe_int))) pss_nil)
      (pss_cons (ps_par3 (i := 0) (j := 1) (l := 2) (by rfl) sc__law_few.nd rfl rfl rfl (by decide) (by decide) (by decide) rfl rfl rfl (pa_cons (pe_op op_fdivW (pv 0) (pv 3)) (pa_cons (pe_op op_fdivW (pv 1) (pv 3)) (pa_cons (pe_op op_fdivW (pv 2) (pv 3)) pa_nil))) (by rfl))
      (pss_cons (ps_par3 (i := 4) (j := 5) (l := 6) (by rfl) sc__law_few.nd rfl rfl rfl (by decide) (by decide) (by decide) rfl rfl rfl (pa_cons (pe_lst pa_nil) (pa_cons (pv 1) (pa_cons (pv 2) pa_nil))) (by rfl))
      (pss_cons (ps_while PassesOwn.never (pt_cmpR op_gt (pv 6) pe_int (nomark _)) (pss_cons (ps_expr (pe_bm PySem.F.plainAttrs_list PySem.F.slot_list_append PySem.F.type_list_append mt_append (pv 4) (pa_cons (pe_op op_fdivW (pv 5) (pv 6)) pa_nil)))
      (pss_one (ps_par (i := 5) (j := 6) (by rfl) sc__law_few.nd rfl rfl (by decide) rfl rfl (pa_cons (pv 6) (pa_cons (pe_op op_mod (pv 5) (pv 6)) pa_nil)) (by rfl)))))
      (pss_cons (ps_asg (pe_tup (pa_cons pe_int (pa_cons pe_int pa_nil))) (pg_tup (by rfl) (pgs_cons (pg_name (i := 7) sc__law_few.nd rfl (Or.inl rfl)) (pgs_cons (pg_name (i := 8) sc__law_few.nd rfl (Or.inl rfl)) pgs_nil))))
      (pss_cons (ps_for PassesOwn.never (by rfl) (pi_list (pe_revL (pv 4))) (pg_name (i := 9) sc__law_few.nd rfl (Or.inl rfl)) (pss_one (ps_par (i := 7) (j := 8) (by rfl) sc__law_few.nd rfl rfl (by decide) rfl rfl (pa_cons (pv 8) (pa_cons (pe_op op_sub (pv 7) (pe_op op_mulX (pv 9) (pv 8))) pa_nil)) (by rfl))))
      (pss_cons (ps_set (i := 10) sc__law_few.nd rfl (Or.inl rfl) (pe_op op_mod (pe_op op_mulX (pv 0) (pv 7)) (pv 2)))
      (pss_one (ps_ret (pe_ifExp (pt_cmpR op_le (pe_op op_mulX (pv 10) (pv 1)) (pv 0) (nomark _)) (pv 10) (pe_un un_neg pe_int)))))))))))), ?_⟩
    refine ⟨_, rfl, _, rfl, .mk ha.pos hb.pos fun g hg dg => ?_⟩
    obtain ⟨da, db⟩ := (dg g).mp (Int.dvd_refl g)
    have bg : Bn 2000 g := hb.bn.of_le (Int.le_of_lt hg) (Int.le_of_dvd hb.pos db)
    refine ⟨_, rfl, _, rfl, _, _, rfl, rfl, hg, _, _, rfl, rfl, _, rfl, iteD (fun c => ?_) (fun c => ?_)⟩
    · have c : 0 < sz % g := c
      have e := few_none (s := sz) hb.pos dg (by omega)
      rw [e] at q
      exact ⟨_, rfl, q _ (Same.refl H)⟩
    · have c0 : 0 ≤ sz % g := Int.emod_nonneg _ (Int.ne_of_gt hg)
      have c : ¬ 0 < sz % g := c
      have hz : sz % g = 0 := by omega
      have p1 : 0 < sz / g := div_pos_of_dvd hg hs.pos (Int.dvd_of_emod_eq_zero hz)
      have p2 : 0 < a / g := div_pos_of_dvd hg ha.pos da
      have p3 : 0 < b / g := div_pos_of_dvd hg hb.pos db
      have n1 : Bn 2000 (sz / g) := hs.bn.div hg
      have n2 : Bn 2000 (a / g) := ha.bn.div hg
      have n3 : Bn 2000 (b / g) := hb.bn.div hg
      have key : ∀ rows : List Int, Eu (a / g) (b / g) rows → fewI (parts sz a b) = if sz / g * (back rows).1 % (b / g) * (a / g) ≤ sz / g then sz / g * (back rows).1 % (b / g) else -1 := fun rows E => few_back (g2 := 0) hs.pos ha.pos hb.pos hg dg E hz
      refine ⟨_, rfl, _, rfl, _, _, rfl, rfl, bg.divOk hg (by decide) (by decide), _, rfl, _, rfl, _, _, rfl, rfl, bg.divOk hg (by decide) (by decide), _, rfl, _, rfl, _, _, rfl, rfl, bg.divOk hg (by decide) (by decide), _, _, _, rfl, ?_⟩
      -- the rows
      refine ⟨Nat.zero_le _, fun R hR => ⟨_, rfl, _, rfl, _, _, _, rfl, ?_⟩⟩
      refine while_by (fun σ H' => ∃ one other rows, σ = [some (.int (sz / g)), some (.int (a / g)), some (.int (b / g)), some (.int g), some (.ref R), some (.int one), some (.int other), none, none, none, none] ∧ FwInv (a / g) (b / g) rows one other ∧ Same H H' ∧ H' R = some (.lst (rows.map V.int)))
        (fun σ _ => slotN σ 6) ⟨(a / g), (b / g), [], rfl, FwInv.start p2 p3, same_upd hR, upd_same⟩ ?_ (fun σ H Q Q' hq h => ?_)
      · rintro σ H1 ⟨one, other, rows, rfl, I, sm, eR⟩
        have m1 : Bn 2000 one := by
          rcases I.l1 with l | l
          · exact n2.of_le (Int.le_of_lt I.o1) l
          · exact n3.of_le (Int.le_of_lt I.o1) l
        have m2 : Bn 2000 other := n3.of_le I.o2 I.l2
        refine ⟨_, rfl, _, _, rfl, rfl, _, rfl, iteD (fun ho => ?_) (fun ho => ?_)⟩
        · have ho : 0 < other := ho
          have hl := I.few ho n2.lt n3.lt
          refine ⟨_, rfl, .inl ⟨rfl, _, sqL eR⟩, _, rfl, _, rfl, _, _, rfl, rfl, m2.divOk ho (by decide) (by decide), R, _, _, rfl, rfl, eR, ?_, ?_⟩
          · rw [List.length_map]
            exact Nat.lt_of_le_of_lt hl (by decide)
          · refine ⟨_, rfl, _, rfl, _, rfl, _, _, rfl, rfl, ho, _, _, rfl, ⟨_, _, rows ++ [one / other], rfl, I.turn ho, fun b o e => ?_, ?_⟩, ?_⟩
            · rw [upd_ne (ne_of_none e hR)]
              exact sm b o e
            · rw [upd_same, List.map_append]
              rfl
            · have h0 : 0 ≤ one % other := Int.emod_nonneg _ (Int.ne_of_gt ho)
              have h1 : one % other < other := Int.emod_lt_of_pos _ ho
              show (one % other).toNat < other.toNat
              omega
        · have h0 := I.o2
          have ho : ¬ 0 < other := ho
          have e0 : other = 0 := by omega
          subst e0
          have E : Eu (a / g) (b / g) rows := by
            have := I.go [] (.nil I.o1)
            rw [List.append_nil] at this
            exact this
          -- mine, theirs = 1, 0
          refine ⟨by show 2 ≤ sizeLine; decide, fun p0 hp0 => ⟨p0, _, rfl, sqT upd_same, rfl, _, _, rfl, _, _, rfl, rfl, ?_⟩⟩
          have sm1 : Same H1 (upd H1 p0 (.tup [.int 1, .int 0])) := same_upd hp0
          generalize upd H1 p0 (.tup [.int 1, .int 0]) = H2 at sm1 ⊢
          -- the way back
          refine ⟨_, rfl, R, _, rfl, sqL (sm1 _ _ eR), fun V1 hV => ?_⟩
          have sm2 : Same H2 (upd H2 V1 (.lst (rows.map V.int).reverse)) := same_upd hV
          have hVS : (upd H2 V1 (.lst (rows.map V.int).reverse)) V1 = some (.lst (rows.map V.int).reverse) := upd_same
          generalize upd H2 V1 (.lst (rows.map V.int).reverse) = H3 at sm2 hVS ⊢
          refine ⟨V1, rfl, ⟨_, sqL hVS⟩, for_list (K := K) (a := V1) (xs := (rows.map V.int).reverse) (fun i σ H' => H' = H3 ∧ ∃ y, σ = [some (.int (sz / g)), some (.int (a / g)), some (.int (b / g)), some (.int g), some (.ref R), some (.int one), some (.int 0), some (.int (back (rows.drop (rows.length - i))).1), some (.int (back (rows.drop (rows.length - i))).2), y, none])
            ⟨rfl, none, ?_⟩ (fun i σ H' _ ⟨e, _⟩ => by rw [e]; exact sqL hVS) ?_ ?_⟩
          · rw [Nat.sub_zero, List.drop_length]
            rfl
          · rintro i y σ H' hi ⟨rfl, z, rfl⟩
            rw [← List.map_reverse] at hi
            obtain ⟨n, hn, rfl⟩ := ints_at hi
            have il : i < rows.length := by
              have := (List.getElem?_eq_some_iff.mp hn).1
              rw [List.length_reverse] at this
              exact this
            rw [List.getElem?_reverse il] at hn
            have ed : rows.drop (rows.length - (i + 1)) = n :: rows.drop (rows.length - i) := by
              have l2 : rows.length - 1 - i < rows.length := by omega
              obtain ⟨hx, ex⟩ := List.getElem?_eq_some_iff.mp hn
              rw [show rows.length - (i + 1) = rows.length - 1 - i by omega, List.drop_eq_getElem_cons hx, ex, show rows.length - 1 - i + 1 = rows.length - i by omega]
            obtain ⟨x, yy, E1, lx, ly⟩ := E.drop (B := (a / g) + (b / g)) (by omega) (by omega) (rows.length - (i + 1)) (by omega)
            rw [ed] at E1
            have nab : Bn 4001 ((a / g) + (b / g)) := (n2.add n3).mono (by decide)
            cases E1 with
            | cons h1 h2 E2 =>
              have bnq : Bn 4001 (x / yy) := (nab.of_le (Int.le_of_lt h1) lx).div h2
              have bnt : Bn 4001 (back (rows.drop (rows.length - i))).2 := by
                obtain ⟨_, _, _, _, bd⟩ := E2.back
                by_cases hr : rows.drop (rows.length - i) = []
                · rw [hr]
                  exact bn0
                · exact (nab.of_le (Int.le_of_lt h2) ly).le (bd hr).2
              refine ⟨_, rfl, _, rfl, _, rfl, _, rfl, _, _, rfl, rfl, bnq.mulOk bnt (by decide), _, _, rfl, rfl, _, _, rfl, ?_⟩
              refine ⟨rfl, some (.int (x / yy)), ?_⟩
              rw [ed]
              rfl
          · rintro σ H' ⟨rfl, y, rfl⟩
            rw [List.length_reverse, List.length_map, Nat.sub_self, List.drop_zero]
            have bm : Bn 4001 (back rows).1 := by
              obtain ⟨_, _, _, _, bd⟩ := E.back
              by_cases hr : rows = []
              · rw [hr]
                exact (bnl (n := 1) (by decide)).mono (by decide)
              · exact (n3.le (bd hr).1).mono (by decide)
            have bf : Bn 2000 ((sz / g) * (back rows).1 % (b / g)) := n3.mod p3
            refine ⟨_, rfl, _, rfl, _, _, rfl, rfl, n1.mulOk bm (by decide), _, rfl, _, _, rfl, rfl, p3, ?_⟩
            refine ⟨_, rfl, _, rfl, _, _, rfl, rfl, bf.mulOk n2 (by decide), _, rfl, _, _, rfl, rfl, _, rfl, iteD (fun c => ?_) (fun c => ?_)⟩
            · have e := key rows E
              rw [if_pos c] at e
              rw [e] at q
              exact ⟨_, rfl, q _ (sm.trans (sm1.trans sm2))⟩
            · have e := key rows E
              rw [if_neg c] at e
              rw [e] at q
              exact ⟨_, rfl, q _ (sm.trans (sm1.trans sm2))⟩
      · obtain ⟨v, e, i, j, e1, e2, k, e3, q⟩ := h
        exact ⟨v, e, i, j, e1, e2, k, e3, hq _ _ q⟩
end
end BF

/-! ### the laws' own word of what bars -/
namespace BF
open PySem PySem.Spec PyProof.Rows L2
inductive SpLBars (K : PySem.W.Frag) : Sp where
  | mk {t : Addr} {L W f s k : Int} {H : Hp} {Q : VK} {E : XK} (ht : SqT K H t [.int L, .int W, .int f, .int s]) (hL : Sz L) (hW : Sz W) (hf : Sz f) (hs : Sz s) (q : ∀ H', Same H H' → Q (.bl (barB L W f s k)) H') : SpLBars K [.ref t, .int k] H Q E
theorem str_pos {L W d : Int} (hd : 0 < d) : strB L W d = (decide (0 < L % d) && decide (0 < W % d)) := by
  have h1 := Int.emod_nonneg L (Int.ne_of_gt hd)
  have h2 := Int.emod_nonneg W (Int.ne_of_gt hd)
  unfold strB
  have e1 : (!decide (L % d = 0)) = decide (0 < L % d) := by
    by_cases c : L % d = 0
    · rw [decide_eq_true c, decide_eq_false (by omega)]; rfl
    · rw [decide_eq_false c, decide_eq_true (by omega)]; rfl
  have e2 : (!decide (W % d = 0)) = decide (0 < W % d) := by
    by_cases c : W % d = 0
    · rw [decide_eq_true c, decide_eq_false (by omega)]; rfl
    · rw [decide_eq_false c, decide_eq_true (by omega)]; rfl
  rw [e1, e2]
theorem sho_neg {x f s : Int} (hf : 0 < f) (hs : 0 < s) : decide (fewI (parts x f s) < 0) = shoB x f s := by
  have n := few_neg (s := x) hf hs
  unfold shoB
  cases h : parts x f s with
  | none => rw [h] at n; exact decide_eq_true (n.mpr rfl)
  | some y =>
    rw [h] at n
    exact decide_eq_false fun z => nomatch n.mp z
section
variable {P : Program} {w : World} {K : PySem.W.Frag} {mg : Str → Option Value} {base : Heap}
theorem H__law_bars (p : Pl K mg "_law_bars" s__law_bars) (h__law_few : Has P w K mg base CX0 2 "_law_few" ["_law_size", "_law_first", "_law_second"] SpFew) :
    Has P w K mg base CX0 3 "_law_bars" ["_law_four_here", "_law_which"] (SpLBars K) := by
  refine p.mk0 sc__law_bars (fun _ _ _ _ _ _ us hl => match us, hl with | [_, _], _ => rfl) (fun vs H Q E h => ?_) (fun f cdv A outer s H vs Q E hr h => ?_)
  · cases h; rfl
  · obtain @⟨t, L, W, fi, se, k, _, _, _, ht, hL, hW, hf, hs, q⟩ := h
    refine ⟨_, (pss_cons (ps_asg (pv 0) (pg_tup (by rfl) (pgs_cons (pg_name (i := 2) sc__law_bars.nd rfl (Or.inl rfl)) (pgs_cons (pg_name (i := 3) sc__law_bars.nd rfl (Or.inl rfl)) (pgs_cons (pg_name (i := 4) sc__law_bars.nd rfl (Or.inl rfl)) (pgs_cons (pg_name (i := 5) sc__law_bars.nd rfl (Or.inl rfl)) pgs_nil))))))
      (pss_cons (ps_if (pt_cmpR op_lt (pv 1) pe_int (nomark _)) (pss_cons (ps_set (i := 6) sc__law_bars.nd rfl (Or.inl rfl) (pe_ifExp (pt_cmpR op_eq (pv 1) pe_int (nomark _)) (pv 4) (pv 5)))
      (pss_one (ps_ret (pe_and (pe_cmpR op_gt (pe_op op_mod (pv 2) (pv 6)) pe_int (nomark _)) (pe_one (pe_cmpR op_gt (pe_op op_mod (pv 3) (pv 6)) pe_int (nomark _))))))) pss_nil)
      (pss_one (ps_ret (pe_cmpR op_lt (pe_fn h__law_few (hr.mono (by decide)) pass0 (pa_cons (pe_ifExp (pt_cmpR op_eq (pv 1) pe_int (nomark _)) (pv 2) (pv 3)) (pa_cons (pv 4) (pa_cons (pv 5) pa_nil)))) pe_int (nomark _)))))), ?_⟩
    unfold barB at q
    refine ⟨_, rfl, t, _, rfl, ht, rfl, ?_⟩
    walk_at "rd"
    refine iteD (fun c => ?_) (fun c => ?_)
    · have c : k < 2 := c
      rw [if_pos c] at q
      have side : ∀ d : Int, 0 < d → (∀ H', Same H H' → Q (.bl (strB L W d)) H') → Q (.bl (decide (0 < L % d) && decide (0 < W % d))) H := fun d hd q => by
        rw [← str_pos hd]
        exact q _ (Same.refl _)
      walk_at "rd"
      refine iteEq (fun d => ?_) (fun d => ?_)
      · rw [if_pos d] at q
        have z := side fi hf.pos q
        have p0 := hf.pos
        walk_at "rd"
        refine iteD (fun e => ?_) (fun e => ?_)
        · have e : 0 < L % fi := e
          rw [decide_eq_true e] at z
          walk_at "rd"
          exact z
        · have e : ¬ 0 < L % fi := e
          rw [decide_eq_false e] at z
          exact z
      · rw [if_neg d] at q
        have z := side se hs.pos q
        have p0 := hs.pos
        walk_at "rd"
        refine iteD (fun e => ?_) (fun e => ?_)
        · have e : 0 < L % se := e
          rw [decide_eq_true e] at z
          walk_at "rd"
          exact z
        · have e : ¬ 0 < L % se := e
          rw [decide_eq_false e] at z
          exact z
    · have c : ¬ k < 2 := c
      rw [if_neg c] at q
      walk_at "rd"
      refine iteEq (fun d => ?_) (fun d => ?_)
      · rw [if_pos d] at q
        walk_at "rd"
        refine .mk hL hf hs fun H1 sm1 => ?_
        walk_at "rd"
        show Q (.bl (decide (fewI (parts L fi se) < 0))) H1
        rw [show decide (fewI (parts L fi se) < 0) = shoB L fi se from sho_neg hf.pos hs.pos]
        exact q _ sm1
      · rw [if_neg d] at q
        walk_at "rd"
        refine .mk hW hf hs fun H1 sm1 => ?_
        walk_at "rd"
        show Q (.bl (decide (fewI (parts W fi se) < 0))) H1
        rw [show decide (fewI (parts W fi se) < 0) = shoB W fi se from sho_neg hf.pos hs.pos]
        exact q _ sm1
end
end BF

/-! ### answers.py: bricks and cells -/
namespace BF
open PySem PySem.Spec PyProof.Rows L2
def cellV (c : Int × Int) : List V := [.int c.1, .int c.2]
/-- a brick's tuple, a list of bricks -/
def BrAll (K : PySem.W.Frag) (H : Hp) (ps : List (Addr × Brick)) : Prop := ∀ p ∈ ps, SqT K H p.1 p.2.vs
def refs {α : Type} (ps : List (Addr × α)) : List V := ps.map fun p => V.ref p.1
def vals {α : Type} (ps : List (Addr × α)) : List α := ps.map (·.2)
theorem BrAll.mono {K : PySem.W.Frag} {H H' : Hp} {ps : List (Addr × Brick)} (h : BrAll K H ps) (sm : Same H H') : BrAll K H' ps := fun p hp => Same.tup sm (h p hp)
theorem refs_at {α : Type} {ps : List (Addr × α)} {i : Nat} {v : V} (h : (refs ps)[i]? = some v) : ∃ p, ps[i]? = some p ∧ v = .ref p.1 ∧ p ∈ ps := by
  unfold refs at h
  rw [List.getElem?_map] at h
  cases e : ps[i]? with
  | none => rw [e] at h; cases h
  | some p =>
    rw [e] at h
    exact ⟨p, rfl, (Option.some.inj h).symm, List.mem_of_getElem? e⟩
theorem refs_len {α : Type} (ps : List (Addr × α)) : (refs ps).length = ps.length := List.length_map _
theorem vals_len {α : Type} (ps : List (Addr × α)) : (vals ps).length = ps.length := List.length_map _
inductive SpBeyond (K : PySem.W.Frag) : Sp where
  | mk {o : Addr} {b : Brick} {L W f s : Int} {H : Hp} {Q : VK} {E : XK} (ho : SqT K H o b.vs) (q : ∀ H', Same H H' → Q (.bl (beyB L W f s b)) H') : SpBeyond K [.int L, .int W, .int f, .int s, .ref o] H Q E
inductive SpCovers (K : PySem.W.Frag) : Sp where
  | mk {o t : Addr} {b : Brick} {c : Int × Int} {f s : Int} {H : Hp} {Q : VK} {E : XK} (ho : SqT K H o b.vs) (ht : SqT K H t (cellV c)) (q : ∀ H', Same H H' → Q (.bl (covB f s c b)) H') : SpCovers K [.int f, .int s, .ref o, .ref t] H Q E
inductive SpOften (K : PySem.W.Frag) : Sp where
  | mk {l t : Addr} {ps : List (Addr × Brick)} {c : Int × Int} {f s : Int} {H : Hp} {Q : VK} {E : XK} (hl : SqL K H l (refs ps)) (hb : BrAll K H ps) (hn : ps.length ≤ 10000) (ht : SqT K H t (cellV c)) (q : ∀ H', Same H H' → Q (.int (oftN f s (vals ps) c : Nat)) H') :
    SpOften K [.int f, .int s, .ref l, .ref t] H Q E

end BF

/-! ### answers.py: the cells of a brick; what are cells -/
namespace BF
open PySem PySem.Spec PyProof.Rows L2
def CeAll (H : Hp) (cs : List (Addr × (Int × Int))) : Prop := ∀ q ∈ cs, H q.1 = some (.tup (cellV q.2))
theorem CeAll.mono {H H' : Hp} {cs : List (Addr × (Int × Int))} (h : CeAll H cs) (sm : Same H H') : CeAll H' cs := fun q hq => sm _ _ (h q hq)
inductive SpCells (K : PySem.W.Frag) : Sp where
  | mk {o : Addr} {b : Brick} {f s : Int} {H : Hp} {Q : VK} {E : XK} (ho : SqT K H o b.vs) (h1 : 0 ≤ b.lo f s ∧ b.lo f s ≤ 1000) (h2 : 0 ≤ b.hi f s ∧ b.hi f s ≤ 1000)
      (q : ∀ p H' cs, Same H H' → H' p = some (.lst (refs cs)) → CeAll H' cs → vals cs = cellsL f s b → Q (.ref p) H') : SpCells K [.int f, .int s, .ref o] H Q E
inductive SpIsCell : Sp where
  | mk {t : Addr} {c : Int × Int} {L W : Int} {H : Hp} {Q : VK} {E : XK} (ht : H t = some (.tup (cellV c))) (q : Q (.bl (cellB L W c)) H) : SpIsCell [.int L, .int W, .ref t] H Q E
inductive CellsI (fi se : Int) (o F : Addr) (lo hi x y : Int) (H : Hp) (i : Nat) : L2.St → Hp → Prop where
  | mk {H' : Hp} {z u : Option V} {cs : List (Addr × (Int × Int))} (sm : Same H H') (hF : H' F = some (.lst (refs cs))) (hc : CeAll H' cs) (hv : vals cs = colsL x y i hi.toNat) : CellsI fi se o F lo hi x y H i [some (.int fi), some (.int se), some (.ref o), some (.int lo), some (.int hi), some (.ref F), z, u] H'
theorem ce_add {H : Hp} {cs : List (Addr × (Int × Int))} {p : Addr} {c : Int × Int} (h : CeAll H cs) (hp : H p = some (.tup (cellV c))) : CeAll H (cs ++ [(p, c)]) := fun q hq => by
  rcases List.mem_append.mp hq with a | a
  · exact h q a
  · obtain rfl := List.mem_singleton.mp a
    exact hp
theorem mul_add_le {i n : Nat} (h1 : i < 1000) (h2 : n ≤ 1000) : i * n + n ≤ 1000000 := by
  have := Nat.mul_le_mul (show i + 1 ≤ 1000 by omega) h2
  rw [Nat.succ_mul] at this
  exact this
theorem refs_app {α : Type} (a b : List (Addr × α)) : refs (a ++ b) = refs a ++ refs b := List.map_append
theorem vals_app {α : Type} (a b : List (Addr × α)) : vals (a ++ b) = vals a ++ vals b := List.map_append
section
variable {P : Program} {w : World} {K : PySem.W.Frag} {mg : Str → Option Value} {base : Heap}
theorem H_is_cell (p : Pl K mg "is_cell" s_is_cell) (B : Bi mg) (h_is_number : Has P w K mg base CX0 1 "is_number" ["thing"] (SpIsNumber K)) : Has P w K mg base CX0 2 "is_cell" ["length", "width", "thing"] SpIsCell := by
  refine p.mk0 sc_is_cell (fun _ _ _ _ _ _ us hl => match us, hl with | [_, _, _], _ => rfl) (fun vs H Q E h => ?_) (fun f cdv A outer s H vs Q E hr h => ?_)
  · cases h; rfl
  · obtain @⟨t, ⟨c1, c2⟩, L, W, _, _, _, ht, q⟩ := h
    refine ⟨_, (pss_cons (ps_if (PW.pt (pw_or (pt_not (pt_val (pe_callB (r := rIsi K) call_isi (by rfl) B.isinstance (by decide +kernel) (pa_cons (pv 2) (pa_cons (pe_bltn (v := .ty "tuple") (by rfl) B.tuple (by decide +kernel) rfl) pa_nil))))) (pw_or (pt_cmpR op_ne (pe_callB (r := rLen2 K) call_len_seq (by rfl) B.len PySem.boot_len (pa_cons (pv 2) pa_nil)) pe_int (nomark _)) (pw_or (pt_not (pt_val (pe_fn h_is_number (hr.mono (by decide)) pass0 (pa_cons (pe_ix (r := rIxT K) ix_tup (pv 2) pe_int (fun _ _ => rfl)) pa_nil)))) (pw_or1 (pt_not (pt_val (pe_fn h_is_number (hr.mono (by decide)) pass0 (pa_cons (pe_ix (r := rIxT K) ix_tup (pv 2) pe_int (fun _ _ => rfl)) pa_nil))))))))) (pss_one (ps_ret pe_bl)) pss_nil)
      (pss_one (ps_ret (pe_and (pe_chain op_le op_lt pe_int (pe_ix (r := rIxT K) ix_tup (pv 2) pe_int (fun _ _ => rfl)) (pv 0)) (pe_one (pe_chain op_le op_lt pe_int (pe_ix (r := rIxT K) ix_tup (pv 2) pe_int (fun _ _ => rfl)) (pv 1))))))), ?_⟩
    unfold cellB at q
    refine ⟨_, rfl, _, _, _, _, true, rfl, .ty "tuple", .base (.tup ht), kit_ty (by decide +kernel), true, rfl, iteF ?_⟩
    refine ⟨_, rfl, t, _, rfl, .inr (sqT ht), rfl, _, rfl, iteNe (fun z => absurd rfl z) (fun _ => ?_)⟩
    refine ⟨_, rfl, t, _, 0, _, rfl, rfl, sqT ht, rfl, num_int ⟨true, rfl, iteF ?_⟩⟩
    refine ⟨_, rfl, t, _, 1, _, rfl, rfl, sqT ht, rfl, num_int ⟨true, rfl, iteF ?_⟩⟩
    refine ⟨_, rfl, t, _, 0, _, rfl, rfl, sqT ht, rfl, ?_⟩
    walk_at "rd"
    refine iteD (fun c => ?_) (fun c => ?_)
    · simp only [decide_eq_true c, Bool.true_and] at q
      walk_at "rd"
      refine iteD (fun c => ?_) (fun c => ?_)
      · simp only [decide_eq_true c, Bool.true_and] at q
        refine ⟨_, rfl, t, _, 1, _, rfl, rfl, sqT ht, rfl, ?_⟩
        walk_at "rd"
        refine iteD (fun c => ?_) (fun c => ?_)
        · simp only [decide_eq_true c, Bool.true_and] at q
          walk_at "rd"
          exact q
        · simp only [decide_eq_false c, Bool.false_and] at q
          exact q
      · simp only [decide_eq_false c, Bool.false_and] at q
        exact q
    · simp only [decide_eq_false c, Bool.false_and] at q
      exact ⟨_, rfl, iteF q⟩

end
end BF

/-! ### lists of bricks -/
namespace BF
open PySem PySem.Spec PyProof.Rows L2
/-- a loop over enumerate(list) -/
theorem for_enumL {K : PySem.W.Frag} {a : Addr} {xs : List V} {g : TG} {tb : TS} {D : Ends} {σ : L2.St} {H : Hp} (Pv : Nat → L2.St → Hp → Prop) (h0 : Pv 0 σ H) (hl : ∀ i σ H, i ≤ xs.length → Pv i σ H → SqL K H a xs)
    (hs : ∀ i x T σ H, xs[i]? = some x → Pv i σ H → H T = none → g (.ref T) σ (upd H T (.tup [.int (i : Nat), x])) fun σ2 H2 => tb { D with nx := Pv (i + 1), ct := Pv (i + 1), bk := D.nx } σ2 H2) (hd : ∀ σ H, Pv xs.length σ H → D.nx σ H) :
    ∃ W : Nat → Nat → L2.St → Hp → Prop, (∃ m, W 0 m σ H) ∧ ∀ i m σ H, W i m σ H →
      ((Ite K a).stop i H ∧ D.nx σ H) ∨ ((Ite K a).go i H ∧ ∃ N : L2.St → Hp → Prop, (∀ σ' H', N σ' H' → ∃ m', m' < m ∧ W (i + 1) m' σ' H') ∧ ∀ x H', (Ite K a).yld i H x H' → g x σ H' fun σ2 H2 => tb { D with nx := N, ct := N, bk := D.nx } σ2 H2) := by
  refine ⟨fun i m σ H => m = xs.length - i ∧ i ≤ xs.length ∧ Pv i σ H, ⟨_, rfl, Nat.zero_le _, h0⟩, ?_⟩
  rintro i m σ H ⟨rfl, hi, p⟩
  have sq := hl i σ H hi p
  by_cases c : i < xs.length
  · refine .inr ⟨⟨xs, xs[i], sq, by simp [c]⟩, Pv (i + 1), fun σ' H' p' => ⟨xs.length - (i + 1), by omega, rfl, c, p'⟩, fun x H' y => ?_⟩
    obtain ⟨T, z, rfl, hT, rfl, hx⟩ := y
    exact hs i z T σ H (hx xs sq) p hT
  · have e : i = xs.length := by omega
    subst e
    exact .inl ⟨⟨xs, sq, Nat.le_refl _⟩, hd σ H p⟩
theorem cut_ints2 (ns : List Int) (lo hi : Option Int) : ∃ ms : List Int, cutV (ns.map V.int) lo hi = ms.map V.int ∧ (∀ z ∈ ms, z ∈ ns) ∧ ms.length ≤ ns.length := by
  unfold cutV
  refine ⟨_, cut_map V.int ns _ _, fun z hz => List.mem_of_mem_drop (List.mem_of_mem_take hz), ?_⟩
  rw [List.length_take, List.length_drop]
  omega
def BrT (H : Hp) (ps : List (Addr × Brick)) : Prop := ∀ p ∈ ps, H p.1 = some (.tup p.2.vs)
theorem BrT.mono {H H' : Hp} {ps : List (Addr × Brick)} (h : BrT H ps) (sm : Same H H') : BrT H' ps := fun p hp => sm _ _ (h p hp)
theorem BrT.all {K : PySem.W.Frag} {H : Hp} {ps : List (Addr × Brick)} (h : BrT H ps) : BrAll K H ps := fun p hp => sqT (h p hp)
theorem BrT.app {H : Hp} {a b : List (Addr × Brick)} (h : BrT H a) (k : BrT H b) : BrT H (a ++ b) := fun p hp => by
  rcases List.mem_append.mp hp with z | z
  · exact h p z
  · exact k p z
theorem BrT.one {H : Hp} {p : Addr} {b : Brick} (h : H p = some (.tup b.vs)) : BrT H [(p, b)] := fun q hq => by
  obtain rfl := List.mem_singleton.mp hq
  exact h
theorem BrT.sub {H : Hp} {a b : List (Addr × Brick)} (h : BrT H a) (k : ∀ p ∈ b, p ∈ a) : BrT H b := fun p hp => h p (k p hp)
/-- a list is changed: bricks stay -/
theorem BrT.lst {H : Hp} {F : Addr} {xs : List V} {o : HO} {ps : List (Addr × Brick)} (h : BrT H ps) (e : H F = some (.lst xs)) : BrT (upd H F o) ps := fun p hp => by
  have z := h p hp
  rw [upd_ne (ne_of z e (by intro z; cases z))]
  exact z
/-- a list that H does not know is changed -/
theorem same_mut {H H' : Hp} {F : Addr} {o : HO} (sm : Same H H') (n : H F = none) : Same H (upd H' F o) := fun b u e => by
  rw [upd_ne (ne_of_none e n)]
  exact sm b u e
/-- a tuple where a list is changed -/
theorem keepT {H : Hp} {F t : Addr} {xs ys : List V} {o : HO} (h : H t = some (.tup xs)) (e : H F = some (.lst ys)) : (upd H F o) t = some (.tup xs) := by
  rw [upd_ne (ne_of h e (by intro z; cases z))]
  exact h
/-- one more brick in a comprehension's list -/
theorem lc_brick {H2 H3 : Hp} {D p4 : Addr} {ds : List (Addr × Brick)} {b : Brick} {j : Nat} (hD : H2 D = none) (sm3 : Same H2 H3) (eD : H3 D = some (.lst (refs ds))) (hds : BrT H3 ds) (hj : ds.length = j) (hp4 : H3 p4 = none) (hn : j < 1000) :
    ∃ acc, (upd H3 p4 (.tup b.vs)) D = some (.lst acc) ∧ acc.length < sizeLine ∧ Same H2 (upd (upd H3 p4 (.tup b.vs)) D (.lst (acc ++ [.ref p4]))) ∧ ∃ es, (upd (upd H3 p4 (.tup b.vs)) D (.lst (acc ++ [.ref p4]))) D = some (.lst (refs es)) ∧ BrT (upd (upd H3 p4 (.tup b.vs)) D (.lst (acc ++ [.ref p4]))) es ∧ es.length = j + 1 := by
  have e4 := same_upd (o := .tup b.vs) hp4 _ _ eD
  refine ⟨refs ds, e4, ?_, same_mut (sm3.trans (same_upd hp4)) hD, ds ++ [(p4, b)], ?_, ?_, ?_⟩
  · rw [refs_len, hj]
    exact Nat.lt_trans hn (by decide)
  · rw [upd_same, refs_app]
    rfl
  · exact ((hds.mono (same_upd hp4)).app (.one upd_same)).lst e4
  · rw [List.length_append, hj]
    rfl
theorem at_refs {ps : List (Addr × Brick)} {k : Int} (h0 : 0 ≤ k) (h1 : k < ps.length) : ∃ pb, pb ∈ ps ∧ ps[k.toNat]? = some pb ∧ atI (refs ps) k = some (.ref pb.1) := by
  obtain ⟨n, rfl⟩ := Int.eq_ofNat_of_zero_le h0
  have hlt : n < ps.length := by omega
  refine ⟨ps[n], List.getElem_mem hlt, by rw [Int.toNat_natCast]; exact List.getElem?_eq_getElem hlt, atI_nat ?_⟩
  unfold refs
  rw [List.getElem?_map, List.getElem?_eq_getElem hlt]
  rfl
theorem erase_refs {α : Type} : ∀ (ps : List (Addr × α)) (n : Nat), (refs ps).eraseIdx n = refs (ps.eraseIdx n)
  | [], _ => rfl
  | _ :: _, 0 => rfl
  | p :: ps, n + 1 => by
    show V.ref p.1 :: (refs ps).eraseIdx n = V.ref p.1 :: refs (ps.eraseIdx n)
    rw [erase_refs ps n]
theorem seq_ix {n k : Nat} (h : k < n) : seqIndex? (k : Int) n = some k := by
  unfold seqIndex?
  simp
  omega
end BF

/-! ### laying.py: floors that can be laid -/
namespace BF
open PySem PySem.Spec PyProof.Rows L2
/-- nothing bars -/
def Free (L W f s : Int) : Prop := strL L W f s = [] ∧ shoL L W f s = []
noncomputable def planP (L W f s : Int) : Int × Int :=
  if L % f = 0 ∧ W % s = 0 then (L, W) else if L % s = 0 ∧ W % f = 0 then (0, 0) else if L % f = 0 then (L, ((parts W f s).getD (0, 0)).2 * s) else (((parts L f s).getD (0, 0)).1 * f, W)
noncomputable def brickP (L W f s : Int) (c : Int × Int) : Brick :=
  if c.1 < (planP L W f s).1 ∧ c.2 < (planP L W f s).2 then ⟨c.1 / f * f, c.2 / s * s, true⟩ else
    ⟨(if (planP L W f s).2 = W then (planP L W f s).1 else 0) + (c.1 - (if (planP L W f s).2 = W then (planP L W f s).1 else 0)) / s * s, (if (planP L W f s).1 = L then (planP L W f s).2 else 0) + (c.2 - (if (planP L W f s).1 = L then (planP L W f s).2 else 0)) / f * f, decide (f = s)⟩
inductive SpLaid : Sp where
  | mk {L W f s : Int} {H : Hp} {Q : VK} {E : XK} (hL : Sz L) (hW : Sz W) (hf : Sz f) (hs : Sz s) (fr : Free L W f s) (q : ∀ H', Same H H' → Q .non H') : SpLaid [.int L, .int W, .int f, .int s] H Q E
inductive SpPlan : Sp where
  | mk {L W f s : Int} {H : Hp} {Q : VK} {E : XK} (hL : Sz L) (hW : Sz W) (hf : Sz f) (hs : Sz s) (fr : Free L W f s) (q : ∀ p H', Same H H' → H' p = some (.tup [.int (planP L W f s).1, .int (planP L W f s).2]) → Q (.ref p) H') : SpPlan [.int L, .int W, .int f, .int s] H Q E
section
variable {P : Program} {w : World} {K : PySem.W.Frag} {mg : Str → Option Value} {base : Heap}
theorem H_check_laid (p : Pl K mg "check_laid" s_check_laid) (h_check_sizes : Has P w K mg base CX0 2 "check_sizes" ["some"] (SpCheckSizes K)) (h_what_bars : Has P w K mg base CX0 3 "what_bars" ["length", "width", "first", "second"] SpBars) :
    Has P w K mg base CX0 4 "check_laid" ["length", "width", "first", "second"] SpLaid := by
  refine p.mk0 sc_check_laid (fun _ _ _ _ _ _ us hl => match us, hl with | [_, _, _, _], _ => rfl) (fun vs H Q E h => ?_) (fun f cdv A outer s H vs Q E hr h => ?_)
  · cases h; rfl
  · obtain @⟨L, W, fi, se, _, _, _, hL, hW, hf, hs, fr, q⟩ := h
    refine ⟨_, (pss_cons (ps_expr (pe_fn h_check_sizes (hr.mono (by decide)) pass0 (pa_cons (pe_lst (pa_cons (pv 0) (pa_cons (pv 1) (pa_cons (pv 2) (pa_cons (pv 3) pa_nil))))) pa_nil)))
      (pss_one (ps_if (pt_cmpR (r := rNeD K) (op_neD hr.units) (pe_fn h_what_bars (hr.mono (by decide)) pass0 (pa_cons (pv 0) (pa_cons (pv 1) (pa_cons (pv 2) (pa_cons (pv 3) pa_nil))))) (pe_tup (pa_cons (pe_lst pa_nil) (pa_cons (pe_lst pa_nil) pa_nil))) (nomark _)) (pss_one ps_never) pss_nil))), ?_⟩
    walk_at "rd"
    intro l1 hl1
    generalize hH1 : upd H l1 _ = H1
    obtain ⟨sm1, up1⟩ : Same H H1 ∧ H1 l1 = some (.lst ([L, W, fi, se].map V.int)) := newH hH1 hl1
    clear hH1
    refine .mk (ns := [L, W, fi, se]) (sqL up1) ?_ ?_
    · intro n hn
      have e : n = L ∨ n = W ∨ n = fi ∨ n = se := by simpa using hn
      rcases e with rfl | rfl | rfl | rfl
      · exact hL.pos
      · exact hW.pos
      · exact hf.pos
      · exact hs.pos
    walk_at "rd"
    refine .mk hL hW hf hs fun t p1 p2 H2 sm2 ht hp1 hp2 => ?_
    rw [fr.1] at hp1
    rw [fr.2] at hp2
    walk_at "rd"
    intro l3 hl3
    generalize hH3 : upd H2 l3 _ = H3
    obtain ⟨sm3, up3⟩ : Same H2 H3 ∧ H3 l3 = some (.lst []) := newH hH3 hl3
    clear hH3
    walk_at "rd"
    intro l4 hl4
    generalize hH4 : upd H3 l4 _ = H4
    obtain ⟨sm4, up4⟩ : Same H3 H4 ∧ H4 l4 = some (.lst []) := newH hH4 hl4
    clear hH4
    walk_at "rd"
    intro t5 ht5
    generalize hH5 : upd H4 t5 _ = H5
    obtain ⟨sm5, up5⟩ : Same H4 H5 ∧ H5 t5 = some (.tup [.ref l3, .ref l4]) := newH hH5 ht5
    clear hH5
    have s45 := sm4.trans sm5
    have s25 := sm3.trans s45
    refine ⟨.tuple [.list [], .list []], .tuple [.list [], .list []], .tup (sqT (s25 _ _ ht)) (.cons (.lst (sqL (s25 _ _ hp1)) .nil) (.cons (.lst (sqL (s25 _ _ hp2)) .nil) .nil)), .tup (sqT up5) (.cons (.lst (sqL (s45 _ _ up3)) .nil) (.cons (.lst (sqL (sm5 _ _ up4)) .nil) .nil)), rfl, rfl, ?_⟩
    rw [SeqAt.eqv_refl]
    · exact ⟨_, rfl, iteF (q _ (sm1.trans (sm2.trans s25)))⟩
    · rfl
theorem free_parts {L W f s : Int} (fr : Free L W f s) (hf : 0 < f) (hs : 0 < s) : (∃ m n, parts L f s = some (m, n) ∧ Rep L f s m n) ∧ ∃ m n, parts W f s = some (m, n) ∧ Rep W f s m n := by
  have h := fr.2
  unfold shoL two shoB at h
  have one : ∀ x, (parts x f s).isNone = false → ∃ m n, parts x f s = some (m, n) ∧ Rep x f s m n := by
    intro x hx
    have p := parts_is (s := x) hf hs
    cases e : BF.parts x f s with
    | none => rw [e] at hx; exact nomatch hx
    | some y =>
      rw [e] at p
      exact ⟨y.1, y.2, rfl, p.1⟩
  constructor
  · refine one L ?_
    cases e : (BF.parts L f s).isNone with
    | false => rfl
    | true => rw [e] at h; simp at h
  · refine one W ?_
    cases e : (BF.parts W f s).isNone with
    | false => rfl
    | true => rw [e] at h; simp at h
theorem Rep.le {x f s m n : Int} (h : Rep x f s m n) (hf : 0 < f) (hs : 0 < s) : m ≤ x ∧ n ≤ x ∧ m * f ≤ x ∧ n * s ≤ x := by
  obtain ⟨h1, h2, h3⟩ := h
  have a := Int.mul_le_mul_of_nonneg_left (show (1 : Int) ≤ f by omega) h1
  have b := Int.mul_le_mul_of_nonneg_left (show (1 : Int) ≤ s by omega) h2
  omega
theorem H_plan (p : Pl K mg "plan" s_plan) (h_parts_of : Has P w K mg base CX0 2 "parts_of" ["size", "first", "second"] SpParts) : Has P w K mg base CX0 3 "plan" ["length", "width", "first", "second"] SpPlan := by
  refine p.mk0 sc_plan (fun _ _ _ _ _ _ us hl => match us, hl with | [_, _, _, _], _ => rfl) (fun vs H Q E h => ?_) (fun f cdv A outer s H vs Q E hr h => ?_)
  · cases h; rfl
  · obtain @⟨L, W, fi, se, _, _, _, hL, hW, hf, hs, fr, q⟩ := h
    refine ⟨_, (pss_cons (ps_if (PW.pt (pw_and (pt_cmpR op_eq (pe_op op_mod (pv 0) (pv 2)) pe_int (nomark _)) (pw_and1 (pt_cmpR op_eq (pe_op op_mod (pv 1) (pv 3)) pe_int (nomark _))))) (pss_one (ps_ret (pe_tup (pa_cons (pv 0) (pa_cons (pv 1) pa_nil))))) pss_nil)
      (pss_cons (ps_if (PW.pt (pw_and (pt_cmpR op_eq (pe_op op_mod (pv 0) (pv 3)) pe_int (nomark _)) (pw_and1 (pt_cmpR op_eq (pe_op op_mod (pv 1) (pv 2)) pe_int (nomark _))))) (pss_one (ps_ret (pe_tup (pa_cons pe_int (pa_cons pe_int pa_nil))))) pss_nil)
      (pss_cons (ps_if (pt_cmpR op_eq (pe_op op_mod (pv 0) (pv 2)) pe_int (nomark _)) (pss_one (ps_ret (pe_tup (pa_cons (pv 0) (pa_cons (pe_op op_mulX (pe_ix (r := rIxT K) ix_tup (pe_fn h_parts_of (hr.mono (by decide)) pass0 (pa_cons (pv 1) (pa_cons (pv 2) (pa_cons (pv 3) pa_nil)))) pe_int (fun _ _ => rfl)) (pv 3)) pa_nil))))) pss_nil)
      (pss_one (ps_ret (pe_tup (pa_cons (pe_op op_mulX (pe_ix (r := rIxT K) ix_tup (pe_fn h_parts_of (hr.mono (by decide)) pass0 (pa_cons (pv 0) (pa_cons (pv 2) (pa_cons (pv 3) pa_nil)))) pe_int (fun _ _ => rfl)) (pv 2)) (pa_cons (pv 1) pa_nil)))))))), ?_⟩
    have pf := hf.pos
    have ps := hs.pos
    obtain ⟨⟨m1, n1, e1, r1⟩, ⟨m2, n2, e2, r2⟩⟩ := free_parts fr pf ps
    have b1 := r1.le pf ps
    have b2 := r2.le pf ps
    have B1 : Bn 2000 m1 := hL.bn.of_le r1.1 b1.1
    have B2 : Bn 2000 n2 := hW.bn.of_le r2.2.1 b2.2.1
    unfold planP at q
    rw [e1, e2] at q
    simp only [Option.getD_some] at q
    have two : ∀ {A B : Prop}, A → B → True := fun _ _ => trivial
    by_cases c1 : L % fi = 0 ∧ W % se = 0
    · rw [if_pos c1] at q
      walk_at "rd"
      refine iteEq (fun _ => ?_) (fun z => absurd c1.1 z)
      walk_at "rd"
      refine iteEq (fun _ => ?_) (fun z => absurd c1.2 z)
      walk_at "rd"
      exact fun p hp => q p _ (same_upd hp) upd_same
    rw [if_neg c1] at q
    refine if_no (H' := H) (fun r hr0 => ?_) ?_
    · walk_at "rd"
      refine iteEq (fun d1 => ?_) (fun z => hr0)
      walk_at "rd"
      rw [show decide (V.int (W % se) = V.int 0) = false from decide_eq_false fun z => c1 ⟨d1, V.int.inj z⟩]
      exact hr0
    by_cases c2 : L % se = 0 ∧ W % fi = 0
    · rw [if_pos c2] at q
      walk_at "rd"
      refine iteEq (fun _ => ?_) (fun z => absurd c2.1 z)
      walk_at "rd"
      refine iteEq (fun _ => ?_) (fun z => absurd c2.2 z)
      walk_at "rd"
      exact fun p hp => q p _ (same_upd hp) upd_same
    rw [if_neg c2] at q
    refine if_no (H' := H) (fun r hr0 => ?_) ?_
    · walk_at "rd"
      refine iteEq (fun d1 => ?_) (fun z => hr0)
      walk_at "rd"
      rw [show decide (V.int (W % fi) = V.int 0) = false from decide_eq_false fun z => c2 ⟨d1, V.int.inj z⟩]
      exact hr0
    walk_at "rd"
    refine iteEq (fun d1 => ?_) (fun d1 => ?_)
    · rw [if_pos d1] at q
      walk_at "rd"
      refine .mk hW hf hs (tell_of fun v H5 sm5 tv => ?_)
      rw [e2] at tv
      obtain ⟨p5, rfl, hp5⟩ := tv
      refine ⟨p5, _, 1, _, rfl, rfl, sqT hp5, rfl, ?_⟩
      walk_at "rd"
      exact fun p hp => q p _ (sm5.trans (same_upd hp)) upd_same
    · rw [if_neg d1] at q
      walk_at "rd"
      refine .mk hL hf hs (tell_of fun v H5 sm5 tv => ?_)
      rw [e1] at tv
      obtain ⟨p5, rfl, hp5⟩ := tv
      refine ⟨p5, _, 0, _, rfl, rfl, sqT hp5, rfl, ?_⟩
      walk_at "rd"
      exact fun p hp => q p _ (sm5.trans (same_upd hp)) upd_same
theorem plan_in {L W f s : Int} (hL : 0 < L) (hW : 0 < W) (hf : 0 < f) (hs : 0 < s) (fr : Free L W f s) : (0 ≤ (planP L W f s).1 ∧ (planP L W f s).1 ≤ L) ∧ 0 ≤ (planP L W f s).2 ∧ (planP L W f s).2 ≤ W := by
  obtain ⟨⟨m1, n1, e1, r1⟩, ⟨m2, n2, e2, r2⟩⟩ := free_parts fr hf hs
  have b1 := r1.le hf hs
  have b2 := r2.le hf hs
  unfold planP
  rw [e1, e2]
  simp only [Option.getD_some]
  have z1 := Int.mul_nonneg r1.1 (Int.le_of_lt hf)
  have z2 := Int.mul_nonneg r2.2.1 (Int.le_of_lt hs)
  split
  · exact ⟨⟨by omega, by omega⟩, by omega, by omega⟩
  split
  · exact ⟨⟨by omega, by omega⟩, by omega, by omega⟩
  split
  · exact ⟨⟨by omega, by omega⟩, z2, b2.2.2.2⟩
  · exact ⟨⟨z1, b1.2.2.1⟩, by omega, by omega⟩
inductive SpBrickOn : Sp where
  | mk {t : Addr} {c : Int × Int} {L W f s : Int} {H : Hp} {Q : VK} {E : XK} (hL : Sz L) (hW : Sz W) (hf : Sz f) (hs : Sz s) (fr : Free L W f s) (ht : H t = some (.tup (cellV c))) (hc : cellB L W c = true)
      (q : ∀ p p1 H', Same H H' → H' p = some (.tup [.ref p1, .bl (brickP L W f s c).l]) → H' p1 = some (.tup (cellV ((brickP L W f s c).x, (brickP L W f s c).y))) → Q (.ref p) H') : SpBrickOn [.int L, .int W, .int f, .int s, .ref t] H Q E
theorem H_brick_on (p : Pl K mg "brick_on" s_brick_on) (h_check_laid : Has P w K mg base CX0 4 "check_laid" ["length", "width", "first", "second"] SpLaid) (h_is_cell : Has P w K mg base CX0 2 "is_cell" ["length", "width", "thing"] SpIsCell) (h_plan : Has P w K mg base CX0 3 "plan" ["length", "width", "first", "second"] SpPlan) :
    Has P w K mg base CX0 5 "brick_on" ["length", "width", "first", "second", "cell"] SpBrickOn := by
  refine p.mk0 sc_brick_on (fun _ _ _ _ _ _ us hl => match us, hl with | [_, _, _, _, _], _ => rfl) (fun vs H Q E h => ?_) (fun f cdv A outer s H vs Q E hr h => ?_)
  · cases h; rfl
  · obtain @⟨t, ⟨c1, c2⟩, L, W, fi, se, _, _, _, hL, hW, hf, hs, fr, ht, hc, q⟩ := h
    refine ⟨_, (pss_cons (ps_expr (pe_fn h_check_laid (hr.mono (by decide)) pass0 (pa_cons (pv 0) (pa_cons (pv 1) (pa_cons (pv 2) (pa_cons (pv 3) pa_nil))))))
      (pss_cons (ps_if (pt_not (pt_val (pe_fn h_is_cell (hr.mono (by decide)) pass0 (pa_cons (pv 0) (pa_cons (pv 1) (pa_cons (pv 4) pa_nil)))))) (pss_one ps_never) pss_nil)
      (pss_cons (ps_asg (pe_fn h_plan (hr.mono (by decide)) pass0 (pa_cons (pv 0) (pa_cons (pv 1) (pa_cons (pv 2) (pa_cons (pv 3) pa_nil))))) (pg_tup (by rfl) (pgs_cons (pg_name (i := 5) sc_brick_on.nd rfl (Or.inl rfl)) (pgs_cons (pg_name (i := 6) sc_brick_on.nd rfl (Or.inl rfl)) pgs_nil))))
      (pss_cons (ps_if (PW.pt (pw_and (pt_cmpR op_lt (pe_ix (r := rIxT K) ix_tup (pv 4) pe_int (fun _ _ => rfl)) (pv 5) (nomark _)) (pw_and1 (pt_cmpR op_lt (pe_ix (r := rIxT K) ix_tup (pv 4) pe_int (fun _ _ => rfl)) (pv 6) (nomark _))))) (pss_one (ps_ret (pe_tup (pa_cons (pe_tup (pa_cons (pe_op op_mulX (pe_op op_fdivW (pe_ix (r := rIxT K) ix_tup (pv 4) pe_int (fun _ _ => rfl)) (pv 2)) (pv 2)) (pa_cons (pe_op op_mulX (pe_op op_fdivW (pe_ix (r := rIxT K) ix_tup (pv 4) pe_int (fun _ _ => rfl)) (pv 3)) (pv 3)) pa_nil))) (pa_cons pe_bl pa_nil))))) pss_nil)
      (pss_cons (ps_par (i := 7) (j := 8) (by rfl) sc_brick_on.nd rfl rfl (by decide) rfl rfl (pa_cons (pe_ifExp (pt_cmpR op_eq (pv 6) (pv 1) (nomark _)) (pv 5) pe_int) (pa_cons (pe_ifExp (pt_cmpR op_eq (pv 5) (pv 0) (nomark _)) (pv 6) pe_int) pa_nil)) (by rfl))
      (pss_cons (ps_set (i := 9) sc_brick_on.nd rfl (Or.inl rfl) (pe_tup (pa_cons (pe_op op_add (pv 7) (pe_op op_mulX (pe_op op_fdivW (pe_op op_sub (pe_ix (r := rIxT K) ix_tup (pv 4) pe_int (fun _ _ => rfl)) (pv 7)) (pv 3)) (pv 3))) (pa_cons (pe_op op_add (pv 8) (pe_op op_mulX (pe_op op_fdivW (pe_op op_sub (pe_ix (r := rIxT K) ix_tup (pv 4) pe_int (fun _ _ => rfl)) (pv 8)) (pv 2)) (pv 2))) pa_nil))))
      (pss_one (ps_ret (pe_tup (pa_cons (pv 9) (pa_cons (pe_cmpR op_eq (pv 2) (pv 3) (nomark _)) pa_nil))))))))))), ?_⟩
    have pin := plan_in hL.pos hW.pos hf.pos hs.pos fr
    walk_at "rd"
    refine .mk hL hW hf hs fr fun H1 sm1 => ?_
    walk_at "rd"
    refine .mk (sm1 _ _ ht) ?_
    rw [hc]
    refine ⟨_, rfl, iteF ?_⟩
    walk_at "rd"
    refine .mk hL hW hf hs fr fun p2 H2 sm2 hp2 => ?_
    unfold brickP at q
    generalize planP L W fi se = pl at hp2 pin q
    obtain ⟨al, up⟩ := pl
    dsimp only at hp2 pin q
    have hc2 := hc
    unfold cellB at hc2
    simp only [Bool.and_eq_true, decide_eq_true_eq] at hc2
    refine ⟨p2, _, rfl, sqT hp2, rfl, ?_⟩
    have s02 := sm1.trans sm2
    have ht2 := sqT (K := K) (s02 _ _ ht)
    have Bc1 : Bn 2000 c1 := hL.bn.of_le (by omega) (by omega)
    have Bc2 : Bn 2000 c2 := hW.bn.of_le (by omega) (by omega)
    have Ba : Bn 2000 al := hL.bn.of_le (by omega) (by omega)
    have Bu : Bn 2000 up := hW.bn.of_le (by omega) (by omega)
    refine ⟨_, _, rfl, _, _, rfl, rfl, ?_⟩
    by_cases cc : c1 < al ∧ c2 < up
    · simp only [if_pos cc] at q
      refine ⟨_, rfl, t, _, 0, _, rfl, rfl, ht2, rfl, ?_⟩
      walk_at "rd"
      refine iteP cc.1 ?_
      refine ⟨_, rfl, t, _, 1, _, rfl, rfl, ht2, rfl, ?_⟩
      walk_at "rd"
      refine iteP cc.2 ?_
      refine ⟨_, rfl, t, _, 0, _, rfl, rfl, ht2, rfl, ?_⟩
      walk_at "rd"
      refine ⟨t, _, 1, _, rfl, rfl, ht2, rfl, ?_⟩
      walk_at "rd"
      intro p3 hp3
      generalize hH3 : upd H2 p3 _ = H3
      obtain ⟨sm3, up3⟩ : Same H2 H3 ∧ H3 p3 = some (.tup (cellV (c1 / fi * fi, c2 / se * se))) := newH hH3 hp3
      clear hH3
      walk_at "rd"
      exact fun p4 hp4 => q p4 p3 _ (s02.trans (sm3.trans (same_upd hp4))) upd_same (same_upd hp4 _ _ up3)
    simp only [if_neg cc] at q
    dsimp only
    refine if_no (H' := H2) (fun r hr0 => ?_) ?_
    · refine ⟨_, rfl, t, _, 0, _, rfl, rfl, ht2, rfl, ?_⟩
      walk_at "rd"
      refine iteD (fun d1 => ?_) (fun _ => hr0)
      refine ⟨_, rfl, t, _, 1, _, rfl, rfl, ht2, rfl, ?_⟩
      walk_at "rd"
      rw [show decide (c2 < up) = false from decide_eq_false fun z => cc ⟨d1, z⟩]
      exact hr0
    generalize hbe : (if up = W then al else 0) = be at q
    generalize hlo : (if al = L then up else 0) = lo at q
    have Bb : Bn 2000 be := by rw [← hbe]; split; exact Ba; exact bn0
    have Bl : Bn 2000 lo := by rw [← hlo]; split; exact Bu; exact bn0
    have ed : decide (V.int fi = V.int se) = decide (fi = se) := decide_eq_decide.mpr ⟨fun z => V.int.inj z, fun z => congrArg V.int z⟩
    by_cases h1 : up = W <;> by_cases h2 : al = L
    all_goals
      first | rw [if_pos h1] at hbe | rw [if_neg h1] at hbe
      first | rw [if_pos h2] at hlo | rw [if_neg h2] at hlo
      rw [← hbe] at Bb
      rw [← hlo] at Bl
      rw [← hbe, ← hlo] at q
      walk_at "rd"
      first | refine iteEq (fun _ => ?_) (fun z => absurd h1 z) | refine iteEq (fun z => absurd z h1) (fun _ => ?_)
      walk_at "rd"
      first | refine iteEq (fun _ => ?_) (fun z => absurd h2 z) | refine iteEq (fun z => absurd z h2) (fun _ => ?_)
      walk_at "rd"
      refine ⟨t, _, 0, _, rfl, rfl, ht2, rfl, ?_⟩
      walk_at "rd"
      refine ⟨t, _, 1, _, rfl, rfl, ht2, rfl, ?_⟩
      walk_at "rd"
      intro p3 hp3
      refine ⟨_, rfl, ?_⟩
      walk_at "rd"
      intro p4 hp4
      refine q p4 p3 _ (s02.trans ((same_upd hp3).trans (same_upd hp4))) ?_ ?_
      · rw [← ed]
        exact upd_same
      · exact same_upd hp4 _ _ upd_same
/-- how many lie -/
noncomputable def lieP (L W f s : Int) : Int := if f = s then L * W / (f * s) else (planP L W f s).1 * (planP L W f s).2 / (f * s)
inductive SpLying : Sp where
  | mk {L W f s : Int} {H : Hp} {Q : VK} {E : XK} (hL : Sz L) (hW : Sz W) (hf : Sz f) (hs : Sz s) (fr : Free L W f s) (q : ∀ H', Same H H' → Q (.int (lieP L W f s)) H') : SpLying [.int L, .int W, .int f, .int s] H Q E
inductive SpStanding : Sp where
  | mk {L W f s : Int} {H : Hp} {Q : VK} {E : XK} (hL : Sz L) (hW : Sz W) (hf : Sz f) (hs : Sz s) (fr : Free L W f s) (q : ∀ H', Same H H' → Q (.int (L * W / (f * s) - lieP L W f s)) H') : SpStanding [.int L, .int W, .int f, .int s] H Q E
theorem H_lying (p : Pl K mg "lying" s_lying) (h_check_laid : Has P w K mg base CX0 4 "check_laid" ["length", "width", "first", "second"] SpLaid) (h_plan : Has P w K mg base CX0 3 "plan" ["length", "width", "first", "second"] SpPlan) :
    Has P w K mg base CX0 5 "lying" ["length", "width", "first", "second"] SpLying := by
  refine p.mk0 sc_lying (fun _ _ _ _ _ _ us hl => match us, hl with | [_, _, _, _], _ => rfl) (fun vs H Q E h => ?_) (fun f cdv A outer s H vs Q E hr h => ?_)
  · cases h; rfl
  · obtain @⟨L, W, fi, se, _, _, _, hL, hW, hf, hs, fr, q⟩ := h
    refine ⟨_, (pss_cons (ps_expr (pe_fn h_check_laid (hr.mono (by decide)) pass0 (pa_cons (pv 0) (pa_cons (pv 1) (pa_cons (pv 2) (pa_cons (pv 3) pa_nil))))))
      (pss_cons (ps_asg (pe_fn h_plan (hr.mono (by decide)) pass0 (pa_cons (pv 0) (pa_cons (pv 1) (pa_cons (pv 2) (pa_cons (pv 3) pa_nil))))) (pg_tup (by rfl) (pgs_cons (pg_name (i := 4) sc_lying.nd rfl (Or.inl rfl)) (pgs_cons (pg_name (i := 5) sc_lying.nd rfl (Or.inl rfl)) pgs_nil))))
      (pss_cons (ps_if (pt_cmpR op_eq (pv 2) (pv 3) (nomark _)) (pss_one (ps_ret (pe_op op_fdivW (pe_op op_mulX (pv 0) (pv 1)) (pe_op op_mulX (pv 2) (pv 3))))) pss_nil)
      (pss_one (ps_ret (pe_op op_fdivW (pe_op op_mulX (pv 4) (pv 5)) (pe_op op_mulX (pv 2) (pv 3)))))))), ?_⟩
    have pin := plan_in hL.pos hW.pos hf.pos hs.pos fr
    walk_at "rd"
    refine .mk hL hW hf hs fr fun H1 sm1 => ?_
    walk_at "rd"
    refine .mk hL hW hf hs fr fun p2 H2 sm2 hp2 => ?_
    unfold lieP at q
    generalize planP L W fi se = pl at hp2 pin q
    obtain ⟨al, up⟩ := pl
    dsimp only at hp2 pin q
    refine ⟨p2, _, rfl, sqT hp2, rfl, ?_⟩
    have s02 := sm1.trans sm2
    have Ba : Bn 2000 al := hL.bn.of_le (by omega) (by omega)
    have Bu : Bn 2000 up := hW.bn.of_le (by omega) (by omega)
    have pfs : 0 < fi * se := Int.mul_pos hf.pos hs.pos
    refine ⟨_, _, rfl, _, _, rfl, rfl, ?_⟩
    walk_at "rd"
    refine iteEq (fun c => ?_) (fun c => ?_)
    · rw [if_pos c] at q
      walk_at "rd"
      exact q _ s02
    · rw [if_neg c] at q
      walk_at "rd"
      exact q _ s02
theorem H_standing (p : Pl K mg "standing" s_standing) (h_lying : Has P w K mg base CX0 5 "lying" ["length", "width", "first", "second"] SpLying) : Has P w K mg base CX0 6 "standing" ["length", "width", "first", "second"] SpStanding := by
  refine p.mk0 sc_standing (fun _ _ _ _ _ _ us hl => match us, hl with | [_, _, _, _], _ => rfl) (fun vs H Q E h => ?_) (fun f cdv A outer s H vs Q E hr h => ?_)
  · cases h; rfl
  · obtain @⟨L, W, fi, se, _, _, _, hL, hW, hf, hs, fr, q⟩ := h
    refine ⟨_, (pss_cons (ps_set (i := 4) sc_standing.nd rfl (Or.inl rfl) (pe_fn h_lying (hr.mono (by decide)) pass0 (pa_cons (pv 0) (pa_cons (pv 1) (pa_cons (pv 2) (pa_cons (pv 3) pa_nil))))))
      (pss_one (ps_ret (pe_op op_sub (pe_op op_fdivW (pe_op op_mulX (pv 0) (pv 1)) (pe_op op_mulX (pv 2) (pv 3))) (pv 4))))), ?_⟩
    have pfs : 0 < fi * se := Int.mul_pos hf.pos hs.pos
    walk_at "rd"
    refine .mk hL hW hf hs fr fun H1 sm1 => ?_
    walk_at "rd"
    exact q _ sm1
end
end BF

/-! ### floors that can't be laid are refused -/
namespace BF
open PySem PySem.Spec PyProof.Rows L2
inductive SpLaidX (K : PySem.W.Frag) : Sp where
  | mk {L W f s : Int} {H : Hp} {Q : VK} {E : XK} (hL : Sz L) (hW : Sz W) (hf : Sz f) (hs : Sz s) (fr : ¬ Free L W f s) (q : ∀ H', Same H H' → E (.ref (er K .barred)) none H') : SpLaidX K [.int L, .int W, .int f, .int s] H Q E
inductive SpBrickX (K : PySem.W.Frag) : Sp where
  | mk {L W f s : Int} {v : V} {H : Hp} {Q : VK} {E : XK} (hL : Sz L) (hW : Sz W) (hf : Sz f) (hs : Sz s) (fr : ¬ Free L W f s) (q : ∀ H', Same H H' → E (.ref (er K .barred)) none H') : SpBrickX K [.int L, .int W, .int f, .int s, v] H Q E
theorem shp_two (xs ys : List Int) : SeqAt.shaped (.tuple [.list (xs.map .int), .list (ys.map .int)]) = true := (shp_tuple (n := 2) fun d hd => by
  have z : d = .list (xs.map .int) ∨ d = .list (ys.map .int) := by simpa using hd
  rcases z with rfl | rfl
  · exact shp_list (n := 1) fun d hd => by
      obtain ⟨i, _, rfl⟩ := List.mem_map.mp hd
      exact shp_int i
  · exact shp_list (n := 1) fun d hd => by
      obtain ⟨i, _, rfl⟩ := List.mem_map.mp hd
      exact shp_int i).ok (by decide)
theorem two_ne {xs ys : List Int} (h : ¬ (xs = [] ∧ ys = [])) : (!PyData.eqv (.tuple [.list (xs.map .int), .list (ys.map .int)]) (.tuple [.list [], .list []])) = true := by
  cases xs with
  | cons x xs => rfl
  | nil =>
    cases ys with
    | cons y ys => rfl
    | nil => exact absurd ⟨rfl, rfl⟩ h
section
variable {P : Program} {w : World} {K : PySem.W.Frag} {mg : Str → Option Value} {base : Heap}
theorem HX_check_laid (p : Pl K mg "check_laid" s_check_laid) (GE : ErG K mg) (h_check_sizes : Has P w K mg base CX0 2 "check_sizes" ["some"] (SpCheckSizes K)) (h_what_bars : Has P w K mg base CX0 3 "what_bars" ["length", "width", "first", "second"] SpBars) :
    Has P w K mg base (CXN P w) 4 "check_laid" ["length", "width", "first", "second"] (SpLaidX K) := by
  refine p.mkX sc_check_laid (fun _ _ _ _ _ _ us hl => match us, hl with | [_, _, _, _], _ => rfl) (fun vs H Q E h => ?_) (fun f cdv A outer s H vs Q E hr h => ?_)
  · cases h; rfl
  · obtain @⟨L, W, fi, se, _, _, _, hL, hW, hf, hs, fr, q⟩ := h
    refine ⟨_, (pss_cons (ps_expr (pe_fn h_check_sizes (hr.mono (by decide)) pass0 (pa_cons (pe_lst (pa_cons (pv 0) (pa_cons (pv 1) (pa_cons (pv 2) (pa_cons (pv 3) pa_nil))))) pa_nil)))
      (pss_one (ps_if (pt_cmpR (r := rNeD K) (op_neD hr.units) (pe_fn h_what_bars (hr.mono (by decide)) pass0 (pa_cons (pv 0) (pa_cons (pv 1) (pa_cons (pv 2) (pa_cons (pv 3) pa_nil))))) (pe_tup (pa_cons (pe_lst pa_nil) (pa_cons (pe_lst pa_nil) pa_nil))) (nomark _)) (pss_one (L2N.ps_raise rfl (L2N.takes_of rfl rfl rfl rfl) (pmk_err (e := .barred) GE rfl))) pss_nil))), ?_⟩
    walk_at "rd"
    intro l1 hl1
    generalize hH1 : upd H l1 _ = H1
    obtain ⟨sm1, up1⟩ : Same H H1 ∧ H1 l1 = some (.lst ([L, W, fi, se].map V.int)) := newH hH1 hl1
    clear hH1
    refine .mk (ns := [L, W, fi, se]) (sqL up1) ?_ ?_
    · intro n hn
      have e : n = L ∨ n = W ∨ n = fi ∨ n = se := by simpa using hn
      rcases e with rfl | rfl | rfl | rfl
      · exact hL.pos
      · exact hW.pos
      · exact hf.pos
      · exact hs.pos
    walk_at "rd"
    refine .mk hL hW hf hs fun t p1 p2 H2 sm2 ht hp1 hp2 => ?_
    walk_at "rd"
    intro l3 hl3
    generalize hH3 : upd H2 l3 _ = H3
    obtain ⟨sm3, up3⟩ : Same H2 H3 ∧ H3 l3 = some (.lst []) := newH hH3 hl3
    clear hH3
    walk_at "rd"
    intro l4 hl4
    generalize hH4 : upd H3 l4 _ = H4
    obtain ⟨sm4, up4⟩ : Same H3 H4 ∧ H4 l4 = some (.lst []) := newH hH4 hl4
    clear hH4
    walk_at "rd"
    intro t5 ht5
    generalize hH5 : upd H4 t5 _ = H5
    obtain ⟨sm5, up5⟩ : Same H4 H5 ∧ H5 t5 = some (.tup [.ref l3, .ref l4]) := newH hH5 ht5
    clear hH5
    have s45 := sm4.trans sm5
    have s25 := sm3.trans s45
    refine ⟨.tuple [.list ((strL L W fi se).map .int), .list ((shoL L W fi se).map .int)], .tuple [.list [], .list []], .tup (sqT (s25 _ _ ht)) (.cons (.lst (sqL (s25 _ _ hp1)) (dp_ints _)) (.cons (.lst (sqL (s25 _ _ hp2)) (dp_ints _)) .nil)), .tup (sqT up5) (.cons (.lst (sqL (s45 _ _ up3)) .nil) (.cons (.lst (sqL (sm5 _ _ up4)) .nil) .nil)), shp_two _ _, rfl, ?_⟩
    rw [two_ne fr]
    exact ⟨_, rfl, iteT (q _ (sm1.trans (sm2.trans s25)))⟩
theorem HX_brick_on (p : Pl K mg "brick_on" s_brick_on) (GE : ErG K mg) (hx_check_laid : Has P w K mg base (CXN P w) 4 "check_laid" ["length", "width", "first", "second"] (SpLaidX K)) (h_is_cell : Has P w K mg base CX0 2 "is_cell" ["length", "width", "thing"] SpIsCell) (h_plan : Has P w K mg base CX0 3 "plan" ["length", "width", "first", "second"] SpPlan) :
    Has P w K mg base (CXN P w) 5 "brick_on" ["length", "width", "first", "second", "cell"] (SpBrickX K) := by
  refine p.mkX sc_brick_on (fun _ _ _ _ _ _ us hl => match us, hl with | [_, _, _, _, _], _ => rfl) (fun vs H Q E h => ?_) (fun f cdv A outer s H vs Q E hr h => ?_)
  · cases h; rfl
  · obtain @⟨L, W, fi, se, v, _, _, _, hL, hW, hf, hs, fr, q⟩ := h
    refine ⟨_, (pss_cons (ps_expr (pe_fn hx_check_laid (hr.mono (by decide)) (L2N.passes_call (L2N.takes_of rfl rfl rfl rfl) (fun _ _ _ _ h => h)) (pa_cons (pv 0) (pa_cons (pv 1) (pa_cons (pv 2) (pa_cons (pv 3) pa_nil))))))
      (pss_cons (ps_if (pt_not (pt_val (pe_fn h_is_cell (hr.mono (by decide)) pass0 (pa_cons (pv 0) (pa_cons (pv 1) (pa_cons (pv 4) pa_nil)))))) (pss_one (L2N.ps_raise rfl (L2N.takes_of rfl rfl rfl rfl) (pmk_err (e := .cell) GE rfl))) pss_nil)
      (pss_cons (ps_asg (pe_fn h_plan (hr.mono (by decide)) pass0 (pa_cons (pv 0) (pa_cons (pv 1) (pa_cons (pv 2) (pa_cons (pv 3) pa_nil))))) (pg_tup (by rfl) (pgs_cons (pg_name (i := 5) sc_brick_on.nd rfl (Or.inl rfl)) (pgs_cons (pg_name (i := 6) sc_brick_on.nd rfl (Or.inl rfl)) pgs_nil))))
      (pss_cons (ps_if (PW.pt (pw_and (pt_cmpR op_lt (pe_ix (r := rIxT K) ix_tup (pv 4) pe_int (fun _ _ => rfl)) (pv 5) (nomark _)) (pw_and1 (pt_cmpR op_lt (pe_ix (r := rIxT K) ix_tup (pv 4) pe_int (fun _ _ => rfl)) (pv 6) (nomark _))))) (pss_one (ps_ret (pe_tup (pa_cons (pe_tup (pa_cons (pe_op op_mulX (pe_op op_fdivW (pe_ix (r := rIxT K) ix_tup (pv 4) pe_int (fun _ _ => rfl)) (pv 2)) (pv 2)) (pa_cons (pe_op op_mulX (pe_op op_fdivW (pe_ix (r := rIxT K) ix_tup (pv 4) pe_int (fun _ _ => rfl)) (pv 3)) (pv 3)) pa_nil))) (pa_cons pe_bl pa_nil))))) pss_nil)
      (pss_cons (ps_par (i := 7) (j := 8) (by rfl) sc_brick_on.nd rfl rfl (by decide) rfl rfl (pa_cons (pe_ifExp (pt_cmpR op_eq (pv 6) (pv 1) (nomark _)) (pv 5) pe_int) (pa_cons (pe_ifExp (pt_cmpR op_eq (pv 5) (pv 0) (nomark _)) (pv 6) pe_int) pa_nil)) (by rfl))
      (pss_cons (ps_set (i := 9) sc_brick_on.nd rfl (Or.inl rfl) (pe_tup (pa_cons (pe_op op_add (pv 7) (pe_op op_mulX (pe_op op_fdivW (pe_op op_sub (pe_ix (r := rIxT K) ix_tup (pv 4) pe_int (fun _ _ => rfl)) (pv 7)) (pv 3)) (pv 3))) (pa_cons (pe_op op_add (pv 8) (pe_op op_mulX (pe_op op_fdivW (pe_op op_sub (pe_ix (r := rIxT K) ix_tup (pv 4) pe_int (fun _ _ => rfl)) (pv 8)) (pv 2)) (pv 2))) pa_nil))))
      (pss_one (ps_ret (pe_tup (pa_cons (pv 9) (pa_cons (pe_cmpR op_eq (pv 2) (pv 3) (nomark _)) pa_nil))))))))))), ?_⟩
    walk_at "rd"
    exact .mk hL hW hf hs fr q
theorem HX_lying (p : Pl K mg "lying" s_lying) (hx_check_laid : Has P w K mg base (CXN P w) 4 "check_laid" ["length", "width", "first", "second"] (SpLaidX K)) (h_plan : Has P w K mg base CX0 3 "plan" ["length", "width", "first", "second"] SpPlan) :
    Has P w K mg base (CXN P w) 5 "lying" ["length", "width", "first", "second"] (SpLaidX K) := by
  refine p.mkX sc_lying (fun _ _ _ _ _ _ us hl => match us, hl with | [_, _, _, _], _ => rfl) (fun vs H Q E h => ?_) (fun f cdv A outer s H vs Q E hr h => ?_)
  · cases h; rfl
  · obtain @⟨L, W, fi, se, _, _, _, hL, hW, hf, hs, fr, q⟩ := h
    refine ⟨_, (pss_cons (ps_expr (pe_fn hx_check_laid (hr.mono (by decide)) (L2N.passes_call (L2N.takes_of rfl rfl rfl rfl) (fun _ _ _ _ h => h)) (pa_cons (pv 0) (pa_cons (pv 1) (pa_cons (pv 2) (pa_cons (pv 3) pa_nil))))))
      (pss_cons (ps_asg (pe_fn h_plan (hr.mono (by decide)) pass0 (pa_cons (pv 0) (pa_cons (pv 1) (pa_cons (pv 2) (pa_cons (pv 3) pa_nil))))) (pg_tup (by rfl) (pgs_cons (pg_name (i := 4) sc_lying.nd rfl (Or.inl rfl)) (pgs_cons (pg_name (i := 5) sc_lying.nd rfl (Or.inl rfl)) pgs_nil))))
      (pss_cons (ps_if (pt_cmpR op_eq (pv 2) (pv 3) (nomark _)) (pss_one (ps_ret (pe_op op_fdivW (pe_op op_mulX (pv 0) (pv 1)) (pe_op op_mulX (pv 2) (pv 3))))) pss_nil)
      (pss_one (ps_ret (pe_op op_fdivW (pe_op op_mulX (pv 4) (pv 5)) (pe_op op_mulX (pv 2) (pv 3)))))))), ?_⟩
    walk_at "rd"
    exact .mk hL hW hf hs fr q
theorem HX_standing (p : Pl K mg "standing" s_standing) (hx_lying : Has P w K mg base (CXN P w) 5 "lying" ["length", "width", "first", "second"] (SpLaidX K)) : Has P w K mg base (CXN P w) 6 "standing" ["length", "width", "first", "second"] (SpLaidX K) := by
  refine p.mkX sc_standing (fun _ _ _ _ _ _ us hl => match us, hl with | [_, _, _, _], _ => rfl) (fun vs H Q E h => ?_) (fun f cdv A outer s H vs Q E hr h => ?_)
  · cases h; rfl
  · obtain @⟨L, W, fi, se, _, _, _, hL, hW, hf, hs, fr, q⟩ := h
    refine ⟨_, (pss_cons (ps_set (i := 4) sc_standing.nd rfl (Or.inl rfl) (pe_fn hx_lying (hr.mono (by decide)) (L2N.passes_call (L2N.takes_of rfl rfl rfl rfl) (fun _ _ _ _ h => h)) (pa_cons (pv 0) (pa_cons (pv 1) (pa_cons (pv 2) (pa_cons (pv 3) pa_nil))))))
      (pss_one (ps_ret (pe_op op_sub (pe_op op_fdivW (pe_op op_mulX (pv 0) (pv 1)) (pe_op op_mulX (pv 2) (pv 3))) (pv 4))))), ?_⟩
    walk_at "rd"
    exact .mk hL hW hf hs fr q
end
end BF

/-! ### k02: floors that can't be laid are refused at each door -/
namespace BF
open PySem PySem.Spec PyProof.Rows L2
theorem gN2 {i : Nat} {v : V} {σ σ' : L2.St} {H : Hp} {Q : L2.St → Hp → Prop} (e : σ.set i (some v) = σ') (h : Q σ' H) : gName i v σ H Q := by
  subst e
  exact h
inductive SpRefused (K : PySem.W.Frag) : Sp where
  | mk {t : Addr} {L W f s : Int} {H : Hp} {Q : VK} {E : XK} (ht : SqT K H t [.int L, .int W, .int f, .int s]) (hL : Sz L) (hW : Sz W) (hf : Sz f) (hs : Sz s) (fr : ¬ Free L W f s) (q : ∀ H', Same H H' → Q (.bl true) H') : SpRefused K [.ref t] H Q E
inductive ReI (t : Addr) (H : Hp) : L2.St → Hp → Prop where
  | mk {H' : Hp} {y1 y2 y3 : Option V} (sm : Same H H') : ReI t H [some (.ref t), y1, y2, y3] H'
section
variable {P : Program} {w : World} {K : PySem.W.Frag} {mg : Str → Option Value} {base : Heap}
theorem H__law_refused (p : Pl K mg "_law_refused" s__law_refused) (B : Bi mg) (GE : ErG K mg) (hx_brick_on : Has P w K mg base (CXN P w) 5 "brick_on" ["length", "width", "first", "second", "cell"] (SpBrickX K))
    (hx_lying : Has P w K mg base (CXN P w) 5 "lying" ["length", "width", "first", "second"] (SpLaidX K)) (hx_standing : Has P w K mg base (CXN P w) 6 "standing" ["length", "width", "first", "second"] (SpLaidX K)) :
    Has P w K mg base CX0 7 "_law_refused" ["_law_four_here"] (SpRefused K) := by
  refine p.mk0 sc__law_refused (fun _ _ _ _ _ _ us hl => match us, hl with | [_], _ => rfl) (fun vs H Q E h => ?_) (fun f cdv A outer s H vs Q E hr h => ?_)
  · cases h; rfl
  · obtain @⟨t, L, W, fi, se, _, _, _, ht, hL, hW, hf, hs, fr, q⟩ := h
    refine ⟨_, (pss_cons (ps_for PassesOwn.never (by rfl) (pi_range1 (by rfl) B.range (pa_cons pe_int pa_nil)) (pg_name (i := 1) sc__law_refused.nd rfl (Or.inl rfl)) (pss_one (ps_tryN (i := 2) rfl rfl sc__law_refused.nd rfl rfl ⟨rfl, by decide, .inl (GE.g .floor)⟩ takes0N (fun W pn xe tk _ => (Evl.pss_cut (ps_if (pt_cmpR op_eq (pv 1) pe_int (nomark _)) (pss_one (ps_expr (pe_fnS hx_brick_on (hr.mono (by decide)) (fun σ => L2N.passAt tk σ) (pa_cons (pe_ix (r := rIxT K) ix_tup (pv 0) pe_int (fun _ _ => rfl)) (pa_cons (pe_ix (r := rIxT K) ix_tup (pv 0) pe_int (fun _ _ => rfl)) (pa_cons (pe_ix (r := rIxT K) ix_tup (pv 0) pe_int (fun _ _ => rfl)) (pa_cons (pe_ix (r := rIxT K) ix_tup (pv 0) pe_int (fun _ _ => rfl)) (pa_cons pe_non pa_nil)))))))) (pss_one (ps_if (pt_cmpR op_eq (pv 1) pe_int (nomark _)) (pss_one (ps_expr (pe_fnS hx_lying (hr.mono (by decide)) (fun σ => L2N.passAt tk σ) (pa_cons (pe_ix (r := rIxT K) ix_tup (pv 0) pe_int (fun _ _ => rfl)) (pa_cons (pe_ix (r := rIxT K) ix_tup (pv 0) pe_int (fun _ _ => rfl)) (pa_cons (pe_ix (r := rIxT K) ix_tup (pv 0) pe_int (fun _ _ => rfl)) (pa_cons (pe_ix (r := rIxT K) ix_tup (pv 0) pe_int (fun _ _ => rfl)) pa_nil))))))) (pss_one (ps_expr (pe_fnS hx_standing (hr.mono (by decide)) (fun σ => L2N.passAt tk σ) (pa_cons (pe_ix (r := rIxT K) ix_tup (pv 0) pe_int (fun _ _ => rfl)) (pa_cons (pe_ix (r := rIxT K) ix_tup (pv 0) pe_int (fun _ _ => rfl)) (pa_cons (pe_ix (r := rIxT K) ix_tup (pv 0) pe_int (fun _ _ => rfl)) (pa_cons (pe_ix (r := rIxT K) ix_tup (pv 0) pe_int (fun _ _ => rfl)) pa_nil))))))))))
      (pss_one (ps_ret pe_bl)))) (fun a oe cls d pn hz hf => pss_any (Ok := IsEr K cls d) (fun e hi => (pss_cons (ps_set (i := 3) sc__law_refused.nd rfl (Or.inl rfl) (pe_lst (pa_cons (pe_callB (r := rIsX K e a) (call_isX GE hi hz hf) (by rfl) B.isinstance (by decide +kernel) (pa_cons (pv 2) (pa_cons (pe_glob (v := .ref (er _ .size)) (by rfl) (GE.g .size) rfl) pa_nil))) (pa_cons (pe_callB (r := rIsX K e a) (call_isX GE hi hz hf) (by rfl) B.isinstance (by decide +kernel) (pa_cons (pv 2) (pa_cons (pe_glob (v := .ref (er _ .cell)) (by rfl) (GE.g .cell) rfl) pa_nil))) (pa_cons (pe_callB (r := rIsX K e a) (call_isX GE hi hz hf) (by rfl) B.isinstance (by decide +kernel) (pa_cons (pv 2) (pa_cons (pe_glob (v := .ref (er _ .colour)) (by rfl) (GE.g .colour) rfl) pa_nil))) pa_nil)))))
      (pss_one (ps_if (PW.pt (pw_or (pt_not (pt_val (pe_callB (r := rIsX K e a) (call_isX GE hi hz hf) (by rfl) B.isinstance (by decide +kernel) (pa_cons (pv 2) (pa_cons (pe_glob (v := .ref (er _ .barred)) (by rfl) (GE.g .barred) rfl) pa_nil))))) (pw_or (pt_val (pe_callB (r := rAny K) (cr_anyH hz hf) (by rfl) B.any (by decide +kernel) (pa_cons (pv 3) pa_nil))) (pw_or1 (pt_val (pe_callB (r := rIsX2 K e a) (call_isX2 GE hi hz hf) (by rfl) B.isinstance (by decide +kernel) (pa_cons (pv 2) (pa_cons (pe_tup (pa_cons (pe_glob (v := .ref (er _ .bricks)) (by rfl) (GE.g .bricks) rfl) (pa_cons (pe_glob (v := .ref (er _ .great)) (by rfl) (GE.g .great) rfl) pa_nil))) pa_nil)))))))) (pss_one (ps_ret pe_bl)) pss_nil))))))))
      (pss_one (ps_ret pe_bl))), ?_⟩
    refine ⟨_, rfl, by omega, by omega, for_range (lo := 0) (n := 3) (fun i σ H' => ReI t H σ H') (.mk (Same.refl _)) ?_ ?_⟩
    · rintro i _ H1 hi @⟨_, y1, y2, y3, sm1⟩
      have ht1 := Same.tup sm1 ht
      refine gN2 (σ' := [some (.ref t), some (.int (0 + (i : Int))), y2, y3]) rfl ?_
      unfold tTryN
      dsimp only
      generalize hW : wAs _ _ _ _ _ _ = W
      have key : ∀ H2, Same H1 H2 → W (.ref (er K .barred)) none [some (.ref t), some (.int (0 + (i : Int))), y2, y3] H2 := fun H2 sm2 => by
        rw [← hW]
        refine ⟨true, (GE.f .barred).ex, fun _ a ha => ⟨.barred, ⟨rfl, rfl⟩, ?_⟩, fun z => nomatch z⟩
        walk_at "rd"
        intro l3 hl3
        generalize hH3 : upd H2 l3 _ = H3
        obtain ⟨sm3, up3⟩ : Same H2 H3 ∧ H3 l3 = some (.lst ([false, false, false].map V.bl)) := newH hH3 hl3
        clear hH3
        refine gN2 (σ' := [some (.ref t), some (.int (0 + (i : Int))), some (.ref a), some (.ref l3)]) rfl ?_
        walk_at "rd"
        refine ⟨l3, [false, false, false], rfl, sqL up3, ?_⟩
        refine ⟨_, rfl, iteF ?_⟩
        walk_at "rd"
        intro t4 ht4
        generalize hH4 : upd H3 t4 _ = H4
        obtain ⟨sm4, up4⟩ : Same H3 H4 ∧ H4 t4 = some (.tup [.ref (er K .bricks), .ref (er K .great)]) := newH hH4 ht4
        clear hH4
        walk_at "rd"
        refine ⟨.bricks, .great, t4, rfl, up4, ?_⟩
        refine ⟨_, rfl, iteF ?_⟩
        exact .mk (sm1.trans (sm2.trans (sm3.trans sm4)))
      clear hW
      refine ⟨fun _ _ => False, ?_, fun _ _ z => z.elim⟩
      have c3 : i = 0 ∨ i = 1 ∨ i = 2 := by omega
      rcases c3 with rfl | rfl | rfl
      · walk_at "rd"
        refine ⟨t, _, 0, _, rfl, rfl, ht1, rfl, ?_⟩
        walk_at "rd"
        refine ⟨t, _, 1, _, rfl, rfl, ht1, rfl, ?_⟩
        walk_at "rd"
        refine ⟨t, _, 2, _, rfl, rfl, ht1, rfl, ?_⟩
        walk_at "rd"
        refine ⟨t, _, 3, _, rfl, rfl, ht1, rfl, ?_⟩
        walk_at "rd"
        exact .mk hL hW hf hs fr key
      · walk_at "rd"
        refine ⟨t, _, 0, _, rfl, rfl, ht1, rfl, ?_⟩
        walk_at "rd"
        refine ⟨t, _, 1, _, rfl, rfl, ht1, rfl, ?_⟩
        walk_at "rd"
        refine ⟨t, _, 2, _, rfl, rfl, ht1, rfl, ?_⟩
        walk_at "rd"
        refine ⟨t, _, 3, _, rfl, rfl, ht1, rfl, ?_⟩
        walk_at "rd"
        exact .mk hL hW hf hs fr key
      · walk_at "rd"
        refine ⟨t, _, 0, _, rfl, rfl, ht1, rfl, ?_⟩
        walk_at "rd"
        refine ⟨t, _, 1, _, rfl, rfl, ht1, rfl, ?_⟩
        walk_at "rd"
        refine ⟨t, _, 2, _, rfl, rfl, ht1, rfl, ?_⟩
        walk_at "rd"
        refine ⟨t, _, 3, _, rfl, rfl, ht1, rfl, ?_⟩
        walk_at "rd"
        exact .mk hL hW hf hs fr key
    · rintro _ H1 @⟨_, _, _, _, sm1⟩
      exact q _ sm1
end
end BF

/-! ### where bricks lie and where they stand, in plain words -/
namespace BF
structure Zones (L W f s al up bg lw : Int) : Prop where
  a0 : 0 ≤ al
  a1 : al ≤ L
  u0 : 0 ≤ up
  u1 : up ≤ W
  b0 : 0 ≤ bg
  b1 : bg ≤ L
  l0 : 0 ≤ lw
  l1 : lw ≤ W
  fa : al % f = 0
  su : up % s = 0
  sb : (L - bg) % s = 0
  fl : (W - lw) % f = 0
  out : ∀ x y : Int, 0 ≤ x → x < L → 0 ≤ y → y < W → (¬ (x < al ∧ y < up) ↔ bg ≤ x ∧ lw ≤ y)
  area : al * up + (L - bg) * (W - lw) = L * W
  same : f = s → al = L ∧ up = W
theorem free_str {L W f s : Int} (fr : Free L W f s) : (L % f = 0 ∨ W % f = 0) ∧ (L % s = 0 ∨ W % s = 0) := by
  have h := fr.1
  unfold strL two at h
  have one : ∀ d, strB L W d = false → L % d = 0 ∨ W % d = 0 := fun d hd => by
    unfold strB at hd
    by_cases a : L % d = 0
    · exact .inl a
    · rw [decide_eq_false a] at hd
      exact .inr (by simpa using hd)
  constructor
  · refine one f ?_
    cases e : strB L W f with
    | false => rfl
    | true => rw [e] at h; simp at h
  · refine one s ?_
    cases e : strB L W s with
    | false => rfl
    | true => rw [e] at h; simp at h
noncomputable def bgP (L W f s : Int) : Int := if (planP L W f s).2 = W then (planP L W f s).1 else 0
noncomputable def lwP (L W f s : Int) : Int := if (planP L W f s).1 = L then (planP L W f s).2 else 0
theorem zones {L W f s : Int} (hL : 0 < L) (hW : 0 < W) (hf : 0 < f) (hs : 0 < s) (fr : Free L W f s) : Zones L W f s (planP L W f s).1 (planP L W f s).2 (bgP L W f s) (lwP L W f s) := by
  obtain ⟨⟨m1, n1, e1, r1⟩, ⟨m2, n2, e2, r2⟩⟩ := free_parts fr hf hs
  obtain ⟨g1, g2⟩ := free_str fr
  have pin := plan_in hL hW hf hs fr
  unfold bgP lwP
  generalize hp : planP L W f s = pl at pin ⊢
  obtain ⟨al, up⟩ := pl
  unfold planP at hp
  rw [e1, e2] at hp
  simp only [Option.getD_some] at hp
  dsimp only at pin ⊢
  by_cases c1 : L % f = 0 ∧ W % s = 0
  · rw [if_pos c1] at hp
    obtain ⟨rfl, rfl⟩ := Prod.mk.inj hp
    rw [if_pos rfl, if_pos rfl]
    exact ⟨by omega, by omega, by omega, by omega, by omega, by omega, by omega, by omega, c1.1, c1.2, by rw [Int.sub_self, Int.zero_emod], by rw [Int.sub_self, Int.zero_emod], fun x y _ _ _ _ => by omega, by rw [Int.sub_self, Int.zero_mul, Int.add_zero], fun _ => ⟨rfl, rfl⟩⟩
  rw [if_neg c1] at hp
  by_cases c2 : L % s = 0 ∧ W % f = 0
  · rw [if_pos c2] at hp
    obtain ⟨rfl, rfl⟩ := Prod.mk.inj hp
    rw [if_neg (by omega), if_neg (by omega)]
    refine ⟨by omega, by omega, by omega, by omega, by omega, by omega, by omega, by omega, Int.zero_emod _, Int.zero_emod _, by rw [Int.sub_zero]; exact c2.1, by rw [Int.sub_zero]; exact c2.2, fun x y _ _ _ _ => by omega, by rw [Int.sub_zero, Int.sub_zero, Int.zero_mul, Int.zero_add], fun z => ?_⟩
    subst z
    exact absurd c2 c1
  rw [if_neg c2] at hp
  by_cases c3 : L % f = 0
  · rw [if_pos c3] at hp
    obtain ⟨rfl, rfl⟩ := Prod.mk.inj hp
    have ws : W % s ≠ 0 := fun z => c1 ⟨c3, z⟩
    have ls : L % s = 0 := g2.resolve_right ws
    have nw : ¬ n2 * s = W := fun z => ws (by rw [← z]; exact Int.mul_emod_left _ _)
    have w0 : W - n2 * s = m2 * f := by have := r2.2.2; omega
    rw [if_neg nw, if_pos rfl]
    refine ⟨by omega, by omega, pin.2.1, pin.2.2, by omega, by omega, pin.2.1, pin.2.2, c3, Int.mul_emod_left _ _, by rw [Int.sub_zero]; exact ls, by rw [w0]; exact Int.mul_emod_left _ _, fun x y _ _ _ _ => by omega, ?_, fun z => ?_⟩
    · rw [Int.sub_zero, ← Int.mul_add]
      congr 1
      omega
    · subst z
      exact absurd (show W % f = 0 by rw [← r2.2.2, ← Int.add_mul]; exact Int.mul_emod_left _ _) ws
  · rw [if_neg c3] at hp
    obtain ⟨rfl, rfl⟩ := Prod.mk.inj hp
    have wf : W % f = 0 := g1.resolve_left c3
    have ls : L % s ≠ 0 := fun z => c2 ⟨z, wf⟩
    have ws : W % s = 0 := g2.resolve_left ls
    have nl : ¬ m1 * f = L := fun z => c3 (by rw [← z]; exact Int.mul_emod_left _ _)
    have l0 : L - m1 * f = n1 * s := by have := r1.2.2; omega
    rw [if_pos rfl, if_neg nl]
    refine ⟨pin.1.1, pin.1.2, by omega, by omega, pin.1.1, pin.1.2, by omega, by omega, Int.mul_emod_left _ _, ws, by rw [l0]; exact Int.mul_emod_left _ _, by rw [Int.sub_zero]; exact wf, fun x y _ _ _ _ => by omega, ?_, fun z => ?_⟩
    · rw [Int.sub_zero, ← Int.add_mul]
      congr 1
      omega
    · subst z
      exact absurd (show L % f = 0 by rw [← r1.2.2, ← Int.add_mul]; exact Int.mul_emod_left _ _) c3
theorem brick_is {L W f s : Int} (c : Int × Int) : brickP L W f s c = if c.1 < (planP L W f s).1 ∧ c.2 < (planP L W f s).2 then ⟨c.1 / f * f, c.2 / s * s, true⟩ else
    ⟨bgP L W f s + (c.1 - bgP L W f s) / s * s, lwP L W f s + (c.2 - lwP L W f s) / f * f, decide (f = s)⟩ := rfl
/-- one side of a grid: steps of d from o on, up to e -/
theorem step_in {o e d x : Int} (hd : 0 < d) (he : (e - o) % d = 0) (h0 : o ≤ x) (h1 : x < e) : o ≤ o + (x - o) / d * d ∧ o + (x - o) / d * d ≤ x ∧ x < o + (x - o) / d * d + d ∧ o + (x - o) / d * d + d ≤ e := by
  have a := Int.emod_add_mul_ediv (x - o) d
  have b := Int.emod_nonneg (x - o) (Int.ne_of_gt hd)
  have c := Int.emod_lt_of_pos (x - o) hd
  have g := Int.emod_add_mul_ediv (e - o) d
  rw [he] at g
  have q0 : 0 ≤ (x - o) / d := Int.ediv_nonneg (by omega) (by omega)
  have q1 : (x - o) / d < (e - o) / d := by
    refine Int.lt_of_mul_lt_mul_left (a := d) ?_ (Int.le_of_lt hd)
    omega
  have q2 : d * ((x - o) / d + 1) ≤ d * ((e - o) / d) := Int.mul_le_mul_of_nonneg_left q1 (Int.le_of_lt hd)
  have q3 : 0 ≤ d * ((x - o) / d) := Int.mul_nonneg (Int.le_of_lt hd) q0
  rw [Int.mul_add, Int.mul_one] at q2
  rw [Int.mul_comm ((x - o) / d) d]
  omega
theorem step_same {o d x y : Int} (hd : 0 < d) (h0 : o + (x - o) / d * d ≤ y) (h1 : y < o + (x - o) / d * d + d) : (y - o) / d * d = (x - o) / d * d := by
  have e : (y - o) / d = (x - o) / d := by
    refine Int.le_antisymm ?_ ?_
    · refine Int.lt_add_one_iff.mp ?_
      refine Int.ediv_lt_of_lt_mul hd ?_
      rw [Int.add_mul, Int.one_mul]
      omega
    · refine Int.le_ediv_of_mul_le hd ?_
      omega
  rw [e]
theorem cell_iff {L W : Int} {c : Int × Int} : cellB L W c = true ↔ (0 ≤ c.1 ∧ c.1 < L) ∧ 0 ≤ c.2 ∧ c.2 < W := by
  unfold cellB
  simp only [Bool.and_eq_true, decide_eq_true_eq]
theorem cov_iff {f s : Int} {c : Int × Int} {b : Brick} : covB f s c b = true ↔ (b.x ≤ c.1 ∧ c.1 < b.x + b.lo f s) ∧ b.y ≤ c.2 ∧ c.2 < b.y + b.hi f s := by
  unfold covB
  simp only [Bool.and_eq_true, decide_eq_true_eq]
/-- the brick on a cell: over it, within the floor -/
structure BrOk (L W f s : Int) (c : Int × Int) (b : Brick) : Prop where
  cov : covB f s c b = true
  x0 : 0 ≤ b.x
  x1 : b.x + b.lo f s ≤ L
  y0 : 0 ≤ b.y
  y1 : b.y + b.hi f s ≤ W
  al : f = s → b.l = true
theorem brick_ok {L W f s : Int} {c : Int × Int} (hL : 0 < L) (hW : 0 < W) (hf : 0 < f) (hs : 0 < s) (fr : Free L W f s) (hc : cellB L W c = true) : BrOk L W f s c (brickP L W f s c) := by
  have z := zones hL hW hf hs fr
  rw [brick_is]
  obtain ⟨x, y⟩ := c
  obtain ⟨⟨c1, c2⟩, c3, c4⟩ := cell_iff.mp hc
  dsimp only at c1 c2 c3 c4 ⊢
  by_cases h : x < (planP L W f s).1 ∧ y < (planP L W f s).2
  · rw [if_pos h]
    have s1 := step_in (o := 0) hf (by rw [Int.sub_zero]; exact z.fa) c1 h.1
    have s2 := step_in (o := 0) hs (by rw [Int.sub_zero]; exact z.su) c3 h.2
    rw [Int.sub_zero, Int.zero_add] at s1 s2
    have a1 := z.a1
    have u1 := z.u1
    refine ⟨cov_iff.mpr ?_, s1.1, ?_, s2.1, ?_, fun _ => rfl⟩
    · show (x / f * f ≤ x ∧ x < x / f * f + f) ∧ y / s * s ≤ y ∧ y < y / s * s + s
      omega
    · show x / f * f + f ≤ L
      omega
    · show y / s * s + s ≤ W
      omega
  · rw [if_neg h]
    obtain ⟨h1, h2⟩ := (z.out x y c1 c2 c3 c4).mp h
    have s1 := step_in hs z.sb h1 c2
    have s2 := step_in hf z.fl h2 c4
    have b0 := z.b0
    have l0 := z.l0
    have nfs : ¬ f = s := fun e => h (by
      have := z.same e
      omega)
    rw [decide_eq_false nfs]
    refine ⟨cov_iff.mpr ?_, ?_, ?_, ?_, ?_, fun e => absurd e nfs⟩
    · show (bgP L W f s + (x - bgP L W f s) / s * s ≤ x ∧ x < bgP L W f s + (x - bgP L W f s) / s * s + s) ∧ lwP L W f s + (y - lwP L W f s) / f * f ≤ y ∧ y < lwP L W f s + (y - lwP L W f s) / f * f + f
      omega
    · show 0 ≤ bgP L W f s + (x - bgP L W f s) / s * s
      omega
    · show bgP L W f s + (x - bgP L W f s) / s * s + s ≤ L
      omega
    · show 0 ≤ lwP L W f s + (y - lwP L W f s) / f * f
      omega
    · show lwP L W f s + (y - lwP L W f s) / f * f + f ≤ W
      omega
/-- the same brick on its other cells -/
theorem brick_same {L W f s : Int} {c c' : Int × Int} (hL : 0 < L) (hW : 0 < W) (hf : 0 < f) (hs : 0 < s) (fr : Free L W f s) (hc : cellB L W c = true) (hv : covB f s c' (brickP L W f s c) = true) : cellB L W c' = true ∧ brickP L W f s c' = brickP L W f s c := by
  have z := zones hL hW hf hs fr
  have ok := brick_ok hL hW hf hs fr hc
  have v := cov_iff.mp hv
  have hc' : cellB L W c' = true := cell_iff.mpr ⟨⟨Int.le_trans ok.x0 v.1.1, Int.lt_of_lt_of_le v.1.2 ok.x1⟩, Int.le_trans ok.y0 v.2.1, Int.lt_of_lt_of_le v.2.2 ok.y1⟩
  refine ⟨hc', ?_⟩
  rw [brick_is] at v
  rw [brick_is, brick_is]
  obtain ⟨x, y⟩ := c
  obtain ⟨x', y'⟩ := c'
  obtain ⟨⟨c1, c2⟩, c3, c4⟩ := cell_iff.mp hc
  obtain ⟨⟨d1, d2⟩, d3, d4⟩ := cell_iff.mp hc'
  dsimp only at c1 c2 c3 c4 d1 d2 d3 d4 v ⊢
  by_cases h : x < (planP L W f s).1 ∧ y < (planP L W f s).2
  · rw [if_pos h] at v ⊢
    have s1 := step_in (o := 0) hf (by rw [Int.sub_zero]; exact z.fa) c1 h.1
    have s2 := step_in (o := 0) hs (by rw [Int.sub_zero]; exact z.su) c3 h.2
    have t1 := step_same (o := 0) (x := x) (y := x') hf
    have t2 := step_same (o := 0) (x := y) (y := y') hs
    rw [Int.sub_zero, Int.zero_add] at s1 s2 t1 t2
    rw [Int.sub_zero] at t1 t2
    have v : (x / f * f ≤ x' ∧ x' < x / f * f + f) ∧ y / s * s ≤ y' ∧ y' < y / s * s + s := v
    rw [if_pos (by omega), t1 v.1.1 v.1.2, t2 v.2.1 v.2.2]
  · rw [if_neg h] at v ⊢
    obtain ⟨h1, h2⟩ := (z.out x y c1 c2 c3 c4).mp h
    have s1 := step_in hs z.sb h1 c2
    have s2 := step_in hf z.fl h2 c4
    have nfs : ¬ f = s := fun e => h (by
      have := z.same e
      omega)
    rw [decide_eq_false nfs] at v ⊢
    have v : (bgP L W f s + (x - bgP L W f s) / s * s ≤ x' ∧ x' < bgP L W f s + (x - bgP L W f s) / s * s + s) ∧ lwP L W f s + (y - lwP L W f s) / f * f ≤ y' ∧ y' < lwP L W f s + (y - lwP L W f s) / f * f + f := v
    have t1 := step_same hs v.1.1 v.1.2
    have t2 := step_same hf v.2.1 v.2.2
    rw [if_neg ((z.out x' y' d1 d2 d3 d4).mpr (by omega)), t1, t2]
theorem brick_iff {L W f s : Int} {c c' : Int × Int} (hL : 0 < L) (hW : 0 < W) (hf : 0 < f) (hs : 0 < s) (fr : Free L W f s) (hc : cellB L W c = true) (hc' : cellB L W c' = true) : brickP L W f s c' = brickP L W f s c ↔ covB f s c' (brickP L W f s c) = true :=
  ⟨fun e => by
    rw [← e]
    exact (brick_ok hL hW hf hs fr hc').cov, fun v => (brick_same hL hW hf hs fr hc v).2⟩
end BF

/-! ### k02: the brick on a cell is as told -/
namespace BF
open PySem PySem.Spec PyProof.Rows L2
inductive SpLBrick (K : PySem.W.Frag) : Sp where
  | mk {t c : Addr} {L W f s : Int} {ce : Int × Int} {H : Hp} {Q : VK} {E : XK} (ht : SqT K H t [.int L, .int W, .int f, .int s]) (hL : Sz L) (hW : Sz W) (hf : Sz f) (hs : Sz s) (fr : Free L W f s) (hc : H c = some (.tup (cellV ce))) (hi : cellB L W ce = true)
      (q : ∀ p p1 H', Same H H' → H' p = some (.tup [.ref p1, .bl (brickP L W f s ce).l]) → H' p1 = some (.tup (cellV ((brickP L W f s ce).x, (brickP L W f s ce).y))) → Q (.ref p) H') : SpLBrick K [.ref t, .ref c] H Q E
section
variable {P : Program} {w : World} {K : PySem.W.Frag} {mg : Str → Option Value} {base : Heap}
theorem H__law_brick (p : Pl K mg "_law_brick" s__law_brick) (B : Bi mg) (h_brick_on : Has P w K mg base CX0 5 "brick_on" ["length", "width", "first", "second", "cell"] SpBrickOn) (h__law_whole : Has P w K mg base CX0 1 "_law_whole" ["_law_found"] (SpIsNumber K)) :
    Has P w K mg base CX0 6 "_law_brick" ["_law_four_here", "_law_cell"] (SpLBrick K) := by
  refine p.mk0 sc__law_brick (fun _ _ _ _ _ _ us hl => match us, hl with | [_, _], _ => rfl) (fun vs H Q E h => ?_) (fun f cdv A outer s H vs Q E hr h => ?_)
  · cases h; rfl
  · obtain @⟨t, c, L, W, fi, se, ce, _, _, _, ht, hL, hW, hf, hs, fr, hc, hi, q⟩ := h
    refine ⟨_, (pss_cons (ps_asg (pv 0) (pg_tup (by rfl) (pgs_cons (pg_name (i := 2) sc__law_brick.nd rfl (Or.inl rfl)) (pgs_cons (pg_name (i := 3) sc__law_brick.nd rfl (Or.inl rfl)) (pgs_cons (pg_name (i := 4) sc__law_brick.nd rfl (Or.inl rfl)) (pgs_cons (pg_name (i := 5) sc__law_brick.nd rfl (Or.inl rfl)) pgs_nil))))))
      (pss_cons (ps_set (i := 6) sc__law_brick.nd rfl (Or.inl rfl) (pe_fn h_brick_on (hr.mono (by decide)) pass0 (pa_cons (pv 2) (pa_cons (pv 3) (pa_cons (pv 4) (pa_cons (pv 5) (pa_cons (pv 1) pa_nil)))))))
      (pss_cons (ps_if (PW.pt (pw_or (pt_not (pt_val (pe_callB (r := rIsi K) call_isi (by rfl) B.isinstance (by decide +kernel) (pa_cons (pv 6) (pa_cons (pe_bltn (v := .ty "tuple") (by rfl) B.tuple (by decide +kernel) rfl) pa_nil))))) (pw_or (pt_cmpR op_ne (pe_callB (r := rLen2 K) call_len_seq (by rfl) B.len PySem.boot_len (pa_cons (pv 6) pa_nil)) pe_int (nomark _)) (pw_or (pt_not (pt_val (pe_callB (r := rIsi K) call_isi (by rfl) B.isinstance (by decide +kernel) (pa_cons (pe_ix (r := rIxT K) ix_tup (pv 6) pe_int (fun _ _ => rfl)) (pa_cons (pe_bltn (v := .ty "tuple") (by rfl) B.tuple (by decide +kernel) rfl) pa_nil))))) (pw_or1 (pt_cmpR op_ne (pe_callB (r := rLen2 K) call_len_seq (by rfl) B.len PySem.boot_len (pa_cons (pe_ix (r := rIxT K) ix_tup (pv 6) pe_int (fun _ _ => rfl)) pa_nil)) pe_int (nomark _))))))) (pss_one (ps_ret pe_non)) pss_nil)
      (pss_cons (ps_asg (pv 6) (pg_tup (by rfl) (pgs_cons (pg_name (i := 7) sc__law_brick.nd rfl (Or.inl rfl)) (pgs_cons (pg_name (i := 8) sc__law_brick.nd rfl (Or.inl rfl)) pgs_nil))))
      (pss_cons (ps_if (PW.pt (pw_or (pt_not (pt_val (pe_callB (r := rIsi K) call_isi (by rfl) B.isinstance (by decide +kernel) (pa_cons (pv 8) (pa_cons (pe_bltn (v := .ty "bool") (by rfl) B.bool (by decide +kernel) rfl) pa_nil))))) (pw_or (pt_not (pt_val (pe_fn h__law_whole (hr.mono (by decide)) pass0 (pa_cons (pe_ix (r := rIxT K) ix_tup (pv 7) pe_int (fun _ _ => rfl)) pa_nil)))) (pw_or1 (pt_not (pt_val (pe_fn h__law_whole (hr.mono (by decide)) pass0 (pa_cons (pe_ix (r := rIxT K) ix_tup (pv 7) pe_int (fun _ _ => rfl)) pa_nil)))))))) (pss_one (ps_ret pe_non)) pss_nil)
      (pss_cons (ps_asg (pe_ifExp (pt_val (pv 8)) (pe_tup (pa_cons (pv 4) (pa_cons (pv 5) pa_nil))) (pe_tup (pa_cons (pv 5) (pa_cons (pv 4) pa_nil)))) (pg_tup (by rfl) (pgs_cons (pg_name (i := 9) sc__law_brick.nd rfl (Or.inl rfl)) (pgs_cons (pg_name (i := 10) sc__law_brick.nd rfl (Or.inl rfl)) pgs_nil))))
      (pss_cons (ps_if (PW.pt (pw_or (pt_not (pt_chain op_le op_lt (pe_ix (r := rIxT K) ix_tup (pv 7) pe_int (fun _ _ => rfl)) (pe_ix (r := rIxT K) ix_tup (pv 1) pe_int (fun _ _ => rfl)) (pe_op op_add (pe_ix (r := rIxT K) ix_tup (pv 7) pe_int (fun _ _ => rfl)) (pv 9)))) (pw_or1 (pt_not (pt_chain op_le op_lt (pe_ix (r := rIxT K) ix_tup (pv 7) pe_int (fun _ _ => rfl)) (pe_ix (r := rIxT K) ix_tup (pv 1) pe_int (fun _ _ => rfl)) (pe_op op_add (pe_ix (r := rIxT K) ix_tup (pv 7) pe_int (fun _ _ => rfl)) (pv 10))))))) (pss_one (ps_ret pe_non)) pss_nil)
      (pss_cons (ps_if (PW.pt (pw_or (pt_cmpR op_lt (pe_callB (cr_minT hr.units rfl) (by rfl) B.min (by decide +kernel) (pa_cons (pv 7) pa_nil)) pe_int (nomark _)) (pw_or (pt_cmpR op_gt (pe_op op_add (pe_ix (r := rIxT K) ix_tup (pv 7) pe_int (fun _ _ => rfl)) (pv 9)) (pv 2) (nomark _)) (pw_or (pt_cmpR op_gt (pe_op op_add (pe_ix (r := rIxT K) ix_tup (pv 7) pe_int (fun _ _ => rfl)) (pv 10)) (pv 3) (nomark _)) (pw_or1 (PW.pt (pw_and (pt_cmpR op_eq (pv 4) (pv 5) (nomark _)) (pw_and1 (pt_not (pt_val (pv 8))))))))))) (pss_one (ps_ret pe_non)) pss_nil)
      (pss_one (ps_ret (pv 6))))))))))), ?_⟩
    refine ⟨_, rfl, t, _, rfl, ht, rfl, ?_⟩
    walk_at "rd"
    refine .mk hL hW hf hs fr hc hi fun p1 p2 H1 sm1 hp1 hp2 => ?_
    have ok := brick_ok hL.pos hW.pos hf.pos hs.pos fr hi
    have q := q p1 p2
    generalize hb : brickP L W fi se ce = b at hp1 hp2 ok q
    obtain ⟨x, y, l⟩ := b
    dsimp only at hp1 hp2 q
    have ty : ∀ a xs, H1 a = some (.tup xs) → TyX K H1 (.ref a) (.type "tuple") := fun a xs h => .base (.tup h)
    refine ⟨_, rfl, _, _, _, _, true, rfl, .ty "tuple", .base (.tup hp1), kit_ty (by decide +kernel), true, rfl, iteF ?_⟩
    refine ⟨_, rfl, p1, _, rfl, .inr (sqT hp1), rfl, _, rfl, iteNe (fun z => absurd rfl z) (fun _ => ?_)⟩
    refine ⟨_, rfl, p1, _, 0, _, rfl, rfl, sqT hp1, rfl, ?_⟩
    refine ⟨_, _, _, _, true, rfl, .ty "tuple", .base (.tup hp2), kit_ty (by decide +kernel), true, rfl, iteF ?_⟩
    refine ⟨_, rfl, p1, _, 0, _, rfl, rfl, sqT hp1, rfl, ?_⟩
    refine ⟨p2, _, rfl, .inr (sqT hp2), rfl, _, rfl, iteNe (fun z => absurd rfl z) (fun _ => ?_)⟩
    refine ⟨_, rfl, p1, _, rfl, sqT hp1, rfl, ?_⟩
    walk_at "rd"
    refine ⟨_, _, _, _, true, rfl, .ty "bool", .base (.bl l), kit_ty (by decide +kernel), true, rfl, iteF ?_⟩
    refine ⟨_, rfl, p2, _, 0, _, rfl, rfl, sqT hp2, rfl, num_int ⟨true, rfl, iteF ?_⟩⟩
    refine ⟨_, rfl, p2, _, 1, _, rfl, rfl, sqT hp2, rfl, num_int ⟨true, rfl, iteF ?_⟩⟩
    walk_at "rd"
    have v := cov_iff.mp ok.cov
    have ox0 := ok.x0
    have ox1 := ok.x1
    have oy0 := ok.y0
    have oy1 := ok.y1
    have oal := ok.al
    have hc1 := sm1 _ _ hc
    obtain ⟨cx, cy⟩ := ce
    cases l
    all_goals
      first | refine iteT ?_ | refine iteF ?_
      walk_at "rd"
      intro t3 ht3
      generalize hH3 : upd H1 t3 _ = H3
      obtain ⟨sm3, up3⟩ := newH hH3 ht3
      clear hH3
      refine ⟨t3, _, rfl, sqT up3, rfl, ?_⟩
      have hc3 := sm3 _ _ hc1
      have hp23 := sm3 _ _ hp2
      walk_at "rd"
      refine ⟨p2, _, 0, _, rfl, rfl, sqT hp23, rfl, ?_⟩
      walk_at "rd"
      refine ⟨c, _, 0, _, rfl, rfl, sqT hc3, rfl, ?_⟩
      walk_at "rd"
      refine iteP v.1.1 ?_
      walk_at "rd"
      refine ⟨p2, _, 0, _, rfl, rfl, sqT hp23, rfl, ?_⟩
      walk_at "rd"
      refine iteNP v.1.2 ?_
      walk_at "rd"
      refine ⟨p2, _, 1, _, rfl, rfl, sqT hp23, rfl, ?_⟩
      walk_at "rd"
      refine ⟨c, _, 1, _, rfl, rfl, sqT hc3, rfl, ?_⟩
      walk_at "rd"
      refine iteP v.2.1 ?_
      walk_at "rd"
      refine ⟨p2, _, 1, _, rfl, rfl, sqT hp23, rfl, ?_⟩
      walk_at "rd"
      refine iteNP v.2.2 ?_
      walk_at "rd"
      refine ⟨p2, _, _, rfl, sqT hp23, ?_⟩
      walk_at "rd"
      refine iteN (show ¬ min x y < 0 by
        have h0 : 0 ≤ x := ox0
        have h1 : 0 ≤ y := oy0
        omega) ?_
      walk_at "rd"
      refine ⟨p2, _, 0, _, rfl, rfl, sqT hp23, rfl, ?_⟩
      walk_at "rd"
      refine iteN (Int.not_lt.mpr ox1) ?_
      walk_at "rd"
      refine ⟨p2, _, 1, _, rfl, rfl, sqT hp23, rfl, ?_⟩
      walk_at "rd"
      refine iteN (Int.not_lt.mpr oy1) ?_
      walk_at "rd"
    · refine iteEq (fun z => nomatch oal z) (fun _ => iteF ?_)
      exact ⟨_, rfl, q _ (sm1.trans sm3) (sm3 _ _ hp1) hp23⟩
    · refine iteEq (fun _ => ?_) (fun _ => ?_)
      · walk_at "rd"
        exact q _ (sm1.trans sm3) (sm3 _ _ hp1) hp23
      · refine iteF ?_
        exact ⟨_, rfl, q _ (sm1.trans sm3) (sm3 _ _ hp1) hp23⟩
end
end BF

/-! ### k02: the same brick on its other cells, another one on the next cells -/
namespace BF
open PySem PySem.Spec PyProof.Rows L2
def brDD (b : Brick) : PyData := .tuple [.tuple [.int b.x, .int b.y], .bool b.l]
theorem brDD_ne {a b : Brick} (h : a ≠ b) : PyData.eqv (brDD a) (brDD b) = false := by
  obtain ⟨x, y, l⟩ := a
  obtain ⟨u, v, m⟩ := b
  cases e : PyData.eqv (brDD ⟨x, y, l⟩) (brDD ⟨u, v, m⟩) with
  | false => rfl
  | true =>
    refine absurd ?_ h
    simp [brDD, PyData.eqv, PyData.eqvAll] at e
    obtain ⟨⟨rfl, rfl⟩, rfl⟩ := e
    rfl
theorem dp_br {K : PySem.W.Frag} {H : Hp} {p p1 : Addr} {b : Brick} (h : H p = some (.tup [.ref p1, .bl b.l])) (h1 : H p1 = some (.tup (cellV (b.x, b.y)))) : Dp K H (.ref p) (brDD b) := .tup (sqT h) (.cons (.tup (sqT h1) (.cons (.int _) (.cons (.int _) .nil))) (.cons (.bl _) .nil))
/-- a cell that the brick covers, one that it does not -/
def CovAt (f s : Int) (b : Brick) (k : Bool) (H : Hp) (v : V) : Prop := ∃ a ce, v = .ref a ∧ H a = some (.tup (cellV ce)) ∧ covB f s ce b = k
theorem CovAt.mono {f s : Int} {b : Brick} {k : Bool} {H H' : Hp} {v : V} (h : CovAt f s b k H v) (sm : Same H H') : CovAt f s b k H' v := let ⟨a, ce, e, h1, h2⟩ := h; ⟨a, ce, e, sm _ _ h1, h2⟩
theorem cov_at {f s u v : Int} {b : Brick} {k : Bool} {H : Hp} {a : Addr} (hc : covB f s (u, v) b = k) (h : H a = some (.tup [.int u, .int v])) : CovAt f s b k H (.ref a) := ⟨a, (u, v), rfl, h, hc⟩
theorem if_pair {l : Bool} {T1 T2 : TE} {σ : L2.St} {H : Hp} {Q : VK} {a b : Int} (h1 : l = true → ∀ Q : VK, (∀ p, H p = none → Q (.ref p) (upd H p (.tup [.int a, .int b]))) → T1 σ H Q) (h2 : l = false → ∀ Q : VK, (∀ p, H p = none → Q (.ref p) (upd H p (.tup [.int a, .int b]))) → T2 σ H Q)
    (q : ∀ p, H p = none → Q (.ref p) (upd H p (.tup [.int a, .int b]))) : if l = true then T1 σ H Q else T2 σ H Q := iteB (fun e => h1 e Q q) (fun e => h2 e Q q)
inductive SpCellR (K : PySem.W.Frag) : Sp where
  | mk {t c : Addr} {L W f s n : Int} {ce : Int × Int} {H : Hp} {Q : VK} {E : XK} (ht : SqT K H t [.int L, .int W, .int f, .int s]) (hL : Sz L) (hW : Sz W) (hf : Sz f) (hs : Sz s) (fr : Free L W f s) (hc : H c = some (.tup (cellV ce))) (hi : cellB L W ce = true)
      (q : ∀ H', Same H H' → Q (.bl true) H') : SpCellR K [.ref t, .ref c, .int n] H Q E
inductive CrI (t c : Addr) (n L W f s : Int) (p p1 : Addr) (l : Bool) (lo hi : Int) (la dr : Addr) (H : Hp) : L2.St → Hp → Prop where
  | mk {H' : Hp} {y14 y15 : Option V} (sm : Same H H') : CrI t c n L W f s p p1 l lo hi la dr H [some (.ref t), some (.ref c), some (.int n), some (.int L), some (.int W), some (.int f), some (.int s), some (.ref p), some (.ref p1), some (.bl l), some (.int lo), some (.int hi), some (.ref la), some (.ref dr), y14, y15] H'
theorem if_noW {T : TT} {R : TS} {D : Ends} {σ : L2.St} {H : Hp} (M : Hp → Prop) (hT : ∀ r : Bool → Hp → Prop, (∀ H', M H' → r false H') → T σ H r) (hU : ∀ H', M H' → D.nx σ H') : tIfS T R tNext D σ H :=
  hT _ (fun H' m => by
    show if false = true then _ else _
    exact iteF (hU H' m))
section
variable {P : Program} {w : World} {K : PySem.W.Frag} {mg : Str → Option Value} {base : Heap}
theorem H__law_cell_right (p : Pl K mg "_law_cell_right" s__law_cell_right) (B : Bi mg) (h__law_brick : Has P w K mg base CX0 6 "_law_brick" ["_law_four_here", "_law_cell"] (SpLBrick K)) :
    Has P w K mg base CX0 7 "_law_cell_right" ["_law_four_here", "_law_cell", "_law_number_here"] (SpCellR K) := by
  refine p.mk0 sc__law_cell_right (fun _ _ _ _ _ _ us hl => match us, hl with | [_, _, _], _ => rfl) (fun vs H Q E h => ?_) (fun f cdv A outer s H vs Q E hr h => ?_)
  · cases h; rfl
  · obtain @⟨t, c, L, W, fi, se, n, ce, _, _, _, ht, hL, hW, hf, hs, fr, hc, hi, q⟩ := h
    refine ⟨_, (pss_cons (ps_asg (pv 0) (pg_tup (by rfl) (pgs_cons (pg_name (i := 3) sc__law_cell_right.nd rfl (Or.inl rfl)) (pgs_cons (pg_name (i := 4) sc__law_cell_right.nd rfl (Or.inl rfl)) (pgs_cons (pg_name (i := 5) sc__law_cell_right.nd rfl (Or.inl rfl)) (pgs_cons (pg_name (i := 6) sc__law_cell_right.nd rfl (Or.inl rfl)) pgs_nil))))))
      (pss_cons (ps_set (i := 7) sc__law_cell_right.nd rfl (Or.inl rfl) (pe_fn h__law_brick (hr.mono (by decide)) pass0 (pa_cons (pv 0) (pa_cons (pv 1) pa_nil))))
      (pss_cons (ps_if (pt_cmpR op_isN (pv 7) pe_non (nomark _)) (pss_one (ps_ret pe_bl)) pss_nil)
      (pss_cons (ps_asg (pv 7) (pg_tup (by rfl) (pgs_cons (pg_name (i := 8) sc__law_cell_right.nd rfl (Or.inl rfl)) (pgs_cons (pg_name (i := 9) sc__law_cell_right.nd rfl (Or.inl rfl)) pgs_nil))))
      (pss_cons (ps_asg (pe_ifExp (pt_val (pv 9)) (pe_tup (pa_cons (pv 5) (pa_cons (pv 6) pa_nil))) (pe_tup (pa_cons (pv 6) (pa_cons (pv 5) pa_nil)))) (pg_tup (by rfl) (pgs_cons (pg_name (i := 10) sc__law_cell_right.nd rfl (Or.inl rfl)) (pgs_cons (pg_name (i := 11) sc__law_cell_right.nd rfl (Or.inl rfl)) pgs_nil))))
      (pss_cons (ps_set (i := 12) sc__law_cell_right.nd rfl (Or.inl rfl) (pe_tup (pa_cons (pe_op op_sub (pe_op op_add (pe_ix (r := rIxT K) ix_tup (pv 8) pe_int (fun _ _ => rfl)) (pv 10)) pe_int) (pa_cons (pe_op op_sub (pe_op op_add (pe_ix (r := rIxT K) ix_tup (pv 8) pe_int (fun _ _ => rfl)) (pv 11)) pe_int) pa_nil))))
      (pss_cons (ps_set (i := 13) sc__law_cell_right.nd rfl (Or.inl rfl) (pe_tup (pa_cons (pe_op op_add (pe_ix (r := rIxT K) ix_tup (pv 8) pe_int (fun _ _ => rfl)) (pe_op op_mod (pv 2) (pv 10))) (pa_cons (pe_op op_add (pe_ix (r := rIxT K) ix_tup (pv 8) pe_int (fun _ _ => rfl)) (pe_op op_mod (pe_op op_fdivW (pv 2) pe_int) (pv 11))) pa_nil))))
      (pss_cons (ps_for PassesOwn.never (by rfl) (pi_list (pe_lst (pa_cons (pv 8) (pa_cons (pv 12) (pa_cons (pv 13) (pa_cons (pe_tup (pa_cons (pe_ix (r := rIxT K) ix_tup (pv 8) pe_int (fun _ _ => rfl)) (pa_cons (pe_ix (r := rIxT K) ix_tup (pv 12) pe_int (fun _ _ => rfl)) pa_nil))) pa_nil)))))) (pg_name (i := 14) sc__law_cell_right.nd rfl (Or.inl rfl)) (pss_one (ps_if (pt_cmpR (r := rNeD K) (op_neD hr.units) (pe_fn h__law_brick (hr.mono (by decide)) pass0 (pa_cons (pv 0) (pa_cons (pv 14) pa_nil))) (pv 7) (nomark _)) (pss_one (ps_ret pe_bl)) pss_nil)))
      (pss_cons (ps_set (i := 15) sc__law_cell_right.nd rfl (Or.inl rfl) (pe_lst (pa_cons (pe_tup (pa_cons (pe_op op_sub (pe_ix (r := rIxT K) ix_tup (pv 8) pe_int (fun _ _ => rfl)) pe_int) (pa_cons (pe_ix (r := rIxT K) ix_tup (pv 1) pe_int (fun _ _ => rfl)) pa_nil))) (pa_cons (pe_tup (pa_cons (pe_op op_add (pe_ix (r := rIxT K) ix_tup (pv 12) pe_int (fun _ _ => rfl)) pe_int) (pa_cons (pe_ix (r := rIxT K) ix_tup (pv 1) pe_int (fun _ _ => rfl)) pa_nil))) pa_nil))))
      (pss_cons (ps_for PassesOwn.never (by rfl) (pi_list (pe_op op_cat (pv 15) (pe_lst (pa_cons (pe_tup (pa_cons (pe_ix (r := rIxT K) ix_tup (pv 1) pe_int (fun _ _ => rfl)) (pa_cons (pe_op op_sub (pe_ix (r := rIxT K) ix_tup (pv 8) pe_int (fun _ _ => rfl)) pe_int) pa_nil))) (pa_cons (pe_tup (pa_cons (pe_ix (r := rIxT K) ix_tup (pv 1) pe_int (fun _ _ => rfl)) (pa_cons (pe_op op_add (pe_ix (r := rIxT K) ix_tup (pv 12) pe_int (fun _ _ => rfl)) pe_int) pa_nil))) pa_nil))))) (pg_name (i := 14) sc__law_cell_right.nd rfl (Or.inl rfl)) (pss_one (ps_if (PW.pt (pw_and (pt_chain op_le op_lt pe_int (pe_ix (r := rIxT K) ix_tup (pv 14) pe_int (fun _ _ => rfl)) (pv 3)) (pw_and (pt_chain op_le op_lt pe_int (pe_ix (r := rIxT K) ix_tup (pv 14) pe_int (fun _ _ => rfl)) (pv 4)) (pw_and1 (pt_cmpR (r := rInD K) (op_inD (u65 hr)) (pe_fn h__law_brick (hr.mono (by decide)) pass0 (pa_cons (pv 0) (pa_cons (pv 14) pa_nil))) (pe_lst (pa_cons pe_non (pa_cons (pv 7) pa_nil))) (by rfl)))))) (pss_one (ps_ret pe_bl)) pss_nil)))
      (pss_one (ps_ret pe_bl)))))))))))), ?_⟩
    refine ⟨_, rfl, t, _, rfl, ht, rfl, ?_⟩
    walk_at "rd"
    refine .mk ht hL hW hf hs fr hc hi fun p1 p2 H1 sm1 hp1 hp2 => ?_
    have ok := brick_ok hL.pos hW.pos hf.pos hs.pos fr hi
    have same := fun ce' (v : covB fi se ce' (brickP L W fi se ce) = true) => brick_same hL.pos hW.pos hf.pos hs.pos fr hi v
    have iff := fun ce' (h : cellB L W ce' = true) => brick_iff hL.pos hW.pos hf.pos hs.pos fr hi h
    generalize hb : brickP L W fi se ce = b at hp1 hp2 ok same iff
    have fp := hf.pos
    have sp := hs.pos
    obtain ⟨lo, hlo⟩ : ∃ lo, b.lo fi se = lo := ⟨_, rfl⟩
    obtain ⟨hi', hhi⟩ : ∃ hi', b.hi fi se = hi' := ⟨_, rfl⟩
    have lo0 : 0 < lo := by
      rw [← hlo]
      unfold Brick.lo
      split <;> omega
    have hi0 : 0 < hi' := by
      rw [← hhi]
      unfold Brick.hi
      split <;> omega
    walk_at "rd"
    refine ⟨p1, _, rfl, sqT hp1, rfl, ?_⟩
    walk_at "rd"
    have v := cov_iff.mp ok.cov
    have ox0 := ok.x0
    have ox1 := ok.x1
    have oy0 := ok.y0
    have oy1 := ok.y1
    rw [hlo] at v ox1
    rw [hhi] at v oy1
    obtain ⟨x, hx⟩ : ∃ x, b.x = x := ⟨_, rfl⟩
    obtain ⟨y, hy⟩ : ∃ y, b.y = y := ⟨_, rfl⟩
    rw [hx] at v ox0 ox1 hp2
    rw [hy] at v oy0 oy1 hp2
    have cin : ∀ u v : Int, (x ≤ u ∧ u < x + lo) ∧ y ≤ v ∧ v < y + hi' → covB fi se (u, v) b = true := fun u v h => by
      exact cov_iff.mpr (by rw [hlo, hhi, hx, hy]; exact h)
    have cout : ∀ u v : Int, ¬ ((x ≤ u ∧ u < x + lo) ∧ y ≤ v ∧ v < y + hi') → covB fi se (u, v) b = false := fun u v h => by
      cases e : covB fi se (u, v) b with
      | false => rfl
      | true =>
        have z := cov_iff.mp e
        rw [hlo, hhi, hx, hy] at z
        exact absurd z h
    obtain ⟨cx, cy⟩ := ce
    have dx : Dp K H1 (.ref p1) (brDD b) := dp_br hp1 (by rw [hx, hy]; exact hp2)
    have shx : SeqAt.shaped (brDD b) = true := rfl
    have m1 := Int.emod_nonneg n (Int.ne_of_gt lo0)
    have m2 := Int.emod_lt_of_pos n lo0
    have m3 := Int.emod_nonneg (n / 3) (Int.ne_of_gt hi0)
    have m4 := Int.emod_lt_of_pos (n / 3) hi0
    have d1 := cin x y (by omega)
    have d2 := cin (x + lo - 1) (y + hi' - 1) (by omega)
    have d3 := cin (x + n % lo) (y + n / 3 % hi') (by omega)
    have d4 := cin x (y + hi' - 1) (by omega)
    have g1 := cout (x - 1) cy (by omega)
    have g2 := cout (x + lo - 1 + 1) cy (by omega)
    have g3 := cout cx (y - 1) (by omega)
    have g4 := cout cx (y + hi' - 1 + 1) (by omega)
    clear cin cout ox0 ox1 oy0 oy1 ok v m1 m2 m3 m4
    refine if_pair (a := lo) (b := hi') (fun e Q' q' => ?_) (fun e Q' q' => ?_) (fun t3 ht3 => ?_)
    · have e1 : fi = lo := by rw [← hlo]; unfold Brick.lo; rw [if_pos e]
      have e2 : se = hi' := by rw [← hhi]; unfold Brick.hi; rw [if_pos e]
      subst e1 e2
      walk_at "rd"
      exact q'
    · have e1 : se = lo := by rw [← hlo]; unfold Brick.lo; rw [if_neg (by rw [e]; decide)]
      have e2 : fi = hi' := by rw [← hhi]; unfold Brick.hi; rw [if_neg (by rw [e]; decide)]
      subst e1 e2
      walk_at "rd"
      exact q'
    generalize hH3 : upd H1 t3 _ = H3
    obtain ⟨sm3, up3⟩ := newH hH3 ht3
    clear hH3
    refine ⟨t3, _, rfl, sqT up3, rfl, ?_⟩
    have hp23 := sm3 _ _ hp2
    walk_at "rd"
    refine ⟨p2, _, 0, _, rfl, rfl, sqT hp23, rfl, ?_⟩
    walk_at "rd"
    refine ⟨p2, _, 1, _, rfl, rfl, sqT hp23, rfl, ?_⟩
    walk_at "rd"
    intro t4 ht4
    generalize hH4 : upd H3 t4 _ = H4
    obtain ⟨sm4, up4⟩ := newH hH4 ht4
    clear hH4
    have hp24 := sm4 _ _ hp23
    walk_at "rd"
    refine ⟨p2, _, 0, _, rfl, rfl, sqT hp24, rfl, ?_⟩
    walk_at "rd"
    refine ⟨p2, _, 1, _, rfl, rfl, sqT hp24, rfl, ?_⟩
    walk_at "rd"
    intro t5 ht5
    generalize hH5 : upd H4 t5 _ = H5
    obtain ⟨sm5, up5⟩ := newH hH5 ht5
    clear hH5
    have hp25 := sm5 _ _ hp24
    have up45 := sm5 _ _ up4
    walk_at "rd"
    refine ⟨p2, _, 0, _, rfl, rfl, sqT hp25, rfl, ?_⟩
    walk_at "rd"
    refine ⟨t4, _, 1, _, rfl, rfl, sqT up45, rfl, ?_⟩
    walk_at "rd"
    intro t6 ht6
    generalize hH6 : upd H5 t6 _ = H6
    obtain ⟨sm6, up6⟩ := newH hH6 ht6
    clear hH6
    walk_at "rd"
    intro l7 hl7
    generalize hH7 : upd H6 l7 _ = H7
    obtain ⟨sm7, up7⟩ := newH hH7 hl7
    clear hH7
    walk_at "rd"
    have s17 := sm3.trans (sm4.trans (sm5.trans (sm6.trans sm7)))
    have cv : ∀ v ∈ [V.ref p2, V.ref t4, V.ref t5, V.ref t6], CovAt fi se b true H7 v := by
      intro v hv
      have e : v = .ref p2 ∨ v = .ref t4 ∨ v = .ref t5 ∨ v = .ref t6 := by simpa using hv
      rcases e with rfl | rfl | rfl | rfl
      · exact cov_at d1 (s17 _ _ hp2)
      · exact cov_at d2 (sm7 _ _ (sm6 _ _ up45))
      · exact cov_at d3 (sm7 _ _ (sm6 _ _ up5))
      · exact cov_at d4 (sm7 _ _ up6)
    refine ⟨⟨_, sqL up7⟩, for_list (K := K) (a := l7) (xs := [V.ref p2, V.ref t4, V.ref t5, V.ref t6]) (fun j σ H' => CrI t c n L W fi se p1 p2 _ _ _ t4 t5 H7 σ H') (.mk (Same.refl _)) ?_ ?_ ?_⟩
    · rintro _ _ _ _ ⟨sm⟩
      exact sqL (sm _ _ up7)
    · rintro j v _ H8 hj @⟨_, _, _, sm8⟩
      obtain ⟨a, ce', rfl, ha, hv⟩ := (cv v (List.mem_of_getElem? hj)).mono sm8
      obtain ⟨w1, w2⟩ := same ce' hv
      have s18 := sm1.trans (s17.trans sm8)
      walk_at "rd"
      refine .mk (Same.tup s18 ht) hL hW hf hs fr ha w1 fun p9 p10 H9 sm9 h9 h10 => ?_
      rw [w2] at h9 h10
      walk_at "rd"
      refine ⟨brDD b, brDD b, dp_br h9 h10, dpS (s17.trans (sm8.trans sm9)) dx, shx, shx, ?_⟩
      rw [SeqAt.eqv_refl _ rfl]
      exact ⟨_, rfl, iteF (.mk (sm8.trans sm9))⟩
    rintro _ H8 @⟨_, _, _, sm8⟩
    have s18 := s17.trans sm8
    have hp28 := s18 _ _ hp2
    have hc8 := s18 _ _ (sm1 _ _ hc)
    have up48 := sm8 _ _ (sm7 _ _ (sm6 _ _ up45))
    walk_at "rd"
    refine ⟨p2, _, 0, _, rfl, rfl, sqT hp28, rfl, ?_⟩
    walk_at "rd"
    refine ⟨c, _, 1, _, rfl, rfl, sqT hc8, rfl, ?_⟩
    walk_at "rd"
    intro u1 hu1
    generalize hH9 : upd H8 u1 _ = H9
    obtain ⟨sm9, up9⟩ := newH hH9 hu1
    clear hH9
    walk_at "rd"
    refine ⟨t4, _, 0, _, rfl, rfl, sqT (sm9 _ _ up48), rfl, ?_⟩
    walk_at "rd"
    refine ⟨c, _, 1, _, rfl, rfl, sqT (sm9 _ _ hc8), rfl, ?_⟩
    walk_at "rd"
    intro u2 hu2
    generalize hH10 : upd H9 u2 _ = H10
    obtain ⟨sm10, up10⟩ := newH hH10 hu2
    clear hH10
    walk_at "rd"
    intro k1 hk1
    generalize hH11 : upd H10 k1 _ = H11
    obtain ⟨sm11, up11⟩ := newH hH11 hk1
    clear hH11
    have s811 := sm9.trans (sm10.trans sm11)
    walk_at "rd"
    refine ⟨c, _, 0, _, rfl, rfl, sqT (s811 _ _ hc8), rfl, ?_⟩
    walk_at "rd"
    refine ⟨p2, _, 1, _, rfl, rfl, sqT (s811 _ _ hp28), rfl, ?_⟩
    walk_at "rd"
    intro u3 hu3
    generalize hH12 : upd H11 u3 _ = H12
    obtain ⟨sm12, up12⟩ := newH hH12 hu3
    clear hH12
    have s812 := s811.trans sm12
    walk_at "rd"
    refine ⟨c, _, 0, _, rfl, rfl, sqT (s812 _ _ hc8), rfl, ?_⟩
    walk_at "rd"
    refine ⟨t4, _, 1, _, rfl, rfl, sqT (s812 _ _ up48), rfl, ?_⟩
    walk_at "rd"
    intro u4 hu4
    generalize hH13 : upd H12 u4 _ = H13
    obtain ⟨sm13, up13⟩ := newH hH13 hu4
    clear hH13
    walk_at "rd"
    intro k2 hk2
    generalize hH14 : upd H13 k2 _ = H14
    obtain ⟨sm14, up14⟩ := newH hH14 hk2
    clear hH14
    have s1114 := sm12.trans (sm13.trans sm14)
    refine ⟨k1, k2, _, _, rfl, rfl, s1114 _ _ up11, up14, size4 (by simp), fun k3 hk3 => ?_⟩
    generalize hH15 : upd H14 k3 _ = H15
    obtain ⟨sm15, up15⟩ := newH hH15 hk3
    clear hH15
    have s815 := s811.trans (s1114.trans sm15)
    have s115 := s18.trans s815
    walk_at "rd"
    have cw : ∀ v ∈ [V.ref u1, V.ref u2, V.ref u3, V.ref u4], CovAt fi se b false H15 v := by
      intro v hv
      have e : v = .ref u1 ∨ v = .ref u2 ∨ v = .ref u3 ∨ v = .ref u4 := by simpa using hv
      rcases e with rfl | rfl | rfl | rfl
      · exact cov_at g1 (sm15 _ _ (s1114 _ _ (sm11 _ _ (sm10 _ _ up9))))
      · exact cov_at g2 (sm15 _ _ (s1114 _ _ (sm11 _ _ up10)))
      · exact cov_at g3 (sm15 _ _ (sm14 _ _ (sm13 _ _ up12)))
      · exact cov_at g4 (sm15 _ _ (sm14 _ _ up13))
    refine ⟨⟨_, sqL up15⟩, for_list (K := K) (a := k3) (xs := [V.ref u1, V.ref u2, V.ref u3, V.ref u4]) (fun j σ H' => CrI t c n L W fi se p1 p2 _ _ _ t4 t5 H15 σ H') (.mk (Same.refl _)) ?_ ?_ ?_⟩
    · rintro _ _ _ _ ⟨sm⟩
      exact sqL (sm _ _ up15)
    · rintro j v _ H16 hj @⟨_, _, y15, sm16⟩
      obtain ⟨a, ⟨ax, ay⟩, rfl, ha, hv⟩ := (cw v (List.mem_of_getElem? hj)).mono sm16
      refine gN2 (σ' := [some (.ref t), some (.ref c), some (.int n), some (.int L), some (.int W), some (.int fi), some (.int se), some (.ref p1), some (.ref p2), some (.bl _), some (.int _), some (.int _), some (.ref t4), some (.ref t5), some (.ref a), y15]) rfl ?_
      refine if_noW (Same H16) (fun r hr0 => ?_) fun H17 sm17 => .mk (sm16.trans sm17)
      have s116 := s115.trans sm16
      refine ⟨_, rfl, a, _, 0, _, rfl, rfl, sqT ha, rfl, ?_⟩
      walk_at "rd"
      refine iteD (fun c1 => ?_) (fun _ => ⟨_, rfl, iteF (hr0 _ (Same.refl _))⟩)
      walk_at "rd"
      refine iteD (fun c2 => ?_) (fun _ => hr0 _ (Same.refl _))
      refine ⟨_, rfl, a, _, 1, _, rfl, rfl, sqT ha, rfl, ?_⟩
      walk_at "rd"
      refine iteD (fun c3 => ?_) (fun _ => ⟨_, rfl, iteF (hr0 _ (Same.refl _))⟩)
      walk_at "rd"
      refine iteD (fun c4 => ?_) (fun _ => hr0 _ (Same.refl _))
      have hcell : cellB L W (ax, ay) = true := cell_iff.mpr ⟨⟨c1, c2⟩, c3, c4⟩
      walk_at "rd"
      refine .mk (Same.tup (sm1.trans s116) ht) hL hW hf hs fr ha hcell fun p9 p10 H17 sm17 h9 h10 => ?_
      have ne : b ≠ brickP L W fi se (ax, ay) := fun e => by
        have z := (iff (ax, ay) hcell).mp e.symm
        rw [hv] at z
        exact nomatch z
      generalize brickP L W fi se (ax, ay) = b' at h9 h10 ne
      walk_at "rd"
      intro k4 hk4
      generalize hH18 : upd H17 k4 _ = H18
      obtain ⟨sm18, up18⟩ : Same H17 H18 ∧ H18 k4 = some (.lst [.non, .ref p1]) := newH hH18 hk4
      clear hH18
      refine ⟨brDD b', [.none, brDD b], dp_br (sm18 _ _ h9) (sm18 _ _ h10), .lst (sqL up18) (.cons .non (.cons (dpS (s116.trans (sm17.trans sm18)) dx) .nil)), rfl, rfl, ?_⟩
      have e0 : ([PyData.none, brDD b].any fun z => PyData.eqv z (brDD b')) = false := by
        show (PyData.eqv .none (brDD b') || (PyData.eqv (brDD b) (brDD b') || false)) = false
        rw [brDD_ne ne]
        rfl
      rw [e0]
      exact ⟨_, rfl, hr0 _ (sm17.trans sm18)⟩
    · rintro _ H16 @⟨_, _, _, sm16⟩
      exact q _ (sm1.trans (s115.trans sm16))
end
end BF

/-! ### dicts whose keys are tuples of numbers, truths and tuples; sorted lists of bricks -/
namespace BF
open PySem PySem.Spec PyProof.Rows L2
mutual
/-- the thing v is the key k -/
inductive KyIs (H : Hp) : NestedKey → V → Prop where
  | int (i : Int) : KyIs H (.num i) (.int i)
  | bl (b : Bool) : KyIs H (.num (if b = true then 1 else 0)) (.bl b)
  | tup {a : Addr} {vs : List V} {ks : List NestedKey} : H a = some (.tup vs) → KyAll H ks vs → KyIs H (.tup ks) (.ref a)
inductive KyAll (H : Hp) : List NestedKey → List V → Prop where
  | nil : KyAll H [] []
  | cons {k : NestedKey} {v : V} {ks : List NestedKey} {vs : List V} : KyIs H k v → KyAll H ks vs → KyAll H (k :: ks) (v :: vs)
end
mutual
theorem KyIs.is {P : Program} {w : World} {H : Hp} {h : Heap} (ok : HOk P w H h) : ∀ (k : NestedKey) (v : V) (u : Value), KyIs H k v → RelV v u → NestedIs h k u
  | .none, _, _, hk, _ => by cases hk
  | .text _, _, _, hk, _ => by cases hk
  | .num i, v, u, hk, r => by
    cases hk with
    | int =>
      obtain ⟨t, rfl⟩ := (show ∃ t, u = Value.int i t from r)
      exact .int i t
    | bl b =>
      obtain rfl := (show u = Value.bool b from r)
      exact .bool rfl
  | .tup ks, v, u, hk, r => by
    cases hk with
    | @tup a vs _ ha hs =>
      obtain rfl := (show u = Value.ref a from r)
      obtain ⟨_, its, rv, o, ho, hc, n, hd⟩ := ok _ _ ha
      exact .tup ho hc hd (KyAll.is ok ks vs its hs rv)
theorem KyAll.is {P : Program} {w : World} {H : Hp} {h : Heap} (ok : HOk P w H h) : ∀ (ks : List NestedKey) (vs : List V) (us : List Value), KyAll H ks vs → Vals vs us → NestedAll h ks us
  | [], _, _, hk, r => by
    cases hk
    cases r
    exact .nil
  | k :: ks, _, _, hk, r => by
    cases hk with
    | cons h1 h2 =>
      cases r with
      | cons r1 r2 => exact .cons (KyIs.is ok k _ _ h1 r1) (KyAll.is ok ks _ _ h2 r2)
end
mutual
theorem KyIs.mono {H H' : Hp} (sm : ∀ b xs, H b = some (.tup xs) → H' b = some (.tup xs)) : ∀ (k : NestedKey) (v : V), KyIs H k v → KyIs H' k v
  | .none, _, hk => by cases hk
  | .text _, _, hk => by cases hk
  | .num i, v, hk => by
    cases hk with
    | int => exact .int i
    | bl b => exact .bl b
  | .tup ks, v, hk => by
    cases hk with
    | tup ha hs => exact .tup (sm _ _ ha) (KyAll.mono sm ks _ hs)
theorem KyAll.mono {H H' : Hp} (sm : ∀ b xs, H b = some (.tup xs) → H' b = some (.tup xs)) : ∀ (ks : List NestedKey) (vs : List V), KyAll H ks vs → KyAll H' ks vs
  | [], _, hk => by
    cases hk
    exact .nil
  | k :: ks, _, hk => by
    cases hk with
    | cons h1 h2 => exact .cons (KyIs.mono sm k _ h1) (KyAll.mono sm ks _ h2)
end
abbrev NEnt := NestedKey × Addr × V
def NRel (p : NEnt) (q : NestedKey × Addr × Value) : Prop := p.1 = q.1 ∧ p.2.1 = q.2.1 ∧ RelV p.2.2 q.2.2
/-- a dict with the entries xs: key, the key's tuple, value -/
def DN (P : Program) (w : World) (d : Addr) (xs : List NEnt) : HO := .ext fun h => xs.length ≤ sizeLine ∧ (d == sysModules) = false ∧ ∃ vs, Paired NRel xs vs ∧
  ∃ o es ep, h.get? d = some o ∧ o.ExactDict ∧ o.data = .dict es ep ∧ es.toList = vs.map (entryOfKey (nestedKind P w)) ∧ (vs.map (·.1)).Nodup
def KeysAt (H : Hp) (xs : List NEnt) : Prop := ∀ x ∈ xs, KyIs H x.1 (.ref x.2.1) ∧ x.1.depth ≤ 8
theorem dn_ok {P : Program} {w : World} {H : Hp} {h : Heap} {d : Addr} {xs : List NEnt} {vs : List (NestedKey × Addr × Value)} (z : xs.length ≤ sizeLine) (hd : (d == sysModules) = false) (r : Paired NRel xs vs) {o : Obj} {es : Array DictEntry} {ep : Nat}
    (h1 : h.get? d = some o) (h2 : o.ExactDict) (h3 : o.data = .dict es ep) (h4 : es.toList = vs.map (entryOfKey (nestedKind P w))) (h5 : (vs.map (·.1)).Nodup) : ObjOk P w H h d (DN P w d xs) :=
  ⟨⟨z, hd, vs, r, o, es, ep, h1, h2, h3, h4, h5⟩, ⟨o, h1⟩, fun _ _ ⟨z, hd, vs, r, o, es, ep, h1, h2⟩ st => ⟨z, hd, vs, r, o, es, ep, st o h1, h2⟩⟩
theorem paired_right {α β : Type} {F : α → β → Prop} : ∀ {l₁ : List α} {l₂ : List β}, Paired F l₁ l₂ → ∀ y ∈ l₂, ∃ x ∈ l₁, F x y
  | _, _, .nil, y, h => nomatch h
  | _, _, .cons r t, y, h => by
    rcases List.mem_cons.mp h with rfl | h
    · exact ⟨_, List.mem_cons_self, r⟩
    · obtain ⟨x, hx, f⟩ := paired_right t y h
      exact ⟨x, List.mem_cons_of_mem _ hx, f⟩
theorem dn_of {P : Program} {w : World} {H : Hp} {h : Heap} {d : Addr} {xs : List NEnt} (ok : HOk P w H h) (e : H d = some (DN P w d xs)) (hk : KeysAt H xs) :
    xs.length ≤ sizeLine ∧ (d == sysModules) = false ∧ ∃ vs, Paired NRel xs vs ∧ h.DictOfH (nestedKind P w) d vs := by
  obtain ⟨⟨z, hd, vs, r, o, es, ep, h1, h2, h3, h4, h5⟩, _, _⟩ := ok d _ e
  refine ⟨z, hd, vs, r, o, es, ep, h1, h2, h3, h4, fun y hy => ?_, h5⟩
  obtain ⟨x, hx, e1, e2, _⟩ := paired_right r y hy
  obtain ⟨k1, k2⟩ := hk x hx
  rw [← e1, ← e2]
  exact ⟨KyIs.is ok _ _ _ k1 rfl, k2⟩
/-- d[k] = v -/
def putN (xs : List NEnt) (k : NestedKey) (b : Addr) (v : V) : List NEnt := if (xs.any fun x => decide (x.1 = k)) = true then xs.map (fun x => if x.1 = k then (x.1, x.2.1, v) else x) else xs ++ [(k, b, v)]
/-- d[k] -/
def atN (xs : List NEnt) (k : NestedKey) : Option V := (xs.find? fun x => decide (x.1 = k)).map (·.2.2)
theorem putN_len (xs : List NEnt) (k : NestedKey) (b : Addr) (v : V) : (putN xs k b v).length ≤ xs.length + 1 := by
  unfold putN
  split
  · rw [List.length_map]
    omega
  · rw [List.length_append]
    exact Nat.le_refl _
theorem nrel_at {xs : List NEnt} {vs : List (NestedKey × Addr × Value)} (r : Paired NRel xs vs) (k : NestedKey) : RelO (atN xs k) ((atKey vs k).map (·.2)) ∧ (xs.any fun x => decide (x.1 = k)) = (atKey vs k).isSome := by
  induction r with
  | nil => exact ⟨trivial, rfl⟩
  | @cons a b l₁ l₂ h t ih =>
    obtain ⟨e1, e2, e3⟩ := h
    unfold atN atKey at *
    by_cases c : a.1 = k
    · have c' : b.1 = k := e1 ▸ c
      simp only [List.find?_cons, List.any_cons, decide_eq_true c, decide_eq_true c', Bool.true_or]
      exact ⟨e3, rfl⟩
    · have c' : ¬ b.1 = k := fun z => c (e1.trans z)
      simp only [List.find?_cons, List.any_cons, decide_eq_false c, decide_eq_false c', Bool.false_or]
      exact ih
theorem nrel_map {k : NestedKey} {v : V} {u : Value} (rv : RelV v u) : ∀ {xs : List NEnt} {vs : List (NestedKey × Addr × Value)}, Paired NRel xs vs → Paired NRel (xs.map fun x => if x.1 = k then (x.1, x.2.1, v) else x) (vs.map (putAt k u))
  | _, _, .nil => .nil
  | _, _, .cons (a := a) (b := b) h t => by
    obtain ⟨e1, e2, e3⟩ := h
    refine .cons ?_ (nrel_map rv t)
    show NRel (if a.1 = k then (a.1, a.2.1, v) else a) (if b.1 = k then (b.1, b.2.1, u) else b)
    by_cases c : a.1 = k
    · rw [if_pos c, if_pos (e1 ▸ c)]
      exact ⟨e1, e2, rv⟩
    · rw [if_neg c, if_neg (fun z => c (e1.trans z))]
      exact ⟨e1, e2, e3⟩
theorem nrel_put {xs : List NEnt} {vs : List (NestedKey × Addr × Value)} (r : Paired NRel xs vs) (k : NestedKey) (b : Addr) {v : V} {u : Value} (rv : RelV v u) : Paired NRel (putN xs k b v) (storedH vs k b u) := by
  unfold putN storedH
  rw [(nrel_at r k).2]
  split
  · exact nrel_map rv r
  · exact r.snoc ⟨rfl, rfl, rv⟩
theorem nrel_refs : ∀ {xs : List NEnt} {vs : List (NestedKey × Addr × Value)}, Paired NRel xs vs → (xs.map fun x => V.ref x.2.1) = (vs.map fun x => x.2.1).map V.ref
  | _, _, .nil => rfl
  | _, _, .cons h t => by rw [List.map_cons, List.map_cons, List.map_cons, nrel_refs t, h.2.1]
def tDNewN (P : Program) (w : World) : TE := fun _ H Q => ∀ p, H p = none → Q (.ref p) (upd H p (DN P w p []))
def sDPutN (P : Program) (w : World) (td ty tv : TE) : TS := fun D σ H => tv σ H fun v H1 => td σ H1 fun x H2 => ty σ H2 fun y H3 => ∃ a b k xs, x = .ref a ∧ y = .ref b ∧ H3 a = some (DN P w a xs) ∧ KeysAt H3 xs ∧ KyIs H3 k (.ref b) ∧ k.depth ≤ 8 ∧ xs.length < sizeLine ∧
  D.nx σ (upd H3 a (DN P w a (putN xs k b v)))
section
variable {X : Cx} {o i e value : Expr} {pos pos' tpos : Pos} {td ty tv : TE}
theorem pe_dnewN : PE X (.Dict [] [] pos) (tDNewN X.prog X.w) := ⟨fun pins s σ H Q I h =>
  wpAny_Dict_empty ⟨.ref s.heap.objs.size, _, I.laid (a := s.heap.objs.size) (o := DN X.prog X.w s.heap.objs.size []) (t' := s.toks) (fun _ _ q => Heap.get?_push_of_some _ q) (Nat.le_refl _)
    (dn_ok (vs := []) (Nat.zero_le _) (beq_eq_false_iff_ne.mpr (Ne.symm (Nat.ne_of_lt I.big))) .nil (Heap.get?_push_size _ rfl) ⟨rfl, rfl, rfl⟩ rfl rfl List.nodup_nil), rfl, h _ (I.hok.fresh (Nat.le_refl _))⟩⟩
theorem ps_dputN (hu : X.A.units + 64 < cLine) (ho : PE X o td) (hi : PE X i ty) (hv : PE X value tv) (hs : swapsWith value (some (.Subscript o i pos')) pos.line X.env = pure false := by rfl) :
    PS X (.Assign [.Subscript o i pos'] value pos) (sDPutN X.prog X.w td ty tv) := by
  refine ⟨fun pins s σ H D I h => ?_⟩
  refine wpAny_Assign_Subscript (thn (hv.run pins s σ H _ I h) fun r s1 ⟨v, H1, I1, rv, q1⟩ => thn (ho.run pins s1 σ H1 _ I1 q1) fun u s2 ⟨x, H2, I2, rx, q2⟩ => thn (hi.run pins s2 σ H2 _ I2 q2) fun iv s3 ⟨y, H3, I3, ry, a, b, k, xs, ex, ey, hd, hk, kb, kd, hl, q3⟩ => ?_) hs
  subst ex ey
  obtain rfl : u = Value.ref a := rx
  obtain rfl : iv = Value.ref b := ry
  obtain ⟨z, hsm, vs, rel, dd⟩ := dn_of I3.hok hd hk
  have hz : vs.length ≤ sizeLine := by rw [← Paired.length rel]; exact z
  have hl' : (putN xs k b v).length ≤ sizeLine := by have := putN_len xs k b v; omega
  refine wpAny_setItem_heap (knd := nestedKind X.prog X.w) (hsz := hz) (show X.A.units + 1 + 8 < cLine by omega) ⟨KyIs.is I3.hok _ _ _ kb rfl, kd⟩ dd fun h' dd' hs => ?_
  obtain ⟨q, es, ep, hq, h2, h3, h4, _, h5⟩ := dd'
  exact ⟨σ, _, d_write I3 (by rw [hd]; exact True.intro) hs ⟨q, hq⟩ (dn_ok hl' hsm (nrel_put rel k b rv) hq h2 h3 h4 h5), q3⟩
theorem call_list_dN (hc : X.calm = true) : CallR X (.type "list") (fun xs H Q => ∃ d ns, xs = [V.ref d] ∧ H d = some (DN X.prog X.w d ns) ∧ ∀ p, H p = none → Q (.ref p) (upd H p (.lst (ns.map fun x => V.ref x.2.1)))) := by
  intro pins s σ H xs us Q I r h
  obtain ⟨d, kvs, rfl, hd, q⟩ := h
  obtain ⟨u, rfl, rx⟩ := r.one
  cases rx
  obtain ⟨⟨z, hs, ks, pr, o, es, ep, ho, hx, hdt, he, hn⟩, _, _⟩ := I.hok d _ hd
  have l1 : es.size = ks.length := size_of_entries he
  have l2 : kvs.length = ks.length := Paired.length pr
  refine PySem.W.kdl_call (kdl_raw hs hx hdt) (I.ok.hd hc) ho (by omega) fun h' tk acc' c' kp e it => ?_
  have ea : acc'.toList = ks.map fun x => Value.ref x.2.1 := by
    have hl : acc'.toList.length = ks.length := by rw [Array.length_toList, it.1]; exact l1
    apply List.ext_getElem?
    intro j
    rw [List.getElem?_map]
    cases hj : acc'.toList[j]? with
    | none =>
      have h1 := List.getElem?_eq_none_iff.mp hj
      rw [List.getElem?_eq_none (by omega)]
      all_goals rfl
    | some v =>
      obtain ⟨en, hen, hv⟩ := it.2 j v (by rw [← Array.getElem?_toList]; exact hj)
      have qe := entry_at he j
      rw [hen] at qe
      cases hb : ks[j]? with
      | none =>
        rw [hb] at qe
        exact nomatch (show some en = none from qe)
      | some b =>
        rw [hb] at qe
        have e2 : en = entryOfKey (nestedKind X.prog X.w) b := Option.some.inj qe
        rw [hv, e2]
        all_goals rfl
  have eq2 := nrel_refs pr
  have eb : acc'.toList = (ks.map fun x => x.2.1).map Value.ref := by rw [ea, List.map_map]; all_goals rfl
  have rv : Vals ((ks.map fun x => x.2.1).map V.ref) acc'.toList := by rw [eb]; exact vals_refs _
  have hz : ((ks.map fun x => x.2.1).map V.ref).length ≤ sizeLine := by rw [List.length_map, List.length_map]; omega
  have q' := q s.heap.objs.size (I.hok.fresh (Nat.le_refl _))
  rw [eq2] at q'
  refine ⟨.ref s.heap.objs.size, _, I.laid (t' := tk) (o := .lst ((ks.map fun x => x.2.1).map V.ref)) kp (Nat.le_refl _) ?_, rfl, q'⟩
  exact ⟨hz, acc'.toList, c', rv, by rw [Array.toArray_toList]; exact e⟩
/-- sorted(bricks): the same bricks, in some order -/
def brD3 (b : Brick) : PyData := .tuple [.int b.x, .int b.y, .bool b.l]
def rSortedB (K : PySem.W.Frag) : List V → Hp → VK → Prop := fun vs H Q => ∃ a ps, vs = [V.ref a] ∧ SqL K H a (refs ps) ∧ BrAll K H ps ∧ ∀ qs p, List.Perm qs ps → H p = none → Q (.ref p) (upd H p (.lst (refs qs)))
theorem each_refs {P : Addr × Brick → Prop} : ∀ {ps : List (Addr × Brick)} {us : List Value}, Vals (refs ps) us → PySem.W.EachIs (fun v b => v = Value.ref b.1) us ps
  | [], _, r => by
    have r' : Vals [] _ := r
    cases r'
    exact .nil
  | p :: ps, _, r => by
    have r' : Vals (V.ref p.1 :: refs ps) _ := r
    cases r' with
    | cons h t => exact .cons h (each_refs (P := P) t)
theorem refs_each : ∀ {ps : List (Addr × Brick)} {us : List Value}, PySem.W.EachIs (fun v b => v = Value.ref b.1) us ps → Vals (refs ps) us
  | _, _, .nil => .nil
  | _, _, .cons h t => .cons h (refs_each t)
theorem each_all {R : Value → Addr × Brick → Prop} {S : Value → Addr × Brick → Prop} : ∀ {ps : List (Addr × Brick)} {us : List Value}, PySem.W.EachIs R us ps → (∀ p ∈ ps, ∀ v, R v p → S v p) → PySem.W.EachIs S us ps
  | _, _, .nil, _ => .nil
  | _, _, .cons h t, f => .cons (f _ List.mem_cons_self _ h) (each_all t fun p hp => f p (List.mem_cons_of_mem _ hp))
theorem cr_sortedB (hu : X.A.units + 64 < cLine) : CallR X (.builtin "sorted") (rSortedB X.K) := by
  intro pins s σ H vs us Q I r h
  obtain ⟨a, ps, rfl, hs, hb, q⟩ := h
  obtain ⟨its, rv, hl, hz⟩ := I.list hs
  rw [Vals.ref1 r]
  rw [refs_len] at hz
  have e := each_refs (P := fun _ => True) rv
  refine PySem.W.sorted_data (enc := fun p => brD3 p.2) hl.isList e (each_all e fun p hp v hv => ?_) (PySem.W.AllAlike.of fun b b' => ?_) (PySem.W.Sortable.tuples fun b => ⟨_, _, rfl⟩) hz (fun b hb => ?_) fun out h1 h2 => ?_
  · exact Dp.reads I _ _ _ (.tup (hb p hp) (.cons (.int _) (.cons (.int _) (.cons (.bl _) .nil)))) hv
  · rfl
  · have : (brD3 b.2).depth ≤ 2 := by simp [brD3, PyData.depth, PyData.depthAll]
    omega
  obtain ⟨ep, he'⟩ := PyProof.Rows.sortedAll_at s.heap its out.toArray
  have pm := List.mergeSort_perm ps (PySem.W.dataLe false fun p => brD3 p.2)
  have hlen : (refs (ps.mergeSort (PySem.W.dataLe false fun p => brD3 p.2))).length ≤ sizeLine := by
    rw [refs_len, pm.length_eq]
    exact hz
  exact ⟨.ref _, upd H (s.heap.objs.size + 1) (.lst (refs (ps.mergeSort (PySem.W.dataLe false fun p => brD3 p.2)))), I.laid (t' := s.toks) (fun _ _ => PyProof.Rows.sortedAll_old) (Nat.le_succ _) ⟨hlen, out, ep, refs_each h2, he'⟩, rfl, q _ _ pm (I.hok.fresh (Nat.le_succ _))⟩
end
end BF

/-! ### dicts with nested keys: d.get(k, x), d[k], len(d), for k in d -/
namespace BF
open PySem PySem.Spec PyProof.Rows L2
theorem dn_rd {P : Program} {w : World} {H : Hp} {h : Heap} {d : Addr} {xs : List NEnt} (ok : HOk P w H h) (e : Rd H d (DN P w d xs)) (hk : KeysAt H xs) :
    xs.length ≤ sizeLine ∧ (d == sysModules) = false ∧ ∃ vs, Paired NRel xs vs ∧ h.DictOfH (nestedKind P w) d vs := by
  obtain ⟨⟨z, hd, vs, r, o, es, ep, h1, h2, h3, h4, h5⟩, _, _⟩ := e.ok ok
  refine ⟨z, hd, vs, r, o, es, ep, h1, h2, h3, h4, fun y hy => ?_, h5⟩
  obtain ⟨x, hx, e1, e2, _⟩ := paired_right r y hy
  obtain ⟨k1, k2⟩ := hk x hx
  rw [← e1, ← e2]
  exact ⟨KyIs.is ok _ _ _ k1 rfl, k2⟩
theorem dn_ty {P : Program} {w : World} {H : Hp} {s : Shared} {d : Addr} {xs : List NEnt} (ok : HOk P w H s.heap) (e : Rd H d (DN P w d xs)) : s.TypeIs (.ref d) "dict" ∧ ∀ a, Value.ref d = .ref a → ∃ ob, s.heap.get? a = some ob ∧ ob.dict = none := by
  obtain ⟨⟨z, hd, vs, r, o, es, ep, h1, h2, h3, h4, h5⟩, _, _⟩ := e.ok ok
  refine ⟨⟨o, h1, h2.1⟩, fun a ea => ?_⟩
  cases ea
  exact ⟨o, h1, h2.2.1⟩
def tGetN (P : Program) (w : World) (td : TE) (t : TA) : TE := fun σ H Q => td σ H fun x H1 => ∃ a ns, x = .ref a ∧ Rd H1 a (DN P w a ns) ∧ t σ H1 fun vs H2 => ∃ b k d ns', vs = [.ref b, d] ∧ Rd H2 a (DN P w a ns') ∧ KeysAt H2 ns' ∧ KyIs H2 k (.ref b) ∧ k.depth ≤ 8 ∧ Q ((atN ns' k).getD d) H2
def tIxN (P : Program) (w : World) (td ty : TE) : TE := fun σ H Q => td σ H fun x H1 => ty σ H1 fun y H2 => ∃ a b k ns v, x = .ref a ∧ y = .ref b ∧ Rd H2 a (DN P w a ns) ∧ KeysAt H2 ns ∧ KyIs H2 k (.ref b) ∧ k.depth ≤ 8 ∧ atN ns k = some v ∧ Q v H2
def rLenN (P : Program) (w : World) : List V → Hp → VK → Prop := fun xs H Q => ∃ a ns, xs = [.ref a] ∧ Rd H a (DN P w a ns) ∧ KeysAt H ns ∧ Q (.int (ns.length : Nat)) H
/-- the keys of the locked dict at d, in their order -/
def ItN (P : Program) (w : World) (d : Addr) (o : Obj) (ns : List NEnt) : It :=
  ⟨fun i H => H d = some (.frz o (DN P w d ns)) ∧ i < ns.length, fun i H x H' => H' = H ∧ ∃ e, ns[i]? = some e ∧ x = .ref e.2.1, fun i H => H d = some (.frz o (DN P w d ns)) ∧ ns.length ≤ i⟩
def iKeysN (P : Program) (w : World) (td : TE) : TI := fun σ H R => td σ H fun x H1 => ∃ d o ns, x = .ref d ∧ H1 d = some (.frz o (DN P w d ns)) ∧ R (ItN P w d o ns) H1
section
variable {X : Cx} {o i e value : Expr} {es : List Expr} {pos pos' apos cpos : Pos} {td ty tv : TE} {t : TA}
theorem relO_getD {a : Option V} {b : Option Value} {v : V} {u : Value} (h : RelO a b) (r : RelV v u) : RelV (a.getD v) (b.getD u) := by
  cases a with
  | none =>
    cases b with
    | none => exact r
    | some _ => exact h.elim
  | some x =>
    cases b with
    | none => exact h.elim
    | some y => exact h
theorem pe_getN (hu : X.A.units + 64 < cLine) (ho : PE X o td) (ha : PA X (e :: es) t) (hbase : attributeBase o "get" X.env (eval o X.env) = eval o X.env := by rfl)
    (hfew : ((backTo cpos (starEach (e :: es) X.env)).all (fun x => !x.1) && (backToKw cpos (keywordEach [] X.env)).all (fun x => x.1.isSome)
      && decide ((e :: es).length + ([] : List Keyword).length + (if ([] : List Keyword).isEmpty then 0 else 1) < 30)) = true := by rfl)
    (hline : (apos.endLine == cpos.line) = true := by rfl) (hs : starEach (e :: es) X.env = (false, eval e X.env) :: starEach es X.env := by rfl) (hplain : (backTo cpos (starEach es X.env)).any (·.1) = false := by rfl) :
    PE X (.Call (.Attribute o "get" apos) (e :: es) [] cpos) (tGetN X.prog X.w td t) := by
  refine ⟨fun pins s σ H Q I h => ?_⟩
  refine wpAny_Call_method_late hbase hfew hline rfl (thn (ho.run pins s σ H _ I h) fun v s1 ⟨x, H1, I1, r1, a, ns, ex, hd, q1⟩ => ?_)
  subst ex
  obtain rfl : v = Value.ref a := r1
  obtain ⟨h1, h2⟩ := dn_ty I1.hok hd
  refine ⟨"dict", "dict.get", F.plainAttrs_dict, F.slot_dict_get, F.type_dict_get, h1, h2, ?_⟩
  have hA := ha.run cpos pins s1 σ H1 _ I1 q1
  rw [hs] at hA ⊢
  refine Calls.callWith_builtin (by show (false || (backTo cpos (starEach es X.env)).any (·.1)) = false; rw [hplain] <;> rfl) (Calls.evalArgs_plain ?_)
  refine thn hA fun us s2 ⟨vs, H2, I2, r2, b, k, d, ns', ev, hd2, hk, kb, kd, q2⟩ => ?_
  subst ev
  cases r2 with
  | cons rb rr =>
    cases rr with
    | @cons _ u2 _ _ rd rr =>
      cases rr
      cases rb
      obtain ⟨z, hsm, vs2, rel, dd⟩ := dn_rd I2.hok hd2 hk
      have key : (nestedKind X.prog X.w).is s2.heap k b := ⟨KyIs.is I2.hok _ _ _ kb rfl, kd⟩
      refine call_meetsIn F.slot_dict_get dd.typeIs F.entry_dict_get (F.args_dict_get_3 _ _ _) (meetsH_dict_get_default (nestedKind X.prog X.w) a b hsm u2) ⟨show X.A.units + 1 + 8 < cLine by omega, k, vs2, key, dd, ?_⟩
      exact ⟨_, H2, I2.tok _, relO_getD (nrel_at rel k).1 rd, q2⟩
theorem pe_ixN {P : Program} {w : World} (hP : X.prog = P) (hw : X.w = w) (hu : X.A.units + 64 < cLine) (ho : PE X o td) (hi : PE X i ty) (hs : NoSl i) : PE X (.Subscript o i pos) (tIxN P w td ty) := by
  subst hP hw
  refine ⟨fun pins s σ H Q I h => ?_⟩
  refine subD_of PySem.F.slot_dict_getitem.lookup hs (thn (ho.run pins s σ H _ I h) fun u s1 ⟨x, H1, I1, rx, q1⟩ => thn (hi.run pins s1 σ H1 _ I1 q1) fun iv s2 ⟨y, H2, I2, ry, a, b, k, ns, v, ex, ey, hd, hk, kb, kd, hv, q2⟩ => ?_)
  subst ex ey
  obtain rfl : u = Value.ref a := rx
  obtain rfl : iv = Value.ref b := ry
  obtain ⟨z, hsm, vs2, rel, dd⟩ := dn_rd I2.hok hd hk
  have rv := (nrel_at rel k).1
  rw [hv] at rv
  obtain ⟨w', hw, rw'⟩ := RelO.some_of (v := v) (o := (atKey vs2 k).map (·.2)) rv
  obtain ⟨p, hp, hp2⟩ := Option.map_eq_some_iff.mp hw
  refine ⟨dd.typeIs, wpAny_getItem_heap (knd := nestedKind X.prog X.w) (show X.A.units + 1 + 8 < cLine by omega) ⟨KyIs.is I2.hok _ _ _ kb rfl, kd⟩ dd hp ?_⟩
  rw [hp2]
  exact ⟨v, H2, I2.tok _, rw', q2⟩
theorem call_len_dN : CallR X (.builtin "len") (rLenN X.prog X.w) := by
  intro pins s σ H xs us Q I r h
  obtain ⟨p, kvs, rfl, hp, hk, q⟩ := h
  obtain ⟨u, rfl, rx⟩ := vals1 r
  obtain rfl : u = .ref p := rx
  obtain ⟨z, hd, ys, rel, dd⟩ := dn_rd I.hok hp hk
  have hl : kvs.length = ys.length := Paired.length rel
  refine call_len_dictH hd dd (by rw [← hl]; rw [sizeLine_eq] at z; omega) ?_
  rw [← hl]
  exact ⟨.int ((kvs.length : Nat) : Int), H, I.tok _, ⟨_, rfl⟩, q⟩
theorem frzN {pins : List (Addr × Obj)} {σ : L2.St} {H : Hp} {s : Shared} {d : Addr} {o : Obj} {ns : List NEnt} (I : Inv X pins σ H s) (h : H d = some (.frz o (DN X.prog X.w d ns))) :
    (d == sysModules) = false ∧ s.heap.get? d = some o ∧ o.ExactDict ∧ ∃ (es : Array DictEntry) (ep : Nat), o.data = .dict es ep ∧ es.size = ns.length ∧ ∀ (i : Nat) (e : NEnt), ns[i]? = some e → ∃ en : DictEntry, es[i]? = some en ∧ en.key = .ref e.2.1 := by
  obtain ⟨hd, ⟨z, hs, xs, pr, o', es, ep, ho, hx, hdt, he, _⟩, _, _⟩ := I.hok d _ h
  rw [hd] at ho
  cases ho
  refine ⟨hs, hd, hx, es, ep, hdt, ?_, fun i e hi => ?_⟩
  · have l1 : es.size = xs.length := size_of_entries he
    have l2 : ns.length = xs.length := Paired.length pr
    omega
  · obtain ⟨b, hb, e1, e2, _⟩ := paired_get pr hi
    have q := entry_at he i
    rw [hb] at q
    exact ⟨_, q, by rw [e2]; rfl⟩
end
section
variable {P : Program} {w : World} {K : PySem.W.Frag} {tg : Expr} {d : Addr} {o : Obj} {es : Array DictEntry} {ep : Nat}
theorem turn_keysN {ns : List NEnt} (it : Addr) (hod : o.data = .dict es ep) : Turn P w K tg (ItN P w d o ns) [it] it (fun i h => h.IsKeyIter it d i ns.length ep) where
  mem := by simp
  obj := fun i h st b hb => by
    have e : b = it := by simpa using hb
    subst e
    obtain ⟨oi, e, c, dd⟩ := st
    exact ⟨oi, e, fun v z => by rw [dd] at z; cases z⟩
  keep := fun i h h' st k => st.at fun oi e => k it (by simp) oi e
  item := by
    intro X hP hw hK hc i pins s σ H E I hf st hg
    subst hP hw hK
    obtain ⟨hd, hi⟩ := hg
    obtain ⟨f0, f1, f2, f3, f4, f5⟩ := hf it (by simp)
    obtain ⟨hs, hgd, hx, es', ep', hdt, hsz, ent⟩ := frzN I hd
    obtain ⟨rfl, rfl⟩ := dict_ep hod hdt
    obtain ⟨e0, he0⟩ : ∃ p, ns[i]? = some p := ⟨ns[i], List.getElem?_eq_getElem hi⟩
    obtain ⟨en, hen, hkey⟩ := ent i e0 he0
    refine next_key_item st hgd hdt hsz hen fun h' st' sb => ?_
    have I1 : Inv X pins σ H { s with heap := h' } := I.turned (t' := s.toks) (fun b ob hb e => (sb.2 b hb).trans e) f0 f1 f3 f4 f5
    obtain ⟨oi, e, c, dd⟩ := id st'
    exact ⟨en.key, rfl, go_of (s := { s with heap := h' }) e c dd (by decide) ⟨.ref e0.2.1, H, I1, hkey, ⟨rfl, e0, he0, rfl⟩, st', fun b hb => (hf b hb).1⟩⟩
  done := by
    intro X hP hw hK hc i pins s σ H E I hf st hg
    subst hP hw hK
    obtain ⟨hd, hi⟩ := hg
    obtain ⟨f0, f1, f2, f3, f4, f5⟩ := hf it (by simp)
    obtain ⟨hs, hgd, hx, es', ep', hdt, hsz, ent⟩ := frzN I hd
    obtain ⟨rfl, rfl⟩ := dict_ep hod hdt
    exact next_key_end (I.ok.hd hc) st hgd hdt hsz hi fun h' eb => ⟨rfl, I.turned (t' := s.toks) (fun b ob hb e => eb b ob hb e) f0 f1 f3 f4 f5⟩
  self := fun A i s Q E st h => by
    refine wpAny_pyIter_slot st.typeIs F.slot_dict_keyiterator_iter (wpAny_call_entry F.slot_dict_keyiterator_iter st.typeIs F.entry_dict_keyiterator_iter ?_ (F.args_dict_keyiterator_iter_1 _))
    show wpAny _ _ (ret (.ref it)) _ _ s
    exact wpAny_pure ⟨_, rfl, "dict_keyiterator", _, st.typeIs, F.slot_dict_keyiterator_next.lookup, h⟩
end
theorem pi_keysN {X : Cx} {tg e : Expr} {td : TE} (he : PE X e td) : PI X tg e (iKeysN X.prog X.w td) := by
  refine ⟨fun pins s σ H R I h => ?_⟩
  refine thn (he.run pins s σ H _ I h) fun u s1 ⟨x, H1, I1, rx, d, o, ns, ex, hd, q⟩ => ?_
  subst ex
  obtain rfl : u = Value.ref d := rx
  obtain ⟨hs, hgd, hx, es, ep, hdt, hsz, ent⟩ := frzN I1 hd
  refine iter_keys hs hgd hx hdt (pi_one (tk := s1.toks) I1 _ (turn_keysN _ hdt) ⟨_, Heap.get?_push_size _ rfl, rfl, ?_⟩ q)
  rw [hsz] <;> rfl
end BF

/-! ### bricks counted cell by cell, in plain words -/
namespace BF
open PySem
def eqB (a b : Brick) : Bool := decide (a.x = b.x) && (decide (a.y = b.y) && decide (a.l = b.l))
theorem eqB_iff {a b : Brick} : eqB a b = true ↔ a = b := by
  obtain ⟨x, y, l⟩ := a
  obtain ⟨u, v, m⟩ := b
  simp [eqB]
theorem eqB_ne {a b : Brick} (h : a ≠ b) : eqB a b = false := by
  cases e : eqB a b with
  | false => rfl
  | true => exact absurd (eqB_iff.mp e) h
def cntB (bs : List Brick) (b : Brick) : Nat := (bs.filter fun c => eqB c b).length
theorem cnt_app (as bs : List Brick) (b : Brick) : cntB (as ++ bs) b = cntB as b + cntB bs b := by
  unfold cntB
  rw [List.filter_append, List.length_append]
theorem cnt_one (a b : Brick) : cntB [a] b = if eqB a b = true then 1 else 0 := by
  unfold cntB
  rw [List.filter_cons]
  split <;> rfl
theorem cnt_none {bs : List Brick} {b : Brick} (h : b ∉ bs) : cntB bs b = 0 := by
  unfold cntB
  rw [List.length_eq_zero_iff, List.filter_eq_nil_iff]
  intro c hc e
  exact h (eqB_iff.mp e ▸ hc)
abbrev BC := Brick × Nat
def replB (b : Brick) (v : Nat) (p : BC) : BC := if eqB p.1 b = true then (p.1, v) else p
def bumpB (l : List BC) (b : Brick) (v : Nat) : List BC := if (l.any fun p => eqB p.1 b) = true then l.map (replB b v) else l ++ [(b, v)]
def sumP (P : Brick → Bool) : List BC → Nat
  | [] => 0
  | p :: t => (if P p.1 then p.2 else 0) + sumP P t
theorem sum_app (P : Brick → Bool) : ∀ l m : List BC, sumP P (l ++ m) = sumP P l + sumP P m
  | [], m => by simp [sumP]
  | p :: l, m => by
    show (if P p.1 then p.2 else 0) + sumP P (l ++ m) = (if P p.1 then p.2 else 0) + sumP P l + sumP P m
    rw [sum_app P l m]
    omega
theorem repl_id (b : Brick) (v : Nat) : ∀ l : List BC, b ∉ l.map (·.1) → l.map (replB b v) = l
  | [], _ => rfl
  | p :: l, h => by
    rw [List.map_cons, repl_id b v l (fun z => h (by rw [List.map_cons]; exact List.mem_cons_of_mem _ z))]
    unfold replB
    rw [if_neg]
    intro e
    exact h (by rw [List.map_cons, eqB_iff.mp e]; exact List.mem_cons_self)
theorem repl_fst (b : Brick) (v : Nat) (l : List BC) : (l.map (replB b v)).map (·.1) = l.map (·.1) := by
  rw [List.map_map]
  refine List.map_congr_left fun p _ => ?_
  show (replB b v p).1 = p.1
  unfold replB
  split <;> rfl
theorem sum_repl (P : Brick → Bool) (b : Brick) (v : Nat) : ∀ l : List BC, (l.map (·.1)).Nodup → (∀ p ∈ l, p.1 = b → p.2 + 1 = v) → (l.any fun p => eqB p.1 b) = true → sumP P (l.map (replB b v)) = sumP P l + if P b then 1 else 0
  | [], _, _, h => nomatch h
  | p :: l, hn, hv, h => by
    rw [List.map_cons] at hn
    obtain ⟨n1, n2⟩ := List.nodup_cons.mp hn
    by_cases e : p.1 = b
    · have z : b ∉ l.map (·.1) := e ▸ n1
      have w := hv p List.mem_cons_self e
      rw [List.map_cons, repl_id b v l z]
      have r : replB b v p = (b, v) := by
        unfold replB
        rw [if_pos (eqB_iff.mpr e), e]
      rw [r]
      show (if P b then v else 0) + sumP P l = (if P p.1 then p.2 else 0) + sumP P l + if P b then 1 else 0
      rw [e]
      split <;> omega
    · rw [List.any_cons, eqB_ne e, Bool.false_or] at h
      have ih := sum_repl P b v l n2 (fun q hq => hv q (List.mem_cons_of_mem _ hq)) h
      have r : replB b v p = p := by
        unfold replB
        rw [if_neg (by rw [eqB_ne e]; decide)]
      rw [List.map_cons, r]
      show (if P p.1 then p.2 else 0) + sumP P (l.map (replB b v)) = (if P p.1 then p.2 else 0) + sumP P l + if P b then 1 else 0
      omega
structure CntOk (bs : List Brick) (l : List BC) : Prop where
  nd : (l.map (·.1)).Nodup
  cn : ∀ p ∈ l, p.2 = cntB bs p.1
  mem : ∀ p ∈ l, p.1 ∈ bs
  cov : ∀ b ∈ bs, ∃ p ∈ l, p.1 = b
  sum : ∀ P : Brick → Bool, sumP P l = (bs.filter P).length
theorem any_bc {l : List BC} {b : Brick} : (l.any fun p => eqB p.1 b) = true ↔ ∃ p ∈ l, p.1 = b := by
  rw [List.any_eq_true]
  exact ⟨fun ⟨p, hp, e⟩ => ⟨p, hp, eqB_iff.mp e⟩, fun ⟨p, hp, e⟩ => ⟨p, hp, eqB_iff.mpr e⟩⟩
theorem CntOk.bump {bs : List Brick} {l : List BC} (h : CntOk bs l) (b : Brick) : CntOk (bs ++ [b]) (bumpB l b (cntB bs b + 1)) := by
  have filt : ∀ P : Brick → Bool, ((bs ++ [b]).filter P).length = (bs.filter P).length + if P b then 1 else 0 := fun P => by
    rw [List.filter_append, List.length_append, List.filter_cons]
    split <;> rfl
  have cnt : ∀ c, cntB (bs ++ [b]) c = cntB bs c + if eqB b c = true then 1 else 0 := fun c => by rw [cnt_app, cnt_one]
  unfold bumpB
  by_cases a : (l.any fun p => eqB p.1 b) = true
  · rw [if_pos a]
    have hb : b ∈ bs := by
      obtain ⟨p, hp, e⟩ := any_bc.mp a
      exact e ▸ h.mem p hp
    refine ⟨by rw [repl_fst]; exact h.nd, fun p hp => ?_, fun p hp => ?_, fun c hc => ?_, fun P => ?_⟩
    · obtain ⟨q, hq, rfl⟩ := List.mem_map.mp hp
      unfold replB
      by_cases e : q.1 = b
      · rw [if_pos (eqB_iff.mpr e)]
        show cntB bs b + 1 = cntB (bs ++ [b]) q.1
        rw [cnt, e, if_pos (eqB_iff.mpr rfl)]
      · rw [if_neg (by rw [eqB_ne e]; decide), cnt, if_neg (by rw [eqB_ne fun z => e z.symm]; decide), h.cn q hq]
        rfl
    · obtain ⟨q, hq, rfl⟩ := List.mem_map.mp hp
      refine List.mem_append.mpr (.inl ?_)
      have z := h.mem q hq
      unfold replB
      split <;> exact z
    · have hc' : c ∈ bs := by
        rcases List.mem_append.mp hc with z | z
        · exact z
        · rw [List.mem_singleton.mp z]
          exact hb
      obtain ⟨p, hp, e⟩ := h.cov c hc'
      refine ⟨replB b (cntB bs b + 1) p, List.mem_map.mpr ⟨p, hp, rfl⟩, ?_⟩
      unfold replB
      split <;> exact e
    · rw [sum_repl P b _ l h.nd (fun p hp e => by rw [h.cn p hp, e]) a, h.sum P, filt]
  · rw [if_neg a]
    have nb : b ∉ bs := fun z => a (any_bc.mpr (h.cov b z))
    refine ⟨?_, fun p hp => ?_, fun p hp => ?_, fun c hc => ?_, fun P => ?_⟩
    · rw [List.map_append]
      refine List.nodup_append.mpr ⟨h.nd, by simp, fun x hx y hy => ?_⟩
      have ey : y = b := by simpa using hy
      subst ey
      intro e
      subst e
      obtain ⟨p, hp, rfl⟩ := List.mem_map.mp hx
      exact nb (h.mem p hp)
    · rcases List.mem_append.mp hp with z | z
      · have ne : b ≠ p.1 := fun e => nb (e ▸ h.mem p z)
        rw [cnt, if_neg (by rw [eqB_ne ne]; decide), h.cn p z]
        rfl
      · rw [List.mem_singleton.mp z]
        show cntB bs b + 1 = cntB (bs ++ [b]) b
        rw [cnt, if_pos (eqB_iff.mpr rfl)]
    · rcases List.mem_append.mp hp with z | z
      · exact List.mem_append.mpr (.inl (h.mem p z))
      · rw [List.mem_singleton.mp z]
        exact List.mem_append.mpr (.inr List.mem_cons_self)
    · rcases List.mem_append.mp hc with z | z
      · obtain ⟨p, hp, e⟩ := h.cov c z
        exact ⟨p, List.mem_append.mpr (.inl hp), e⟩
      · exact ⟨_, List.mem_append.mpr (.inr List.mem_cons_self), (List.mem_singleton.mp z).symm⟩
    · rw [sum_app, h.sum P, filt, cnt_none nb]
      show (bs.filter P).length + ((if P b then 0 + 1 else 0) + 0) = (bs.filter P).length + if P b then 1 else 0
      split <;> rfl
theorem cnt_nil : CntOk [] [] := ⟨List.nodup_nil, fun p h => (nomatch h), fun p h => (nomatch h), fun p h => (nomatch h), fun _ => rfl⟩
theorem sum_const (P : Brick → Bool) (k : Nat) : ∀ l : List BC, (∀ p ∈ l, p.2 = k) → sumP P l = (l.filter fun p => P p.1).length * k
  | [], _ => by simp [sumP]
  | p :: l, h => by
    have ih := sum_const P k l fun q hq => h q (List.mem_cons_of_mem _ hq)
    show (if P p.1 then p.2 else 0) + sumP P l = _
    rw [ih, h p List.mem_cons_self, List.filter_cons]
    split
    · rw [List.length_cons, Nat.succ_mul]
      omega
    · omega
/-- how many cells of a floor are within a part of it -/
theorem filt_cols {m n a b : Nat} {x y : Int} {p : Int × Int → Bool} (hp : ∀ c : Int × Int, p c = true ↔ (x ≤ c.1 ∧ c.1 < x + (a : Int)) ∧ y ≤ c.2 ∧ c.2 < y + (b : Int)) (hx : 0 ≤ x) (hxa : x + (a : Int) ≤ (m : Int)) (hy : 0 ≤ y) (hyb : y + (b : Int) ≤ (n : Int)) :
    ((colsL 0 0 m n).filter p).length = a * b := by
  have pm : ((colsL 0 0 m n).filter p).Perm (colsL x y a b) := by
    refine List.perm_iff_count.mpr fun c => ?_
    rw [cols_count]
    by_cases h : p c = true
    · have h' := (hp c).mp h
      rw [List.count_filter h, cols_count, if_pos h', if_pos (by omega)]
    · have h' := mt (hp c).mpr h
      rw [if_neg h']
      refine List.count_eq_zero_of_not_mem fun z => h (List.mem_filter.mp z).2
  rw [pm.length_eq, cols_len]
end BF

/-! ### how many lie, how many stand -/
namespace BF
theorem prod_div {a b x y : Int} (hx : 0 ≤ x) (hy : 0 ≤ y) (ha : 0 < a) (hb : 0 < b) (h1 : x % a = 0) (h2 : y % b = 0) : ∃ k, 0 ≤ k ∧ x * y = a * b * k := by
  refine ⟨x / a * (y / b), Int.mul_nonneg (Int.ediv_nonneg hx (Int.le_of_lt ha)) (Int.ediv_nonneg hy (Int.le_of_lt hb)), ?_⟩
  have e1 : x = a * (x / a) := (Int.mul_ediv_cancel' (Int.dvd_of_emod_eq_zero h1)).symm
  have e2 : y = b * (y / b) := (Int.mul_ediv_cancel' (Int.dvd_of_emod_eq_zero h2)).symm
  calc x * y = (a * (x / a)) * (b * (y / b)) := by rw [← e1, ← e2]
    _ = a * b * (x / a * (y / b)) := by
      rw [Int.mul_assoc, Int.mul_assoc, ← Int.mul_assoc (x / a), Int.mul_comm (x / a) b, Int.mul_assoc]
structure Many (L W f s : Int) (k1 k2 : Int) : Prop where
  n1 : 0 ≤ k1
  n2 : 0 ≤ k2
  lie : (planP L W f s).1 * (planP L W f s).2 = f * s * k1
  all : L * W = f * s * (k1 + k2)
  eq : f = s → k2 = 0
theorem many {L W f s : Int} (hL : 0 < L) (hW : 0 < W) (hf : 0 < f) (hs : 0 < s) (fr : Free L W f s) : ∃ k1 k2, Many L W f s k1 k2 := by
  have z := zones hL hW hf hs fr
  have b1 := z.b1
  have l1 := z.l1
  obtain ⟨k1, n1, e1⟩ := prod_div z.a0 z.u0 hf hs z.fa z.su
  obtain ⟨k2, n2, e2⟩ := prod_div (x := L - bgP L W f s) (y := W - lwP L W f s) (by omega) (by omega) hs hf z.sb z.fl
  have e3 : L * W = f * s * (k1 + k2) := by
    rw [← z.area, e1, e2, Int.mul_add, Int.mul_comm s f]
  refine ⟨k1, k2, n1, n2, e1, e3, fun e => ?_⟩
  obtain ⟨x1, x2⟩ := z.same e
  rw [x1, x2, e3, Int.mul_add] at e1
  have p := Int.mul_pos hf hs
  have q : f * s * k2 = 0 := by omega
  rcases Int.mul_eq_zero.mp q with h | h
  · omega
  · exact h
theorem Many.facts {L W f s k1 k2 : Int} (m : Many L W f s k1 k2) (hf : 0 < f) (hs : 0 < s) : L * W / (f * s) = k1 + k2 ∧ lieP L W f s = k1 := by
  have p := Int.mul_pos hf hs
  have e1 : L * W / (f * s) = k1 + k2 := by
    rw [m.all]
    exact Int.mul_ediv_cancel_left _ (Int.ne_of_gt p)
  refine ⟨e1, ?_⟩
  unfold lieP
  split
  · rename_i h
    rw [e1, m.eq h, Int.add_zero]
  · rw [m.lie]
    exact Int.mul_ediv_cancel_left _ (Int.ne_of_gt p)
noncomputable def brsL (L W f s : Int) (cs : List (Int × Int)) : List Brick := cs.map (brickP L W f s)
theorem cols_cell {m n : Nat} {c : Int × Int} (h : c ∈ colsL 0 0 m n) : cellB (m : Int) (n : Int) c = true := by
  have z := List.count_pos_iff.mpr h
  rw [cols_count] at z
  split at z
  · rename_i q
    exact cell_iff.mpr (by omega)
  · exact absurd z (by decide)
section
variable {m n : Nat} {f s : Int} (hL : 0 < (m : Int)) (hW : 0 < (n : Int)) (hf : 0 < f) (hs : 0 < s) (fr : Free (m : Int) (n : Int) f s)
include hL hW hf hs fr
theorem cnt_brick {b : Brick} (hb : b ∈ brsL m n f s (colsL 0 0 m n)) : (cntB (brsL m n f s (colsL 0 0 m n)) b : Int) = f * s := by
  obtain ⟨c0, h0, rfl⟩ := List.mem_map.mp hb
  have hc0 := cols_cell h0
  have ok := brick_ok hL hW hf hs fr hc0
  unfold cntB brsL
  rw [List.filter_map, List.length_map]
  have e : (colsL 0 0 m n).filter ((fun c => eqB c (brickP m n f s c0)) ∘ brickP m n f s) = (colsL 0 0 m n).filter fun c => covB f s c (brickP m n f s c0) := by
    refine List.filter_congr fun c hc => ?_
    have i := brick_iff hL hW hf hs fr hc0 (cols_cell hc)
    show eqB (brickP m n f s c) (brickP m n f s c0) = covB f s c (brickP m n f s c0)
    exact Bool.eq_iff_iff.mpr (eqB_iff.trans i)
  rw [e]
  generalize brickP m n f s c0 = b at ok
  have lo0 : 0 ≤ b.lo f s := by unfold Brick.lo; split <;> omega
  have hi0 : 0 ≤ b.hi f s := by unfold Brick.hi; split <;> omega
  obtain ⟨a, ha⟩ := Int.eq_ofNat_of_zero_le lo0
  obtain ⟨d, hd⟩ := Int.eq_ofNat_of_zero_le hi0
  have x0 := ok.x0
  have x1 := ok.x1
  have y0 := ok.y0
  have y1 := ok.y1
  rw [ha] at x1
  rw [hd] at y1
  rw [filt_cols (a := a) (b := d) (x := b.x) (y := b.y) (fun c => by rw [cov_iff, ha, hd]) x0 x1 y0 y1]
  have e2 : b.lo f s * b.hi f s = f * s := by
    unfold Brick.lo Brick.hi
    split
    · rfl
    · exact Int.mul_comm _ _
  rw [← e2, ha, hd]
  exact Int.natCast_mul a d
theorem lie_cells : ((brsL m n f s (colsL 0 0 m n)).filter (·.l)).length = (if f = s then m * n else ((planP m n f s).1 * (planP m n f s).2).toNat) := by
  have z := zones hL hW hf hs fr
  unfold brsL
  rw [List.filter_map, List.length_map]
  by_cases e : f = s
  · rw [if_pos e]
    rw [show (colsL 0 0 m n).filter ((fun x => x.l) ∘ brickP m n f s) = colsL 0 0 m n from List.filter_eq_self.mpr fun c hc => (brick_ok hL hW hf hs fr (cols_cell hc)).al e, cols_len]
  · rw [if_neg e]
    obtain ⟨a, ha⟩ := Int.eq_ofNat_of_zero_le z.a0
    obtain ⟨d, hd⟩ := Int.eq_ofNat_of_zero_le z.u0
    have a1 := z.a1
    have u1 := z.u1
    have e2 : (colsL 0 0 m n).filter ((·.l) ∘ brickP m n f s) = (colsL 0 0 m n).filter fun c => (decide (0 ≤ c.1) && decide (c.1 < 0 + (a : Int))) && (decide (0 ≤ c.2) && decide (c.2 < 0 + (d : Int))) := by
      refine List.filter_congr fun c hc => ?_
      obtain ⟨⟨q1, q2⟩, q3, q4⟩ := cell_iff.mp (cols_cell hc)
      show (brickP m n f s c).l = _
      rw [brick_is, ha, hd]
      by_cases h : c.1 < (a : Int) ∧ c.2 < (d : Int)
      · rw [if_pos h]
        refine (Bool.and_eq_true_iff.mpr ⟨Bool.and_eq_true_iff.mpr ⟨?_, ?_⟩, Bool.and_eq_true_iff.mpr ⟨?_, ?_⟩⟩).symm <;> exact decide_eq_true (by omega)
      · rw [if_neg h]
        show decide (f = s) = _
        rw [decide_eq_false e]
        refine (Bool.eq_false_iff.mpr fun z => h ?_).symm
        simp only [Bool.and_eq_true, decide_eq_true_eq] at z
        omega
    rw [e2, filt_cols (a := a) (b := d) (x := 0) (y := 0) (fun c => by simp only [Bool.and_eq_true, decide_eq_true_eq]) (Int.le_refl _) (by omega) (Int.le_refl _) (by omega), ha, hd, ← Int.natCast_mul, Int.toNat_natCast]
theorem count_all {l : List BC} (h : CntOk (brsL m n f s (colsL 0 0 m n)) l) : (l.length : Int) = (m : Int) * n / (f * s) ∧ ((l.filter fun p => p.1.l).length : Int) = lieP m n f s ∧ ∀ p ∈ l, (p.2 : Int) = f * s := by
  obtain ⟨k1, k2, M⟩ := many hL hW hf hs fr
  obtain ⟨e1, e2⟩ := M.facts hf hs
  have p := Int.mul_pos hf hs
  have cn : ∀ q ∈ l, (q.2 : Int) = f * s := fun q hq => by
    rw [h.cn q hq]
    exact cnt_brick hL hW hf hs fr (h.mem q hq)
  obtain ⟨d, hd⟩ := Int.eq_ofNat_of_zero_le (Int.le_of_lt p)
  have cn' : ∀ q ∈ l, q.2 = d := fun q hq => by
    have := cn q hq
    omega
  have s1 := sum_const (fun _ => true) d l cn'
  have s2 := sum_const (fun b => b.l) d l cn'
  rw [h.sum] at s1 s2
  rw [List.filter_eq_self.mpr fun _ _ => rfl, List.filter_eq_self.mpr fun _ _ => rfl] at s1
  have len : (brsL m n f s (colsL 0 0 m n)).length = m * n := by
    unfold brsL
    rw [List.length_map, cols_len]
  rw [len] at s1
  rw [lie_cells hL hW hf hs fr] at s2
  have can : ∀ {x k : Int}, x * (d : Int) = f * s * k → x = k := fun {x k} e => by
    rw [hd, Int.mul_comm (d : Int) k] at e
    exact Int.eq_of_mul_eq_mul_right (by omega) e
  have a1 : (l.length : Int) = k1 + k2 := can (by rw [← M.all, ← Int.natCast_mul, ← s1, Int.natCast_mul])
  refine ⟨by rw [a1, e1], ?_, cn⟩
  rw [e2]
  refine can ?_
  rw [← Int.natCast_mul, ← s2]
  by_cases e : f = s
  · rw [if_pos e, Int.natCast_mul, M.all, M.eq e, Int.add_zero]
  · rw [if_neg e, M.lie, Int.toNat_of_nonneg (Int.mul_nonneg (Int.le_of_lt p) M.n1)]
end
end BF

/-! ### k02: how many lie, how many stand: the walk -/
namespace BF
open PySem PySem.Spec PyProof.Rows L2
def kM (b : Brick) : NestedKey := .tup [.tup [.num b.x, .num b.y], .num (if b.l = true then 1 else 0)]
theorem kM_inj {a b : Brick} : kM a = kM b ↔ a = b := by
  refine ⟨fun h => ?_, fun h => by rw [h]⟩
  obtain ⟨x, y, l⟩ := a
  obtain ⟨u, v, m⟩ := b
  unfold kM at h
  injection h with h
  injection h with h1 h
  injection h with h3 h
  injection h1 with h1
  injection h1 with h1 h2
  injection h2 with h2 _
  injection h1 with h1
  injection h2 with h2
  injection h3 with h3
  have h1 : x = u := h1
  have h2 : y = v := h2
  subst h1 h2
  have h3 : (if l = true then (1 : Int) else 0) = if m = true then 1 else 0 := h3
  cases l <;> cases m <;> first | rfl | exact absurd h3 (by decide)
theorem kM_depth (b : Brick) : (kM b).depth ≤ 8 := by
  simp [kM, NestedKey.depth, NestedKey.depthAll]
/-- a found brick's tuple -/
def BT (H : Hp) (p : Addr) (b : Brick) : Prop := ∃ p1, H p = some (.tup [.ref p1, .bl b.l]) ∧ H p1 = some (.tup (cellV (b.x, b.y)))
theorem BT.mono {H H' : Hp} {p : Addr} {b : Brick} (h : BT H p b) (sm : ∀ b xs, H b = some (.tup xs) → H' b = some (.tup xs)) : BT H' p b := let ⟨p1, h1, h2⟩ := h; ⟨p1, sm _ _ h1, sm _ _ h2⟩
theorem BT.key {H : Hp} {p : Addr} {b : Brick} (h : BT H p b) : KyIs H (kM b) (.ref p) := let ⟨_, h1, h2⟩ := h; .tup h1 (.cons (.tup h2 (.cons (.int _) (.cons (.int _) .nil))) (.cons (.bl _) .nil))
abbrev QE := Addr × BC
def ents2 (qs : List QE) : List NEnt := qs.map fun q => (kM q.2.1, q.1, V.int (q.2.2 : Nat))
def BTs (H : Hp) (qs : List QE) : Prop := ∀ q ∈ qs, BT H q.1 q.2.1
theorem BTs.keys {H : Hp} {qs : List QE} (h : BTs H qs) : KeysAt H (ents2 qs) := fun x hx => by
  obtain ⟨q, hq, rfl⟩ := List.mem_map.mp hx
  exact ⟨(h q hq).key, kM_depth _⟩
theorem ents2_any (qs : List QE) (b : Brick) : ((ents2 qs).any fun x => decide (x.1 = kM b)) = ((vals qs).any fun p => eqB p.1 b) := by
  unfold ents2 vals
  rw [List.any_map, List.any_map]
  congr 1
  funext p
  show decide (kM p.2.1 = kM b) = eqB p.2.1 b
  exact Bool.eq_iff_iff.mpr (by rw [decide_eq_true_eq]; exact kM_inj.trans eqB_iff.symm)
theorem ents2_get {bs : List Brick} : ∀ {qs : List QE} (b : Brick), (∀ p ∈ vals qs, p.2 = cntB bs p.1) → atN (ents2 qs) (kM b) = if ((vals qs).any fun p => eqB p.1 b) = true then some (V.int (cntB bs b : Nat)) else none
  | [], b, _ => rfl
  | q :: qs, b, h => by
    have ih := ents2_get (bs := bs) (qs := qs) b fun p hp => h p (List.mem_cons_of_mem _ hp)
    have h0 := h q.2 List.mem_cons_self
    unfold atN ents2 at ih ⊢
    rw [List.map_cons, List.find?_cons]
    show (match decide (kM q.2.1 = kM b) with | true => some _ | false => _).map _ = if (eqB q.2.1 b || _) = true then _ else _
    by_cases e : q.2.1 = b
    · rw [decide_eq_true (kM_inj.mpr e), eqB_iff.mpr e]
      show some (V.int (q.2.2 : Nat)) = if true = true then _ else _
      rw [if_pos rfl, h0, e]
    · rw [decide_eq_false (fun z => e (kM_inj.mp z)), eqB_ne e, Bool.false_or]
      exact ih
theorem ents2_put (qs : List QE) (a : Addr) (b : Brick) (v : Nat) : ∃ rs, putN (ents2 qs) (kM b) a (.int (v : Nat)) = ents2 rs ∧ vals rs = bumpB (vals qs) b v ∧ ∀ r ∈ rs, (∃ q ∈ qs, r.1 = q.1 ∧ r.2.1 = q.2.1) ∨ (r.1 = a ∧ r.2.1 = b) := by
  unfold putN bumpB
  rw [ents2_any]
  split
  · refine ⟨qs.map fun q => (q.1, replB b v q.2), ?_, ?_, fun r hr => ?_⟩
    · unfold ents2
      rw [List.map_map, List.map_map]
      refine List.map_congr_left fun q _ => ?_
      show (if kM q.2.1 = kM b then (kM q.2.1, q.1, V.int (v : Nat)) else (kM q.2.1, q.1, V.int (q.2.2 : Nat))) = (kM (replB b v q.2).1, q.1, V.int ((replB b v q.2).2 : Nat))
      unfold replB
      by_cases e : q.2.1 = b
      · rw [if_pos (kM_inj.mpr e), if_pos (eqB_iff.mpr e)]
      · rw [if_neg (fun z => e (kM_inj.mp z)), if_neg (by rw [eqB_ne e]; decide)]
    · unfold vals
      rw [List.map_map, List.map_map]
      rfl
    · obtain ⟨q, hq, rfl⟩ := List.mem_map.mp hr
      refine .inl ⟨q, hq, rfl, ?_⟩
      show (replB b v q.2).1 = q.2.1
      unfold replB
      split <;> rfl
  · refine ⟨qs ++ [(a, (b, v))], ?_, ?_, fun r hr => ?_⟩
    · unfold ents2
      rw [List.map_append]
      rfl
    · unfold vals
      rw [List.map_append]
      rfl
    · rcases List.mem_append.mp hr with z | z
      · exact .inl ⟨r, z, rfl, rfl⟩
      · rw [List.mem_singleton.mp z]
        exact .inr ⟨rfl, rfl⟩
/-- a comprehension over the keys of a locked dict -/
theorem lc_keysN {P : Program} {w : World} {d : Addr} {o : Obj} {ns : List NEnt} {g : TG} {tt : TT} {te : TE} {vs : List Nat} {σ : L2.St} {H1 : Hp} {D : Addr} {Qd : Hp → Prop} (Pv : Nat → Hp → Prop) (h0 : Pv 0 (upd H1 D (.lst []))) (hl : ∀ i H, i ≤ ns.length → Pv i H → H d = some (.frz o (DN P w d ns)))
    (hs : ∀ i e H, ns[i]? = some e → Pv i H → g (.ref e.2.1) (wipe σ vs) H fun σ2 H2 => wipe σ2 vs = wipe σ vs ∧ tt σ2 H2 fun b H3 =>
      if b = true then te σ2 H3 fun y H4 => ∃ acc, H4 D = some (.lst acc) ∧ acc.length < sizeLine ∧ Pv (i + 1) (upd H4 D (.lst (acc ++ [y]))) else Pv (i + 1) H3) (hd : ∀ H, Pv ns.length H → Qd H) :
    ∃ Wt : Nat → Nat → Hp → Prop, (∃ m, Wt 0 m (upd H1 D (.lst []))) ∧ ∀ i m H, Wt i m H →
      ((ItN P w d o ns).stop i H ∧ Qd H) ∨ ((ItN P w d o ns).go i H ∧ ∃ Nx : Hp → Prop, (∀ H', Nx H' → ∃ m', m' < m ∧ Wt (i + 1) m' H') ∧ ∀ x H', (ItN P w d o ns).yld i H x H' → g x (wipe σ vs) H' fun σ2 H2 => wipe σ2 vs = wipe σ vs ∧ tt σ2 H2 fun b H3 =>
        if b = true then te σ2 H3 fun y H4 => ∃ acc, H4 D = some (.lst acc) ∧ acc.length < sizeLine ∧ Nx (upd H4 D (.lst (acc ++ [y]))) else Nx H3) := by
  refine ⟨fun i m H => m = ns.length - i ∧ i ≤ ns.length ∧ Pv i H, ⟨ns.length, by simp, Nat.zero_le _, h0⟩, ?_⟩
  rintro i m H ⟨rfl, hi, p⟩
  have q := hl i H hi p
  by_cases hlt : i < ns.length
  · refine .inr ⟨⟨q, hlt⟩, Pv (i + 1), fun H' p' => ⟨ns.length - (i + 1), by omega, rfl, hlt, p'⟩, fun x H' y => ?_⟩
    obtain ⟨e, e0, he0, rfl⟩ := y
    subst e
    exact hs i e0 _ he0 p
  · have e : i = ns.length := by omega
    subst e
    exact .inl ⟨⟨q, Nat.le_refl _⟩, hd H p⟩
end BF

/-! ### k02: how many lie, how many stand: the walk -/
namespace BF
open PySem PySem.Spec PyProof.Rows L2
inductive SpCounts (K : PySem.W.Frag) : Sp where
  | mk {t : Addr} {L W f s : Int} {H : Hp} {Q : VK} {E : XK} (ht : SqT K H t [.int L, .int W, .int f, .int s]) (hL : Sz L) (hW : Sz W) (hf : Sz f) (hs : Sz s) (fr : Free L W f s) (q : ∀ H', Same H H' → Q (.bl true) H') : SpCounts K [.ref t] H Q E
inductive CoI (P : Program) (w : World) (t l1 D : Addr) (m n : Nat) (f s : Int) (H : Hp) (i : Nat) : L2.St → Hp → Prop where
  | mk {H' : Hp} {qs : List QE} {y3 y4 y5 : Option V} (sm : Same H H') (eD : H' D = some (DN P w D (ents2 qs))) (hb : BTs H' qs) (hv : CntOk (brsL m n f s (colsL 0 0 i n)) (vals qs)) :
    CoI P w t l1 D m n f s H i [some (.ref t), some (.ref l1), some (.ref D), y3, y4, y5, none, none] H'
inductive CoJ (P : Program) (w : World) (t l1 D : Addr) (m n : Nat) (f s : Int) (H : Hp) (i j : Nat) : L2.St → Hp → Prop where
  | mk {H' : Hp} {qs : List QE} {y4 y5 : Option V} (sm : Same H H') (eD : H' D = some (DN P w D (ents2 qs))) (hb : BTs H' qs) (hv : CntOk (brsL m n f s (colsL 0 0 i n ++ colL (0 + (i : Int)) 0 j)) (vals qs)) :
    CoJ P w t l1 D m n f s H i j [some (.ref t), some (.ref l1), some (.ref D), some (.int (0 + (i : Int))), y4, y5, none, none] H'
theorem len_le : ∀ l : List BC, (∀ p ∈ l, 1 ≤ p.2) → l.length ≤ sumP (fun _ => true) l
  | [], _ => Nat.le_refl _
  | p :: l, h => by
    have ih := len_le l fun q hq => h q (List.mem_cons_of_mem _ hq)
    have h0 := h p List.mem_cons_self
    show l.length + 1 ≤ p.2 + sumP (fun _ => true) l
    omega
theorem CntOk.len {bs : List Brick} {l : List BC} (h : CntOk bs l) : l.length ≤ bs.length := by
  refine Nat.le_trans (len_le l fun p hp => ?_) ?_
  · rw [h.cn p hp]
    unfold cntB
    exact List.length_pos_of_mem (List.mem_filter.mpr ⟨h.mem p hp, eqB_iff.mpr rfl⟩)
  · rw [h.sum]
    exact List.length_filter_le _ _
theorem ents2_at {qs : List QE} {i : Nat} {e : NEnt} (h : (ents2 qs)[i]? = some e) : ∃ q, qs[i]? = some q ∧ q ∈ qs ∧ e.2.1 = q.1 := by
  unfold ents2 at h
  rw [List.getElem?_map] at h
  cases z : qs[i]? with
  | none => rw [z] at h; cases h
  | some q =>
    rw [z] at h
    cases h
    exact ⟨q, rfl, List.mem_of_getElem? z, rfl⟩
theorem ents2_len (qs : List QE) : (ents2 qs).length = qs.length := List.length_map _
theorem if_noS {T : TT} {R U : TS} {D : Ends} {σ : L2.St} {H : Hp} (M : Hp → Prop) (hT : ∀ r : Bool → Hp → Prop, (∀ H', M H' → r false H') → T σ H r) (hU : ∀ H', M H' → U D σ H') : tSeq (tIfS T R tNext) U D σ H :=
  hT _ (fun H' m => by
    show if false = true then _ else _
    exact iteF (hU H' m))
section
variable {P : Program} {w : World} {K : PySem.W.Frag} {mg : Str → Option Value} {base : Heap}
theorem H__law_counts_right (p : Pl K mg "_law_counts_right" s__law_counts_right) (B : Bi mg) (h_lying : Has P w K mg base CX0 5 "lying" ["length", "width", "first", "second"] SpLying) (h_standing : Has P w K mg base CX0 6 "standing" ["length", "width", "first", "second"] SpStanding)
    (h__law_whole : Has P w K mg base CX0 1 "_law_whole" ["_law_found"] (SpIsNumber K)) (h__law_brick : Has P w K mg base CX0 6 "_law_brick" ["_law_four_here", "_law_cell"] (SpLBrick K)) :
    Has P w K mg base CX0 7 "_law_counts_right" ["_law_four_here"] (SpCounts K) := by
  refine p.mk0 sc__law_counts_right (fun _ _ _ _ _ _ us hl => match us, hl with | [_], _ => rfl) (fun vs H Q E h => ?_) (fun f cdv A outer s H vs Q E hr h => ?_)
  · cases h; rfl
  · obtain @⟨t, L, W, fi, se, _, _, _, ht, hL, hW, hf, hs, fr, q⟩ := h
    refine ⟨_, (pss_cons (ps_set (i := 1) sc__law_counts_right.nd rfl (Or.inl rfl) (pe_lst (pa_cons (pe_fn h_lying (hr.mono (by decide)) pass0 (pa_cons (pe_ix (r := rIxT K) ix_tup (pv 0) pe_int (fun _ _ => rfl)) (pa_cons (pe_ix (r := rIxT K) ix_tup (pv 0) pe_int (fun _ _ => rfl)) (pa_cons (pe_ix (r := rIxT K) ix_tup (pv 0) pe_int (fun _ _ => rfl)) (pa_cons (pe_ix (r := rIxT K) ix_tup (pv 0) pe_int (fun _ _ => rfl)) pa_nil))))) (pa_cons (pe_fn h_standing (hr.mono (by decide)) pass0 (pa_cons (pe_ix (r := rIxT K) ix_tup (pv 0) pe_int (fun _ _ => rfl)) (pa_cons (pe_ix (r := rIxT K) ix_tup (pv 0) pe_int (fun _ _ => rfl)) (pa_cons (pe_ix (r := rIxT K) ix_tup (pv 0) pe_int (fun _ _ => rfl)) (pa_cons (pe_ix (r := rIxT K) ix_tup (pv 0) pe_int (fun _ _ => rfl)) pa_nil))))) pa_nil))))
      (pss_cons (ps_if (pt_not (pt_val (pe_callB (cr_all rfl) (by rfl) B.all (by decide +kernel) (pa_cons (pe_lc (own := [("_law_count", 7)]) (by rfl) sc__law_counts_right.nd (pi_list (pv 1)) (blkOk_by (own := [("_law_count", 7)]) (N := ["_law_four_here", "_law_counts", "_law_found", "_law_along", "_law_up", "_law_brick_here", "_law_lies", "_law_count"]) (sc := defScope s__law_counts_right) (by decide +kernel)) (fun _ _ _ _ _ => (pg_name (i := 7) sc__law_counts_right.nd rfl (Or.inl rfl))) (fun _ _ _ _ _ => pts_nil) (fun _ _ _ _ _ => (pe_and (pe_fn h__law_whole (hr.mono (by decide)) pass0 (pa_cons (pv 7) pa_nil)) (pe_one (pe_cmpR op_ge (pv 7) pe_int (nomark _)))))) pa_nil)))) (pss_one (ps_ret pe_bl)) pss_nil)
      (pss_cons (ps_if (PW.pt (pw_or (pt_cmpR op_ne (pe_op op_mulX (pe_op op_mulX (pe_callB (cr_sum rfl) (by rfl) B.sum (by decide +kernel) (pa_cons (pv 1) pa_nil)) (pe_ix (r := rIxT K) ix_tup (pv 0) pe_int (fun _ _ => rfl))) (pe_ix (r := rIxT K) ix_tup (pv 0) pe_int (fun _ _ => rfl))) (pe_op op_mulX (pe_ix (r := rIxT K) ix_tup (pv 0) pe_int (fun _ _ => rfl)) (pe_ix (r := rIxT K) ix_tup (pv 0) pe_int (fun _ _ => rfl))) (nomark _)) (pw_or1 (PW.pt (pw_and (pt_cmpR op_eq (pe_ix (r := rIxT K) ix_tup (pv 0) pe_int (fun _ _ => rfl)) (pe_ix (r := rIxT K) ix_tup (pv 0) pe_int (fun _ _ => rfl)) (nomark _)) (pw_and1 (pt_cmpR op_gt (pe_ix (r := rIxL K) ix_list (pv 1) pe_int (fun _ _ => rfl)) pe_int (nomark _)))))))) (pss_one (ps_ret pe_bl)) pss_nil)
      (pss_cons (ps_if (pt_cmpR op_gt (pe_op op_mulX (pe_ix (r := rIxT K) ix_tup (pv 0) pe_int (fun _ _ => rfl)) (pe_ix (r := rIxT K) ix_tup (pv 0) pe_int (fun _ _ => rfl))) pe_int (nomark _)) (pss_one (ps_ret pe_bl)) pss_nil)
      (pss_cons (ps_set (i := 2) sc__law_counts_right.nd rfl (Or.inr rfl) pe_dnewN)
      (pss_cons (ps_for PassesOwn.never (by rfl) (pi_range1 (by rfl) B.range (pa_cons (pe_ix (r := rIxT K) ix_tup (pv 0) pe_int (fun _ _ => rfl)) pa_nil)) (pg_name (i := 3) sc__law_counts_right.nd rfl (Or.inl rfl)) (pss_one (ps_for PassesOwn.never (by rfl) (pi_range1 (by rfl) B.range (pa_cons (pe_ix (r := rIxT K) ix_tup (pv 0) pe_int (fun _ _ => rfl)) pa_nil)) (pg_name (i := 4) sc__law_counts_right.nd rfl (Or.inl rfl)) (pss_cons (ps_set (i := 5) sc__law_counts_right.nd rfl (Or.inl rfl) (pe_fn h__law_brick (hr.mono (by decide)) pass0 (pa_cons (pv 0) (pa_cons (pe_tup (pa_cons (pv 3) (pa_cons (pv 4) pa_nil))) pa_nil))))
      (pss_cons (ps_if (pt_cmpR op_isN (pv 5) pe_non (nomark _)) (pss_one (ps_ret pe_bl)) pss_nil)
      (pss_one (ps_dputN hr.units (pv 2) (pv 5) (pe_op op_add (pe_getN hr.units (pv 2) (pa_cons (pv 5) (pa_cons pe_int pa_nil))) pe_int))))))))
      (pss_cons (ps_set (i := 6) sc__law_counts_right.nd rfl (Or.inl rfl) (pe_callB (r := rLen2 K) call_len_seq (by rfl) B.len PySem.boot_len (pa_cons (pe_lock (pe_lc (own := [("_law_brick_here", 5)]) (by rfl) sc__law_counts_right.nd (pi_keysN (pv 2)) (blkOk_by (own := [("_law_brick_here", 5)]) (N := ["_law_four_here", "_law_counts", "_law_found", "_law_along", "_law_up", "_law_brick_here", "_law_lies", "_law_count"]) (sc := defScope s__law_counts_right) (by decide +kernel)) (fun _ _ _ _ _ => (pg_name (i := 5) sc__law_counts_right.nd rfl (Or.inl rfl))) (fun _ _ _ _ _ => pts_one (pt_val (pe_ix (r := rIxT K) ix_tup (pv 5) pe_int (fun _ _ => rfl)))) (fun _ _ _ _ _ => (pv 5)))) pa_nil)))
      (pss_cons (ps_if (pt_val (pe_callB (cr_any rfl) (by rfl) B.any (by decide +kernel) (pa_cons (pe_lock (pe_lc (own := [("_law_brick_here", 5)]) (by rfl) sc__law_counts_right.nd (pi_keysN (pv 2)) (blkOk_by (own := [("_law_brick_here", 5)]) (N := ["_law_four_here", "_law_counts", "_law_found", "_law_along", "_law_up", "_law_brick_here", "_law_lies", "_law_count"]) (sc := defScope s__law_counts_right) (by decide +kernel)) (fun _ _ _ _ _ => (pg_name (i := 5) sc__law_counts_right.nd rfl (Or.inl rfl))) (fun _ _ _ _ _ => pts_nil) (fun _ _ _ _ _ => (pe_cmpR op_ne (pe_ixN (P := P) (w := w) rfl rfl hr.units (pv 2) (pv 5) (fun _ _ => rfl)) (pe_op op_mulX (pe_ix (r := rIxT K) ix_tup (pv 0) pe_int (fun _ _ => rfl)) (pe_ix (r := rIxT K) ix_tup (pv 0) pe_int (fun _ _ => rfl))) (nomark _))))) pa_nil))) (pss_one (ps_ret pe_bl)) pss_nil)
      (pss_one (ps_ret (pe_cmpR (r := rEqD K) (op_eqD hr.units) (pv 1) (pe_lst (pa_cons (pv 6) (pa_cons (pe_op op_sub (pe_callB call_len_dN (by rfl) B.len PySem.boot_len (pa_cons (pv 2) pa_nil)) (pv 6)) pa_nil))) (nomark _)))))))))))), ?_⟩
    obtain ⟨k1, k2, M⟩ := many hL.pos hW.pos hf.pos hs.pos fr
    obtain ⟨e1, e2⟩ := M.facts hf.pos hs.pos
    have n1 := M.n1
    have n2 := M.n2
    refine ⟨_, rfl, t, _, 0, _, rfl, rfl, ht, rfl, _, rfl, t, _, 1, _, rfl, rfl, ht, rfl, _, rfl, t, _, 2, _, rfl, rfl, ht, rfl, _, rfl, t, _, 3, _, rfl, rfl, ht, rfl, ?_⟩
    refine .mk hL hW hf hs fr fun H1 sm1 => ?_
    have ht1 := Same.tup sm1 ht
    refine ⟨_, rfl, t, _, 0, _, rfl, rfl, ht1, rfl, _, rfl, t, _, 1, _, rfl, rfl, ht1, rfl, _, rfl, t, _, 2, _, rfl, rfl, ht1, rfl, _, rfl, t, _, 3, _, rfl, rfl, ht1, rfl, ?_⟩
    refine .mk hL hW hf hs fr fun H2 sm2 => ?_
    rw [e1, e2]
    walk_at "rd"
    intro l1 hl1
    generalize hH3 : upd H2 l1 _ = H3
    obtain ⟨sm3, up3⟩ : Same H2 H3 ∧ H3 l1 = some (.lst ([k1, k1 + k2 - k1].map V.int)) := newH hH3 hl1
    clear hH3
    have s03 := sm1.trans (sm2.trans sm3)
    have ht3 := Same.tup s03 ht
    walk_at "rd"
    refine ⟨⟨_, sqL up3⟩, fun D hD => ?_⟩
    refine lc_list (K := K) (a := l1) (xs := [k1, k1 + k2 - k1].map V.int) (fun i H' => Same H3 H' ∧ H' D = some (.lst ((List.replicate i true).map V.bl))) ⟨same_upd hD, upd_same⟩ (fun i H' _ ⟨sm, _⟩ => sqL (sm _ _ up3)) ?_ ?_
    · rintro i v H' hi ⟨sm, eD⟩
      obtain ⟨x, rfl, hx⟩ : ∃ x : Int, v = .int x ∧ 0 ≤ x := by
        have z := List.mem_of_getElem? hi
        have z2 : v = .int k1 ∨ v = .int (k1 + k2 - k1) := by simpa using z
        rcases z2 with rfl | rfl
        · exact ⟨_, rfl, n1⟩
        · exact ⟨_, rfl, by omega⟩
      have hlt := (List.getElem?_eq_some_iff.mp hi).1
      refine ⟨rfl, lc_yes ?_⟩
      walk_at "rd"
      refine num_int ⟨_, rfl, iteT ?_⟩
      walk_at "rd"
      refine ⟨_, eD, ?_, same_mut sm hD, ?_⟩
      · rw [List.length_map, List.length_replicate]
        exact Nat.lt_trans hlt (show 2 < sizeLine by decide)
      · have e0 : decide ((0 : Int) ≤ x) = true := decide_eq_true hx
        show (upd H' D (.lst ((List.replicate i true).map V.bl ++ [V.bl (decide ((0 : Int) ≤ x))]))) D = _
        rw [upd_same, e0, List.replicate_succ', List.map_append]
        rfl
    rintro H4 ⟨sm4, eD4⟩
    refine ⟨D, List.replicate 2 true, rfl, sqL eD4, ?_⟩
    refine ⟨_, rfl, iteF ?_⟩
    have s04 := s03.trans sm4
    have ht4 := Same.tup s04 ht
    have up4 := sm4 _ _ up3
    have e3 : ([k1, k1 + k2 - k1] : List Int).sum = k1 + k2 := by
      show k1 + (k1 + k2 - k1 + 0) = k1 + k2
      omega
    have bt : Bn 4000 (k1 + k2) := by
      rw [← e1]
      exact (hL.bn.mul hW.bn).div (Int.mul_pos hf.pos hs.pos)
    refine tn ?_
    dsimp only
    refine if_noS (Same H4) (fun r hr0 => ?_) fun H5 sm5 => ?_
    · refine ⟨_, rfl, l1, [k1, k1 + k2 - k1], rfl, sqL up4, ?_⟩
      rw [e3]
      walk_at "rd"
      refine ⟨t, _, 2, _, rfl, rfl, ht4, rfl, ?_⟩
      walk_at "rd"
      refine ⟨t, _, 3, _, rfl, rfl, ht4, rfl, ?_⟩
      walk_at "rd"
      refine ⟨t, _, 0, _, rfl, rfl, ht4, rfl, ?_⟩
      walk_at "rd"
      refine ⟨t, _, 1, _, rfl, rfl, ht4, rfl, ?_⟩
      walk_at "rd"
      have e4 : (k1 + k2) * fi * se = L * W := by
        rw [M.all, Int.mul_assoc, Int.mul_comm]
      refine iteNe (fun z => absurd e4 z) (fun _ => ?_)
      walk_at "rd"
      refine ⟨t, _, 2, _, rfl, rfl, ht4, rfl, ?_⟩
      walk_at "rd"
      refine ⟨t, _, 3, _, rfl, rfl, ht4, rfl, ?_⟩
      walk_at "rd"
      refine iteEq (fun e => ?_) (fun _ => hr0 _ (Same.refl _))
      walk_at "rd"
      refine ⟨l1, _, 1, _, rfl, rfl, sqL up4, rfl, ?_⟩
      walk_at "rd"
      have z2 := M.eq e
      rw [show decide ((0 : Int) < k1 + k2 - k1) = false from decide_eq_false (by omega)]
      exact hr0 _ (Same.refl _)
    have s05 := s04.trans sm5
    have ht5 := Same.tup s05 ht
    have up5 := sm5 _ _ up4
    walk_at "rd"
    refine ⟨t, _, 0, _, rfl, rfl, ht5, rfl, ?_⟩
    walk_at "rd"
    refine ⟨t, _, 1, _, rfl, rfl, ht5, rfl, ?_⟩
    walk_at "rd"
    refine iteD (fun _ => q _ s05) (fun big => ?_)
    have big : ¬ 150 < L * W := big
    intro D6 hD6
    generalize hH6 : upd H5 D6 _ = H6
    obtain ⟨sm6, up6⟩ : Same H5 H6 ∧ H6 D6 = some (DN P w D6 (ents2 [])) := newH hH6 hD6
    clear hH6
    have s06 := s05.trans sm6
    have ht6 := Same.tup s06 ht
    obtain ⟨m, rfl⟩ := Int.eq_ofNat_of_zero_le (Int.le_of_lt hL.pos)
    obtain ⟨n, rfl⟩ := Int.eq_ofNat_of_zero_le (Int.le_of_lt hW.pos)
    have mp := hL.pos
    have np := hW.pos
    have hm : (m : Int) ≤ 150 := by
      have := Int.mul_le_mul_of_nonneg_left (show (1 : Int) ≤ n by omega) (show (0 : Int) ≤ m by omega)
      omega
    have hn : (n : Int) ≤ 150 := by
      have := Int.mul_le_mul_of_nonneg_right (show (1 : Int) ≤ m by omega) (show (0 : Int) ≤ n by omega)
      omega
    walk_at "rd"
    refine ⟨t, _, 0, _, rfl, rfl, ht6, rfl, ?_⟩
    walk_at "rd"
    have tn1 : ((m : Int)).toNat = m := Int.toNat_natCast m
    have tn2 : ((n : Int)).toNat = n := Int.toNat_natCast n
    refine for_range (lo := 0) (n := m) (fun i σ H' => CoI P w t l1 D6 m n fi se H5 i σ H') (.mk (qs := []) sm6 up6 (fun q hq => nomatch hq) cnt_nil) ?_ ?_
    · rintro i _ H7 hi @⟨_, qs0, _, _, _, sm7, eD7, hb7, hv7⟩
      have ht7 := Same.tup (s05.trans sm7) ht
      walk_at "rd"
      refine ⟨t, _, 1, _, rfl, rfl, ht7, rfl, ?_⟩
      walk_at "rd"
      refine for_range (lo := 0) (n := n) (fun j σ H' => CoJ P w t l1 D6 m n fi se H5 i j σ H') (.mk sm7 eD7 hb7 (by
        have e : colL (0 + (i : Int)) 0 0 = [] := rfl
        rw [e, List.append_nil]
        exact hv7)) ?_ ?_
      · rintro j _ H8 hj @⟨_, qs, _, _, sm8, eD8, hb8, hv8⟩
        have s08 := s05.trans sm8
        have cc : cellB (m : Int) (n : Int) (0 + (i : Int), 0 + (j : Int)) = true := cell_iff.mpr (by dsimp only; omega)
        walk_at "rd"
        intro t9 ht9
        generalize hH9 : upd H8 t9 _ = H9
        obtain ⟨sm9, up9⟩ : Same H8 H9 ∧ H9 t9 = some (.tup (cellV (0 + (i : Int), 0 + (j : Int)))) := newH hH9 ht9
        clear hH9
        walk_at "rd"
        refine .mk (Same.tup (s08.trans sm9) ht) hL hW hf hs fr up9 cc fun pb pc H10 sm10 hpb hpc => ?_
        have s810 := sm9.trans sm10
        have eD10 := s810 _ _ eD8
        have tt : ∀ b xs, H8 b = some (.tup xs) → H10 b = some (.tup xs) := fun b xs h => s810 _ _ h
        have hb10 : BTs H10 qs := fun q hq => (hb8 q hq).mono tt
        obtain ⟨bk, hbk⟩ : ∃ bk, brickP m n fi se (0 + (i : Int), 0 + (j : Int)) = bk := ⟨_, rfl⟩
        rw [hbk] at hpb hpc
        have bt10 : BT H10 pb bk := ⟨pc, hpb, hpc⟩
        obtain ⟨bs, hbs⟩ : ∃ bs, brsL m n fi se (colsL 0 0 i n ++ colL (0 + (i : Int)) 0 j) = bs := ⟨_, rfl⟩
        rw [hbs] at hv8
        have eg : (atN (ents2 qs) (kM bk)).getD (.int 0) = .int (cntB bs bk : Nat) := by
          rw [ents2_get bk hv8.cn]
          split
          · rfl
          · rename_i na
            rw [cnt_none fun z => na (any_bc.mpr (hv8.cov bk z))]
            rfl
        have hlq : (ents2 qs).length < sizeLine := by
          have z2 : qs.length ≤ 150 * 150 + 150 := by
            have z := hv8.len
            rw [vals_len, ← hbs] at z
            unfold brsL at z
            rw [List.length_map, List.length_append, cols_len, col_len] at z
            have := Nat.mul_le_mul (show i ≤ 150 by omega) (show n ≤ 150 by omega)
            omega
          unfold ents2
          rw [List.length_map]
          exact Nat.lt_of_le_of_lt z2 (by decide)
        obtain ⟨rs, er, ev, em⟩ := ents2_put qs pb bk (cntB bs bk + 1)
        walk_at "rd"
        refine ⟨D6, _, rfl, .inl eD10, ?_⟩
        walk_at "rd"
        refine ⟨pb, kM bk, .int 0, _, rfl, .inl eD10, hb10.keys, bt10.key, kM_depth _, ?_⟩
        rw [eg]
        walk_at "rd"
        refine ⟨D6, pb, kM bk, _, rfl, rfl, eD10, hb10.keys, bt10.key, kM_depth _, hlq, ?_⟩
        have er' : putN (ents2 qs) (kM bk) pb (V.int ((cntB bs bk : Int) + 1)) = ents2 rs := er
        have cnext : CntOk (brsL m n fi se (colsL 0 0 i n ++ colL (0 + (i : Int)) 0 (j + 1))) (vals rs) := by
          rw [ev]
          have e : brsL m n fi se (colsL 0 0 i n ++ colL (0 + (i : Int)) 0 (j + 1)) = bs ++ [bk] := by
            rw [← hbs, ← hbk, col_succ, ← List.append_assoc]
            unfold brsL
            rw [List.map_append]
            rfl
          rw [e]
          exact hv8.bump bk
        refine .mk (qs := rs) (same_mut (sm8.trans s810) hD6) (by rw [← er']; exact upd_same) (fun r hr => ?_) cnext
        have z : BT H10 r.1 r.2.1 := by
          rcases em r hr with ⟨q, hq, w1, w2⟩ | ⟨w1, w2⟩
          · rw [w1, w2]
            exact hb10 q hq
          · rw [w1, w2]
            exact bt10
        refine z.mono fun b xs h => ?_
        rw [upd_ne (ne_of h eD10 (by intro z; cases z))]
        exact h
      · rintro _ H8 @⟨_, qs, _, _, sm8, eD8, hb8, hv8⟩
        exact .mk sm8 eD8 hb8 (by rw [cols_succ]; exact hv8)
    rintro _ H7 @⟨_, qs, y3, y4, y5, sm7, eD7, hb7, hv7⟩
    obtain ⟨a1, a2, a3⟩ := count_all hL.pos hW.pos hf.pos hs.pos fr hv7
    have hqle : qs.length ≤ 150 * 150 := by
      have z := hv7.len
      rw [vals_len] at z
      unfold brsL at z
      rw [List.length_map, cols_len] at z
      have := Nat.mul_le_mul (show m ≤ 150 by omega) (show n ≤ 150 by omega)
      omega
    dsimp only
    have ht7 := Same.tup (s05.trans sm7) ht
    have up7 := sm7 _ _ up5
    have fz : ∀ (G : Hp) (od : Obj), G D6 = some (DN P w D6 (ents2 qs)) → ∀ b o, b ≠ D6 → G b = some o → (upd G D6 (.frz od (DN P w D6 (ents2 qs)))) b = some o := fun G od _ b o hb h => by
      rw [upd_ne hb]
      exact h
    have tnd : ∀ (G : Hp), G D6 = some (DN P w D6 (ents2 qs)) → ∀ b xs, G b = some (.tup xs) → b ≠ D6 := fun G h b xs hb z => by
      rw [z, h] at hb
      cases hb
    refine ⟨D6, _, eD7, trivial, fun od => ?_⟩
    walk_at "rd"
    have bt7 : BTs (upd H7 D6 (.frz od (DN P w D6 (ents2 qs)))) qs := fun q hq => (hb7 q hq).mono fun b xs h => fz H7 od eD7 b _ (tnd H7 eD7 b xs h) h
    generalize hH8 : upd H7 D6 (.frz od (DN P w D6 (ents2 qs))) = H8 at bt7
    have eD8 : H8 D6 = some (.frz od (DN P w D6 (ents2 qs))) := by rw [← hH8]; exact upd_same
    refine ⟨D6, od, _, rfl, eD8, fun E1 hE1 => ?_⟩
    refine lc_keysN (P := P) (w := w) (fun i H' => Same H8 H' ∧ H' E1 = some (.lst (refs ((qs.take i).filter fun q => q.2.1.l)))) ⟨same_upd hE1, upd_same⟩ (fun i H' _ ⟨sm, _⟩ => sm _ _ eD8) ?_ ?_
    · rintro i e H' hi ⟨sm, eE⟩
      obtain ⟨q, hq, hqm, eq⟩ := ents2_at hi
      rw [eq]
      obtain ⟨pc, g1, g2⟩ := (bt7 q hqm).mono fun b xs h => sm _ _ h
      have hlt := (List.getElem?_eq_some_iff.mp hq).1
      have et : (qs.take (i + 1)).filter (fun q => q.2.1.l) = (qs.take i).filter (fun q => q.2.1.l) ++ (if q.2.1.l then [q] else []) := take_succ_filter (fun q => q.2.1.l) qs i q hq
      walk_at "rd"
      refine ⟨q.1, _, 1, _, rfl, rfl, sqT g1, rfl, _, rfl, ?_⟩
      refine iteB (fun c => ?_) (fun c => ?_)
      · refine ⟨_, rfl, _, eE, ?_, same_mut sm hE1, ?_⟩
        · rw [refs_len]
          refine Nat.lt_of_le_of_lt (List.length_filter_le _ _) ?_
          rw [List.length_take]
          have : qs.length ≤ 150 * 150 := hqle
          exact Nat.lt_of_le_of_lt (show min i qs.length ≤ 150 * 150 by omega) (by decide)
        · rw [upd_same, et, if_pos c, refs_app]
          rfl
      · refine ⟨sm, ?_⟩
        rw [et, if_neg (by rw [c]; decide), List.append_nil]
        exact eE
    rintro H9 ⟨sm9, eE9⟩
    rw [ents2_len, List.take_length] at eE9
    refine ⟨sm9 _ _ eD8, ?_⟩
    -- unlocked
    have nE : E1 ≠ D6 := fun z => by rw [z, eD8] at hE1; cases hE1
    have keep9 : ∀ b o, b ≠ D6 → H7 b = some o → (upd H9 D6 (DN P w D6 (ents2 qs))) b = some o := fun b o hb h => by
      rw [upd_ne hb]
      refine sm9 _ _ ?_
      rw [← hH8, upd_ne hb]
      exact h
    have eE10 : (upd H9 D6 (DN P w D6 (ents2 qs))) E1 = some (.lst (refs (qs.filter fun q => q.2.1.l))) := by
      rw [upd_ne nE]
      exact eE9
    have eD10 : (upd H9 D6 (DN P w D6 (ents2 qs))) D6 = some (DN P w D6 (ents2 qs)) := upd_same
    generalize upd H9 D6 (DN P w D6 (ents2 qs)) = H10 at keep9 eE10 eD10
    have hb10 : BTs H10 qs := fun q hq => (hb7 q hq).mono fun b xs h => keep9 b _ (tnd H7 eD7 b xs h) h
    have s510 : Same H5 H10 := fun b o h => keep9 b o (ne_of_none h hD6) (sm7 _ _ h)
    have ht10 := Same.tup (s05.trans s510) ht
    have up10 := s510 _ _ up5
    refine ⟨E1, _, rfl, .inl (sqL eE10), ?_⟩
    rw [refs_len]
    have nl : ((qs.filter fun q => q.2.1.l).length : Int) = k1 := by
      have e : ((vals qs).filter fun p => p.1.l).length = (qs.filter fun q => q.2.1.l).length := by
        unfold vals
        rw [List.filter_map, List.length_map]
        rfl
      rw [← e, a2, e2]
    rw [nl]
    refine gN2 (σ' := [some (.ref t), some (.ref l1), some (.ref D6), y3, y4, y5, some (.int k1), none]) rfl ?_
    dsimp only
    refine ⟨D6, _, eD10, trivial, fun od2 => ?_⟩
    walk_at "rd"
    have bt10 : BTs (upd H10 D6 (.frz od2 (DN P w D6 (ents2 qs)))) qs := fun q hq => (hb10 q hq).mono fun b xs h => fz H10 od2 eD10 b _ (tnd H10 eD10 b xs h) h
    have s511 : Same H5 (upd H10 D6 (.frz od2 (DN P w D6 (ents2 qs)))) := fun b o h => fz H10 od2 eD10 b o (ne_of_none h hD6) (s510 _ _ h)
    generalize hH11 : upd H10 D6 (.frz od2 (DN P w D6 (ents2 qs))) = H11 at bt10 s511
    have eD11 : H11 D6 = some (.frz od2 (DN P w D6 (ents2 qs))) := by rw [← hH11]; exact upd_same
    refine ⟨D6, od2, _, rfl, eD11, fun E2 hE2 => ?_⟩
    refine lc_keysN (P := P) (w := w) (fun i H' => Same H11 H' ∧ H' E2 = some (.lst ((List.replicate i false).map V.bl))) ⟨same_upd hE2, upd_same⟩ (fun i H' _ ⟨sm, _⟩ => sm _ _ eD11) ?_ ?_
    · rintro i e H' hi ⟨sm, eE⟩
      obtain ⟨q, hq, hqm, eq⟩ := ents2_at hi
      rw [eq]
      have hlt := (List.getElem?_eq_some_iff.mp hq).1
      have bt' : BTs H' qs := fun q hq => (bt10 q hq).mono fun b xs h => sm _ _ h
      have ht' := Same.tup (s05.trans (s511.trans sm)) ht
      have qv : q.2 ∈ vals qs := List.mem_map.mpr ⟨q, hqm, rfl⟩
      have gt : atN (ents2 qs) (kM q.2.1) = some (.int (fi * se)) := by
        rw [ents2_get q.2.1 hv7.cn, if_pos (any_bc.mpr ⟨q.2, qv, rfl⟩), ← hv7.cn q.2 qv, a3 q.2 qv]
      refine ⟨rfl, lc_yes ?_⟩
      walk_at "rd"
      refine ⟨D6, q.1, kM q.2.1, _, _, rfl, rfl, .inr ⟨od2, sm _ _ eD11⟩, bt'.keys, (bt' q hqm).key, kM_depth _, gt, ?_⟩
      walk_at "rd"
      refine ⟨t, _, 2, _, rfl, rfl, ht', rfl, ?_⟩
      walk_at "rd"
      refine ⟨t, _, 3, _, rfl, rfl, ht', rfl, ?_⟩
      walk_at "rd"
      refine ⟨_, eE, ?_, same_mut sm hE2, ?_⟩
      · rw [List.length_map, List.length_replicate]
        exact Nat.lt_of_lt_of_le (show i < 150 * 150 by omega) (by decide)
      · have e0 : (!decide (V.int (fi * se) = V.int (fi * se))) = false := by rw [decide_eq_true rfl]; rfl
        show (upd H' E2 (.lst ((List.replicate i false).map V.bl ++ [V.bl (!decide (V.int (fi * se) = V.int (fi * se)))]))) E2 = _
        rw [upd_same, e0, List.replicate_succ', List.map_append]
        rfl
    rintro H12 ⟨sm12, eE12⟩
    rw [ents2_len] at eE12
    refine ⟨sm12 _ _ eD11, ?_⟩
    have nE2 : E2 ≠ D6 := fun z => by rw [z, eD11] at hE2; cases hE2
    have keep12 : ∀ b o, b ≠ D6 → H10 b = some o → (upd H12 D6 (DN P w D6 (ents2 qs))) b = some o := fun b o hb h => by
      rw [upd_ne hb]
      refine sm12 _ _ ?_
      rw [← hH11, upd_ne hb]
      exact h
    have eE13 : (upd H12 D6 (DN P w D6 (ents2 qs))) E2 = some (.lst ((List.replicate qs.length false).map V.bl)) := by
      rw [upd_ne nE2]
      exact eE12
    have eD13 : (upd H12 D6 (DN P w D6 (ents2 qs))) D6 = some (DN P w D6 (ents2 qs)) := upd_same
    generalize upd H12 D6 (DN P w D6 (ents2 qs)) = H13 at keep12 eE13 eD13
    have hb13 : BTs H13 qs := fun q hq => (hb10 q hq).mono fun b xs h => keep12 b _ (tnd H10 eD10 b xs h) h
    have s513 : Same H5 H13 := fun b o h => keep12 b o (ne_of_none h hD6) (s510 _ _ h)
    refine ⟨E2, _, rfl, sqL eE13, ?_⟩
    have an : (List.replicate qs.length false).any id = false := by
      rw [List.any_eq_false]
      intro x hx
      rw [(List.mem_replicate.mp hx).2]
      decide
    rw [an]
    refine ⟨_, rfl, iteF ?_⟩
    walk_at "rd"
    refine ⟨D6, _, rfl, .inl eD13, hb13.keys, ?_⟩
    rw [ents2_len]
    walk_at "rd"
    intro l14 hl14
    generalize hH14 : upd H13 l14 _ = H14
    obtain ⟨sm14, up14⟩ : Same H13 H14 ∧ H14 l14 = some (.lst ([k1, (qs.length : Int) - k1].map V.int)) := newH hH14 hl14
    clear hH14
    have ql : (qs.length : Int) = k1 + k2 := by
      have z := a1
      rw [vals_len, e1] at z
      exact z
    rw [ql] at up14
    have s514 := s513.trans sm14
    refine ⟨_, _, .lst (sqL (s514 _ _ up5)) (dp_ints _), .lst (sqL up14) (dp_ints _), shp_ints _, shp_ints _, ?_⟩
    rw [SeqAt.eqv_refl _ rfl]
    exact q _ (s05.trans s514)
end
end BF

/-! ### the law k02 -/
namespace BF
open PySem PySem.Spec PyProof.Rows L2
theorem two_nil {a b : Bool} : two a b = [] ↔ a = false ∧ b = false := by
  cases a <;> cases b <;> decide
noncomputable def barsK (L W f s : Int) (i : Nat) : List Bool := (List.range i).map fun k : Nat => barB L W f s (k : Int)
theorem bars_free {L W f s : Int} : (barsK L W f s 4).any id = false ↔ Free L W f s := by
  have e : (barsK L W f s 4).any id = (strB L W f || (strB L W s || (shoB L f s || (shoB W f s || false)))) := rfl
  rw [e]
  unfold Free strL shoL
  rw [two_nil, two_nil]
  simp only [Bool.or_eq_false_iff]
  constructor
  · rintro ⟨h1, h2, h3, h4, _⟩
    exact ⟨⟨h1, h2⟩, h3, h4⟩
  · rintro ⟨⟨h1, h2⟩, h3, h4⟩
    exact ⟨h1, h2, h3, h4, trivial⟩
theorem cell_at {L W u v : Int} {H : Hp} {a : Addr} (hc : cellB L W (u, v) = true) (h : H a = some (.tup [.int u, .int v])) : ∃ a' ce, V.ref a = .ref a' ∧ H a' = some (.tup (cellV ce)) ∧ cellB L W ce = true := ⟨a, (u, v), rfl, h, hc⟩
inductive LoopK (a : Addr) (wh : Int) (H : Hp) : L2.St → Hp → Prop where
  | mk {H' : Hp} {y2 y3 y4 y5 y6 y7 : Option V} (sm : Same H H') : LoopK a wh H [some (.ref a), some (.int wh), y2, y3, y4, y5, y6, y7, none, none, none, none] H'
theorem free_of2 {L W f s m n u v : Int} (hf : 0 < f) (hs : 0 < s) (a : L % f = 0 ∨ W % f = 0) (b : L % s = 0 ∨ W % s = 0) (r1 : Rep L f s m n) (r2 : Rep W f s u v) : Free L W f s := by
  have s1 : strB L W f = false := by
    unfold strB
    rcases a with e | e
    · rw [decide_eq_true e]; rfl
    · rw [decide_eq_true e, Bool.not_true, Bool.and_false]
  have s2 : strB L W s = false := by
    unfold strB
    rcases b with e | e
    · rw [decide_eq_true e]; rfl
    · rw [decide_eq_true e, Bool.not_true, Bool.and_false]
  refine ⟨?_, ?_⟩
  · unfold strL
    rw [s1, s2]
    rfl
  · unfold shoL
    rw [sho_no hf hs r1, sho_no hf hs r2]
    rfl
theorem free_653 : Free 6 5 2 3 := free_of2 (m := 3) (n := 0) (u := 1) (v := 1) (by decide) (by decide) (.inl (by decide)) (.inl (by decide)) ⟨by decide, by decide, by decide⟩ ⟨by decide, by decide, by decide⟩
theorem free_442 : Free 4 4 2 2 := free_of2 (m := 2) (n := 0) (u := 2) (v := 0) (by decide) (by decide) (.inl (by decide)) (.inl (by decide)) ⟨by decide, by decide, by decide⟩ ⟨by decide, by decide, by decide⟩
theorem lie_442 : lieP 4 4 2 2 = 4 := by
  unfold lieP
  rw [if_pos rfl]
  rfl
/-- the last floor -/
inductive LastM (a : Addr) (wh f s : Int) (H : Hp) : L2.St → Hp → Prop where
  | mk {L W : Int} {H' : Hp} {y2 y3 y4 y7 : Option V} (sm : Same H H') (hL : 0 < L ∧ L ≤ 100) (hW : 0 < W ∧ W ≤ 100) (fr : Free L W f s) : LastM a wh f s H [some (.ref a), some (.int wh), y2, y3, y4, some (.int L), some (.int W), y7, some (.int f), some (.int s), none, none] H'
section
variable {P : Program} {w : World} {K : PySem.W.Frag} {mg : Str → Option Value} {base : Heap}
theorem H_law (p : Pl K mg "law" s_law) (B : Bi mg) (h__law_four : Has P w K mg base CX0 2 "_law_four" ["_law_script", "_law_at", "_law_most"] (SpFour K)) (h__law_number : Has P w K mg base CX0 1 "_law_number" ["_law_cell", "_law_at", "_law_whole_here"] SpNumber)
    (h__law_bars : Has P w K mg base CX0 3 "_law_bars" ["_law_four_here", "_law_which"] (SpLBars K)) (h__law_refused : Has P w K mg base CX0 7 "_law_refused" ["_law_four_here"] (SpRefused K))
    (h__law_cell_right : Has P w K mg base CX0 7 "_law_cell_right" ["_law_four_here", "_law_cell", "_law_number_here"] (SpCellR K)) (h__law_counts_right : Has P w K mg base CX0 7 "_law_counts_right" ["_law_four_here"] (SpCounts K))
    (h_lying : Has P w K mg base CX0 5 "lying" ["length", "width", "first", "second"] SpLying) (h_standing : Has P w K mg base CX0 6 "standing" ["length", "width", "first", "second"] SpStanding) : Has P w K mg base CX0 8 "law" ["_law_script"] (SpLaw K) := by
  refine p.mk0 sc_law (fun _ _ _ _ _ _ us hl => match us, hl with | [_], _ => rfl) (fun vs H Q E h => ?_) (fun f cdv A outer s H vs Q E hr h => ?_)
  · cases h; rfl
  · obtain @⟨a, ns, _, _, _, hl, hbits, hS, q⟩ := h
    refine ⟨_, (pss_cons (ps_set (i := 1) sc_law.nd rfl (Or.inl rfl) (pe_callB (cr_sum rfl) (by rfl) B.sum (by decide +kernel) (pa_cons (pe_slice sl_list (pv 0) po_none (po_some pe_int)) pa_nil)))
      (pss_cons (ps_for PassesOwn.never (by rfl) (pi_range1 (by rfl) B.range (pa_cons (pe_callB (call_min2 rfl) (by rfl) B.min (by decide +kernel) (pa_cons pe_int (pa_cons (pe_callB (r := rLen2 K) call_len_seq (by rfl) B.len PySem.boot_len (pa_cons (pv 0) pa_nil)) pa_nil))) pa_nil)) (pg_name (i := 2) sc_law.nd rfl (Or.inl rfl)) (pss_cons (ps_set (i := 3) sc_law.nd rfl (Or.inr rfl) (pe_fn h__law_four (hr.mono (by decide)) pass0 (pa_cons (pv 0) (pa_cons (pv 2) (pa_cons (pe_ix (r := rIxT K) ix_tup (pe_tup (pa_cons pe_int (pa_cons pe_int (pa_cons (pe_op op_pow pe_int pe_int) (pa_cons (pe_op op_pow pe_int pe_int) pa_nil))))) (pe_op op_mod (pe_op op_add (pv 1) (pv 2)) pe_int) (fun _ _ => rfl)) pa_nil)))))
      (pss_cons (ps_set (i := 4) sc_law.nd rfl (Or.inr rfl) (pe_fn h__law_number (hr.mono (by decide)) pass0 (pa_cons (pe_ix (r := rIxL K) ix_list (pv 0) (pv 2) (fun _ _ => rfl)) (pa_cons (pe_op op_add (pv 2) pe_int) (pa_cons (pv 1) pa_nil)))))
      (pss_one (ps_if (pt_val (pe_callB (cr_any rfl) (by rfl) B.any (by decide +kernel) (pa_cons (pe_lc (own := [("_law_which", 10)]) (by rfl) sc_law.nd (pi_range1 (by rfl) B.range (pa_cons pe_int pa_nil)) (blkOk_by (own := [("_law_which", 10)]) (N := ["_law_script", "_law_whole_here", "_law_at", "_law_four_here", "_law_number_here", "_law_length", "_law_width", "_law_some", "_law_first", "_law_second", "_law_which", "_law_cell"]) (sc := defScope s_law) (by decide +kernel)) (fun _ _ _ _ _ => (pg_name (i := 10) sc_law.nd rfl (Or.inl rfl))) (fun _ _ _ _ _ => pts_nil) (fun _ _ _ _ _ => (pe_fn h__law_bars (hr.mono (by decide)) pass0 (pa_cons (pv 3) (pa_cons (pv 10) pa_nil))))) pa_nil))) (pss_one (ps_if (pt_not (pt_val (pe_fn h__law_refused (hr.mono (by decide)) pass0 (pa_cons (pv 3) pa_nil)))) (pss_one (ps_ret pe_bl)) pss_nil)) (pss_cons (ps_par (i := 5) (j := 6) (by rfl) sc_law.nd rfl rfl (by decide) rfl rfl (pa_cons (pe_ix (r := rIxT K) ix_tup (pv 3) pe_int (fun _ _ => rfl)) (pa_cons (pe_ix (r := rIxT K) ix_tup (pv 3) pe_int (fun _ _ => rfl)) pa_nil)) (by rfl))
      (pss_cons (ps_set (i := 7) sc_law.nd rfl (Or.inl rfl) (pe_lst (pa_cons (pe_tup (pa_cons (pe_op op_mod (pv 4) (pv 5)) (pa_cons (pe_op op_mod (pe_op op_fdivW (pv 4) pe_int) (pv 6)) pa_nil))) (pa_cons (pe_tup (pa_cons (pe_op op_sub (pv 5) pe_int) (pa_cons (pe_op op_sub (pv 6) pe_int) pa_nil))) (pa_cons (pe_tup (pa_cons (pe_op op_mod (pe_op op_fdivW (pv 4) pe_int) (pv 5)) (pa_cons pe_int pa_nil))) pa_nil)))))
      (pss_cons (ps_set (i := 7) sc_law.nd rfl (Or.inl rfl) (pe_op op_cat (pv 7) (pe_lst (pa_cons (pe_tup (pa_cons pe_int (pa_cons (pe_op op_sub (pv 6) pe_int) pa_nil))) (pa_cons (pe_tup (pa_cons (pe_op op_fdivW (pv 5) pe_int) (pa_cons (pe_op op_mod (pe_op op_fdivW (pv 4) pe_int) (pv 6)) pa_nil))) pa_nil)))))
      (pss_cons (ps_if (pt_not (pt_val (pe_callB (cr_all rfl) (by rfl) B.all (by decide +kernel) (pa_cons (pe_lc (own := [("_law_cell", 11)]) (by rfl) sc_law.nd (pi_list (pv 7)) (blkOk_by (own := [("_law_cell", 11)]) (N := ["_law_script", "_law_whole_here", "_law_at", "_law_four_here", "_law_number_here", "_law_length", "_law_width", "_law_some", "_law_first", "_law_second", "_law_which", "_law_cell"]) (sc := defScope s_law) (by decide +kernel)) (fun _ _ _ _ _ => (pg_name (i := 11) sc_law.nd rfl (Or.inl rfl))) (fun _ _ _ _ _ => pts_nil) (fun _ _ _ _ _ => (pe_fn h__law_cell_right (hr.mono (by decide)) pass0 (pa_cons (pv 3) (pa_cons (pv 11) (pa_cons (pv 4) pa_nil)))))) pa_nil)))) (pss_one (ps_ret pe_bl)) pss_nil)
      (pss_one (ps_if (PW.pt (pw_and (pt_cmpR op_lt (pv 2) pe_int (nomark _)) (pw_and1 (pt_not (pt_val (pe_fn h__law_counts_right (hr.mono (by decide)) pass0 (pa_cons (pv 3) pa_nil))))))) (pss_one (ps_ret pe_bl)) pss_nil)))))))))))
      (pss_cons (ps_par (i := 8) (j := 9) (by rfl) sc_law.nd rfl rfl (by decide) rfl rfl (pa_cons (pe_op op_add pe_int (pe_op op_mod (pv 1) pe_int)) (pa_cons (pe_op op_add pe_int (pe_op op_mod (pe_op op_fdivW (pv 1) pe_int) pe_int)) pa_nil)) (by rfl))
      (pss_cons (ps_set (i := 5) sc_law.nd rfl (Or.inl rfl) (pe_op op_mulX (pe_op op_mulX (pv 8) (pv 9)) (pe_op op_add pe_int (pe_op op_mod (pe_op op_fdivW (pv 1) pe_int) pe_int))))
      (pss_cons (ps_set (i := 6) sc_law.nd rfl (Or.inl rfl) (pe_op op_add (pe_op op_mulX (pv 8) (pe_op op_mod (pe_op op_fdivW (pv 1) pe_int) pe_int)) (pe_op op_mulX (pv 9) (pe_op op_add pe_int (pe_op op_mod (pe_op op_fdivW (pv 1) pe_int) pe_int)))))
      (Evl.pss_cut (ps_if (pt_cmpR op_eq (pe_op op_mod (pe_op op_fdivW (pv 1) pe_int) pe_int) pe_int (nomark _)) (pss_one (ps_par (i := 5) (j := 6) (by rfl) sc_law.nd rfl rfl (by decide) rfl rfl (pa_cons (pv 6) (pa_cons (pv 5) pa_nil)) (by rfl))) pss_nil)
      (pss_cons (ps_if (pt_not (pt_val (pe_fn h__law_counts_right (hr.mono (by decide)) pass0 (pa_cons (pe_tup (pa_cons (pv 5) (pa_cons (pv 6) (pa_cons (pv 8) (pa_cons (pv 9) pa_nil))))) pa_nil)))) (pss_one (ps_ret pe_bl)) pss_nil)
      (pss_one (ps_ret (pe_and (pe_cmpR op_eq (pe_op op_add (pe_fn h_lying (hr.mono (by decide)) pass0 (pa_cons pe_int (pa_cons pe_int (pa_cons pe_int (pa_cons pe_int pa_nil))))) (pe_fn h_standing (hr.mono (by decide)) pass0 (pa_cons pe_int (pa_cons pe_int (pa_cons pe_int (pa_cons pe_int pa_nil)))))) pe_int (nomark _)) (pe_one (pe_cmpR op_eq (pe_fn h_lying (hr.mono (by decide)) pass0 (pa_cons pe_int (pa_cons pe_int (pa_cons pe_int (pa_cons pe_int pa_nil))))) pe_int (nomark _))))))))))))), ?_⟩
    obtain ⟨ms, ems⟩ := cut_ints ns none (some 63)
    refine ⟨_, rfl, 63, rfl, a, _, rfl, hS, fun p1 hp1 => ⟨p1, ms, rfl, sqL (by rw [← ems]; exact upd_same), ?_⟩⟩
    have sm1 : Same H (upd H p1 (.lst (cutV (ns.map V.int) none (some 63)))) := same_upd hp1
    generalize upd H p1 (.lst (cutV (ns.map V.int) none (some 63))) = H1 at sm1 ⊢
    generalize hwh : ms.sum = wh
    refine ⟨_, rfl, a, _, rfl, .inl (sm1.seq hS), _, _, rfl, ?_⟩
    refine ⟨_, rfl, ?_, ?_, ?_⟩
    · show -(2 ^ 62) ≤ (if ((ns.map V.int).length : Int) < 30 then ((ns.map V.int).length : Int) else 30)
      split <;> omega
    · show (if ((ns.map V.int).length : Int) < 30 then ((ns.map V.int).length : Int) else 30) < 2 ^ 62
      split <;> omega
    refine for_range (lo := 0) (n := _) (fun i σ H' => LoopK a wh H σ H') (.mk sm1) ?_ ?_
    · rintro i _ H2 hi @⟨_, _, _, _, _, _, _, sm2⟩
      have hin : i < ns.length := by
        have : (if ((ns.map V.int).length : Int) < 30 then ((ns.map V.int).length : Int) else 30) ≤ ns.length := by
          rw [List.length_map]
          split <;> omega
        omega
      walk_at "rd"
      intro p2 hp2
      generalize hH3 : upd H2 p2 _ = H3
      obtain ⟨sm3, up3⟩ : Same H2 H3 ∧ H3 p2 = some (.tup [.int 3, .int 9, .int (10 ^ (6 : Int).toNat), .int (10 ^ (20 : Int).toNat)]) := newH hH3 hp2
      clear hH3
      replace sm3 := sm2.trans sm3
      obtain ⟨mv, emv, hmv⟩ := pick4 (x0 := .int 3) (x1 := .int 9) (x2 := .int (10 ^ (6 : Int).toNat)) (x3 := .int (10 ^ (20 : Int).toNat)) (k := (wh + (0 + (i : Int))) % 4) (Int.emod_nonneg _ (by decide)) (Int.emod_lt_of_pos _ (by decide))
      obtain ⟨most, rfl, hm1, hm2⟩ : ∃ most : Int, mv = .int most ∧ 0 < most ∧ most ≤ 10 ^ 20 := by
        rcases hmv with rfl | rfl | rfl | rfl <;> exact ⟨_, rfl, by decide, by decide⟩
      walk_at "rd"
      refine ⟨p2, _, _, _, rfl, rfl, sqT up3, emv, ?_⟩
      clear emv hmv
      refine .mk hbits hl (sm3.seq hS) (by omega) (by omega) hm1 hm2 fun L W f s p4 H4 dL dW df ds sm4 hp4 => ?_
      replace sm4 := sm3.trans sm4
      have hL := dL.sz
      have hW := dW.sz
      have hf := df.sz
      have hs := ds.sz
      obtain ⟨c, hcm, hcat⟩ := at_cell (ns := ns) (k := 0 + (i : Int)) (by omega) (by omega)
      walk_at "rd"
      refine ⟨a, _, _, _, rfl, rfl, sm4.seq hS, hcat, ?_⟩
      walk_at "rd"
      refine .mk (bn_bits (hbits c hcm)) (bnl (by omega)) fun n => ?_
      walk_at "rd"
      intro D hD
      refine lc_range (lo := 0) (n := 4) (fun j H' => Same H4 H' ∧ H' D = some (.lst ((barsK L W f s j).map V.bl))) ⟨same_upd hD, upd_same⟩ ?_ ?_
      · rintro j H5 hj ⟨sm5, eD⟩
        have e0 : (0 : Int) + (j : Int) = j := by omega
        refine ⟨rfl, lc_yes ?_⟩
        walk_at "rd"
        refine .mk (sqT (sm5 _ _ hp4)) hL hW hf hs fun H6 sm6 => ⟨_, sm6 _ _ eD, ?_, same_mut (sm5.trans sm6) hD, ?_⟩
        · unfold barsK
          rw [List.length_map, List.length_map, List.length_range]
          exact Nat.lt_trans hj (by decide)
        · unfold barsK
          rw [upd_same, List.range_succ, List.map_append, List.map_append, e0]
          rfl
      rintro H5 ⟨sm5, eD⟩
      have s5 := sm4.trans sm5
      have hp5 := sm5 _ _ hp4
      refine ⟨D, _, rfl, sqL eD, ?_⟩
      cases hany : (barsK L W f s 4).any id with
      | true =>
        refine ⟨_, rfl, iteT ?_⟩
        walk_at "rd"
        refine .mk (sqT hp5) hL hW hf hs (fun z => by rw [bars_free.mpr z] at hany; cases hany) fun H6 sm6 => ?_
        walk_at "rd"
        exact .mk (s5.trans sm6)
      | false =>
        have fr := bars_free.mp hany
        refine ⟨_, rfl, iteF ?_⟩
        have Lp := hL.pos
        have Wp := hW.pos
        have bL := hL.bn
        have bW := hW.bn
        have cin : ∀ u v : Int, (0 ≤ u ∧ u < L) ∧ 0 ≤ v ∧ v < W → cellB L W (u, v) = true := fun u v h => cell_iff.mpr h
        have m1 := Int.emod_nonneg n (Int.ne_of_gt Lp)
        have m2 := Int.emod_lt_of_pos n Lp
        have m3 := Int.emod_nonneg (n / 7) (Int.ne_of_gt Wp)
        have m4 := Int.emod_lt_of_pos (n / 7) Wp
        have m5 := Int.emod_nonneg (n / 3) (Int.ne_of_gt Lp)
        have m6 := Int.emod_lt_of_pos (n / 3) Lp
        have m7 := Int.emod_nonneg (n / 11) (Int.ne_of_gt Wp)
        have m8 := Int.emod_lt_of_pos (n / 11) Wp
        have d1 := cin (n % L) (n / 7 % W) (by omega)
        have d2 := cin (L - 1) (W - 1) (by omega)
        have d3 := cin (n / 3 % L) 0 (by omega)
        have d4 := cin 0 (W - 1) (by omega)
        have d5 := cin (L / 2) (n / 11 % W) (by omega)
        clear cin m1 m2 m3 m4 m5 m6 m7 m8
        walk_at "rd"
        refine ⟨p4, _, 0, _, rfl, rfl, sqT hp5, rfl, ?_⟩
        walk_at "rd"
        refine ⟨p4, _, 1, _, rfl, rfl, sqT hp5, rfl, ?_⟩
        walk_at "rd"
        intro u1 hu1
        generalize hH6 : upd H5 u1 _ = H6
        obtain ⟨sm6, up6⟩ := newH hH6 hu1
        clear hH6
        walk_at "rd"
        intro u2 hu2
        generalize hH7 : upd H6 u2 _ = H7
        obtain ⟨sm7, up7⟩ := newH hH7 hu2
        clear hH7
        walk_at "rd"
        intro u3 hu3
        generalize hH8 : upd H7 u3 _ = H8
        obtain ⟨sm8, up8⟩ := newH hH8 hu3
        clear hH8
        walk_at "rd"
        intro k1 hk1
        generalize hH9 : upd H8 k1 _ = H9
        obtain ⟨sm9, up9⟩ := newH hH9 hk1
        clear hH9
        walk_at "rd"
        intro u4 hu4
        generalize hH10 : upd H9 u4 _ = H10
        obtain ⟨sm10, up10⟩ := newH hH10 hu4
        clear hH10
        walk_at "rd"
        intro u5 hu5
        generalize hH11 : upd H10 u5 _ = H11
        obtain ⟨sm11, up11⟩ := newH hH11 hu5
        clear hH11
        walk_at "rd"
        intro k2 hk2
        generalize hH12 : upd H11 k2 _ = H12
        obtain ⟨sm12, up12⟩ := newH hH12 hk2
        clear hH12
        have s912 := sm10.trans (sm11.trans sm12)
        refine ⟨k1, k2, _, _, rfl, rfl, s912 _ _ up9, up12, size4 (by simp), fun k3 hk3 => ?_⟩
        generalize hH13 : upd H12 k3 _ = H13
        obtain ⟨sm13, up13⟩ := newH hH13 hk3
        clear hH13
        have s913 := s912.trans sm13
        have s813 := sm9.trans s913
        have s513 := sm6.trans (sm7.trans (sm8.trans s813))
        have hp13 := s513 _ _ hp5
        have ca : ∀ v ∈ [V.ref u1, V.ref u2, V.ref u3, V.ref u4, V.ref u5], ∃ a' ce, v = .ref a' ∧ H13 a' = some (.tup (cellV ce)) ∧ cellB L W ce = true := by
          intro v hv
          have e : v = .ref u1 ∨ v = .ref u2 ∨ v = .ref u3 ∨ v = .ref u4 ∨ v = .ref u5 := by simpa using hv
          rcases e with rfl | rfl | rfl | rfl | rfl
          · exact cell_at d1 (s813 _ _ (sm8 _ _ (sm7 _ _ up6)))
          · exact cell_at d2 (s813 _ _ (sm8 _ _ up7))
          · exact cell_at d3 (s813 _ _ up8)
          · exact cell_at d4 (sm13 _ _ (sm12 _ _ (sm11 _ _ up10)))
          · exact cell_at d5 (sm13 _ _ (sm12 _ _ up11))
        walk_at "rd"
        refine ⟨⟨_, sqL up13⟩, fun D2 hD2 => ?_⟩
        refine lc_list (K := K) (a := k3) (xs := [V.ref u1, V.ref u2, V.ref u3, V.ref u4, V.ref u5]) (fun j H' => Same H13 H' ∧ H' D2 = some (.lst ((List.replicate j true).map V.bl))) ⟨same_upd hD2, upd_same⟩ (fun j H' _ ⟨sm, _⟩ => sqL (sm _ _ up13)) ?_ ?_
        · rintro j v H14 hj ⟨sm14, eD2⟩
          obtain ⟨a', ce, rfl, ha', hce⟩ := ca v (List.mem_of_getElem? hj)
          have hlt := (List.getElem?_eq_some_iff.mp hj).1
          refine ⟨rfl, lc_yes ?_⟩
          walk_at "rd"
          refine .mk (sqT (sm14 _ _ hp13)) hL hW hf hs fr (sm14 _ _ ha') hce fun H15 sm15 => ⟨_, sm15 _ _ eD2, ?_, same_mut (sm14.trans sm15) hD2, ?_⟩
          · rw [List.length_map, List.length_replicate]
            exact Nat.lt_trans hlt (show 5 < sizeLine by decide)
          · rw [upd_same, List.replicate_succ', List.map_append]
            rfl
        rintro H14 ⟨sm14, eD2⟩
        refine ⟨D2, List.replicate 5 true, rfl, sqL eD2, ?_⟩
        refine ⟨_, rfl, iteF ?_⟩
        have s14 := s5.trans (s513.trans sm14)
        walk_at "rd"
        refine iteD (fun _ => ?_) (fun _ => iteF (.mk s14))
        walk_at "rd"
        refine .mk (sqT (sm14 _ _ hp13)) hL hW hf hs fr fun H15 sm15 => ?_
        walk_at "rd"
        exact .mk (s14.trans sm15)
    · rintro _ H2 @⟨_, y2, y3, y4, y5, y6, y7, sm2⟩
      walk_at "rd"
      refine gN2 (σ' := [some (.ref a), some (.int wh), y2, y3, y4, some (.int ((1 + wh % 3) * (1 + wh / 3 % 4) * (1 + wh / 12 % 2))), some (.int ((1 + wh % 3) * (wh / 24 % 3) + (1 + wh / 3 % 4) * (1 + wh / 72 % 2))), y7, some (.int (1 + wh % 3)), some (.int (1 + wh / 3 % 4)), none, none]) rfl ?_
      dsimp only
      have f1 : 0 < 1 + wh % 3 ∧ 1 + wh % 3 ≤ 3 := by omega
      have s1 : 0 < 1 + wh / 3 % 4 ∧ 1 + wh / 3 % 4 ≤ 4 := by omega
      have k1 : 0 < 1 + wh / 12 % 2 ∧ 1 + wh / 12 % 2 ≤ 2 := by omega
      have g1 : 0 ≤ wh / 24 % 3 ∧ wh / 24 % 3 ≤ 2 := by omega
      have e1 : 0 < 1 + wh / 72 % 2 ∧ 1 + wh / 72 % 2 ≤ 2 := by omega
      generalize 1 + wh % 3 = f at f1 ⊢
      generalize 1 + wh / 3 % 4 = s at s1 ⊢
      generalize 1 + wh / 12 % 2 = k at k1 ⊢
      generalize wh / 24 % 3 = g at g1 ⊢
      generalize 1 + wh / 72 % 2 = e at e1 ⊢
      have b1 := mul_in (x := f) (y := s) (A := 3) (B := 4) (by omega) f1.2 (by omega) s1.2
      have b2 := mul_in (x := f * s) (y := k) (A := 12) (B := 2) b1.1 (by omega) (by omega) k1.2
      have b3 := mul_in (x := f) (y := g) (A := 3) (B := 2) (by omega) f1.2 g1.1 g1.2
      have b4 := mul_in (x := s) (y := e) (A := 4) (B := 2) (by omega) s1.2 (by omega) e1.2
      have p1 := Int.mul_pos (Int.mul_pos f1.1 s1.1) k1.1
      have p2 := Int.mul_pos s1.1 e1.1
      have q1 : f * s * k % f = 0 := by
        rw [Int.mul_assoc]
        exact Int.mul_emod_right _ _
      have q2 : f * s * k % s = 0 := by
        rw [Int.mul_comm f s, Int.mul_assoc]
        exact Int.mul_emod_right _ _
      have r1 : Rep (f * s * k) f s (s * k) 0 := ⟨Int.mul_nonneg (by omega) (by omega), Int.le_refl _, by rw [Int.zero_mul, Int.add_zero, Int.mul_comm (s * k) f, Int.mul_assoc]⟩
      have r2 : Rep (f * g + s * e) f s g e := ⟨g1.1, by omega, by rw [Int.mul_comm g f, Int.mul_comm e s]⟩
      have fr1 : Free (f * s * k) (f * g + s * e) f s := free_of2 f1.1 s1.1 (.inl q1) (.inl q2) r1 r2
      have fr2 : Free (f * g + s * e) (f * s * k) f s := free_of2 f1.1 s1.1 (.inr q1) (.inr q2) r2 r1
      generalize f * s * k = L at b2 p1 fr1 fr2 ⊢
      generalize hWd : f * g + s * e = W at fr1 fr2 ⊢
      have w1 : 0 < W ∧ W ≤ 14 := by omega
      have z : ∀ n : Int, 0 < n → n < 1000 → Sz n := fun n h0 h1 => sz_of_lt h0 (by omega)
      refine ⟨LastM a wh f s H2, ?_, ?_⟩
      · walk_at "rd"
        refine iteEq (fun _ => ?_) (fun _ => .mk (Same.refl _) (by omega) (by omega) fr1)
        walk_at "rd"
        exact .mk (Same.refl _) (by omega) (by omega) fr2
      rintro _ H3 @⟨L2, W2, _, _, _, _, _, sm3, hL, hW, fr⟩
      walk_at "rd"
      intro t4 ht4
      generalize hH4 : upd H3 t4 _ = H4
      obtain ⟨sm4, up4⟩ : Same H3 H4 ∧ H4 t4 = some (.tup [.int L2, .int W2, .int f, .int s]) := newH hH4 ht4
      clear hH4
      walk_at "rd"
      refine .mk (sqT up4) (z _ hL.1 (by omega)) (z _ hW.1 (by omega)) (z _ f1.1 (by omega)) (z _ s1.1 (by omega)) fr fun H5 sm5 => ?_
      refine ⟨_, rfl, iteF ?_⟩
      walk_at "rd"
      refine .mk (z _ (by decide) (by decide)) (z _ (by decide) (by decide)) (z _ (by decide) (by decide)) (z _ (by decide) (by decide)) free_653 fun H6 sm6 => ?_
      walk_at "rd"
      refine .mk (z _ (by decide) (by decide)) (z _ (by decide) (by decide)) (z _ (by decide) (by decide)) (z _ (by decide) (by decide)) free_653 fun H7 sm7 => ?_
      walk_at "rd"
      refine iteP (show V.int (lieP 6 5 2 3 + (6 * 5 / (2 * 3) - lieP 6 5 2 3)) = V.int 5 by
        have e : (6 : Int) * 5 / (2 * 3) = 5 := by decide
        rw [e]
        congr 1
        omega) ?_
      refine .mk (z _ (by decide) (by decide)) (z _ (by decide) (by decide)) (z _ (by decide) (by decide)) (z _ (by decide) (by decide)) free_442 fun H8 sm8 => ?_
      rw [lie_442]
      walk_at "rd"
      exact q _
end
end BF

/-! ### what the top leaves of the error classes -/
namespace BF
def exB (K : PySem.W.Frag) : Bool := ersB K
end BF

namespace BF
open PySem PySem.Spec PyProof.Rows L2
/-! ### what the top leaves: each def by name -/
def d_is_number : He.DefD := ⟨("is_number", none), "is_number", "is_number", defArgs s_is_number, defBody s_is_number, defScope s_is_number, [], []⟩
def d_check_sizes : He.DefD := ⟨("check_sizes", none), "check_sizes", "check_sizes", defArgs s_check_sizes, defBody s_check_sizes, defScope s_check_sizes, [], []⟩
def d_shared : He.DefD := ⟨("shared", none), "shared", "shared", defArgs s_shared, defBody s_shared, defScope s_shared, [], []⟩
def d_parts_of : He.DefD := ⟨("parts_of", none), "parts_of", "parts_of", defArgs s_parts_of, defBody s_parts_of, defScope s_parts_of, [], []⟩
def d_is_striped : He.DefD := ⟨("is_striped", none), "is_striped", "is_striped", defArgs s_is_striped, defBody s_is_striped, defScope s_is_striped, [], []⟩
def d_what_bars : He.DefD := ⟨("what_bars", none), "what_bars", "what_bars", defArgs s_what_bars, defBody s_what_bars, defScope s_what_bars, [], []⟩
def d_is_cell : He.DefD := ⟨("is_cell", none), "is_cell", "is_cell", defArgs s_is_cell, defBody s_is_cell, defScope s_is_cell, [], []⟩
def d_check_laid : He.DefD := ⟨("check_laid", none), "check_laid", "check_laid", defArgs s_check_laid, defBody s_check_laid, defScope s_check_laid, [], []⟩
def d_plan : He.DefD := ⟨("plan", none), "plan", "plan", defArgs s_plan, defBody s_plan, defScope s_plan, [], []⟩
def d_brick_on : He.DefD := ⟨("brick_on", none), "brick_on", "brick_on", defArgs s_brick_on, defBody s_brick_on, defScope s_brick_on, [], []⟩
def d_lying : He.DefD := ⟨("lying", none), "lying", "lying", defArgs s_lying, defBody s_lying, defScope s_lying, [], []⟩
def d_standing : He.DefD := ⟨("standing", none), "standing", "standing", defArgs s_standing, defBody s_standing, defScope s_standing, [], []⟩
def d__law_number : He.DefD := ⟨("_law_number", none), "_law_number", "_law_number", defArgs s__law_number, defBody s__law_number, defScope s__law_number, [], []⟩
def d__law_four : He.DefD := ⟨("_law_four", none), "_law_four", "_law_four", defArgs s__law_four, defBody s__law_four, defScope s__law_four, [], []⟩
def d__law_whole : He.DefD := ⟨("_law_whole", none), "_law_whole", "_law_whole", defArgs s__law_whole, defBody s__law_whole, defScope s__law_whole, [], []⟩
def d__law_common : He.DefD := ⟨("_law_common", none), "_law_common", "_law_common", defArgs s__law_common, defBody s__law_common, defScope s__law_common, [], []⟩
def d__law_few : He.DefD := ⟨("_law_few", none), "_law_few", "_law_few", defArgs s__law_few, defBody s__law_few, defScope s__law_few, [], []⟩
def d__law_bars : He.DefD := ⟨("_law_bars", none), "_law_bars", "_law_bars", defArgs s__law_bars, defBody s__law_bars, defScope s__law_bars, [], []⟩
def d__law_brick : He.DefD := ⟨("_law_brick", none), "_law_brick", "_law_brick", defArgs s__law_brick, defBody s__law_brick, defScope s__law_brick, [], []⟩
def d__law_cell_right : He.DefD := ⟨("_law_cell_right", none), "_law_cell_right", "_law_cell_right", defArgs s__law_cell_right, defBody s__law_cell_right, defScope s__law_cell_right, [], []⟩
def d__law_refused : He.DefD := ⟨("_law_refused", none), "_law_refused", "_law_refused", defArgs s__law_refused, defBody s__law_refused, defScope s__law_refused, [], []⟩
def d__law_counts_right : He.DefD := ⟨("_law_counts_right", none), "_law_counts_right", "_law_counts_right", defArgs s__law_counts_right, defBody s__law_counts_right, defScope s__law_counts_right, [], []⟩
def d_law : He.DefD := ⟨("law", none), "law", "law", defArgs s_law, defBody s_law, defScope s_law, [], []⟩
def fns : List He.DefD := [d_is_number, d_check_sizes, d_shared, d_parts_of, d_is_striped, d_what_bars, d_is_cell, d_check_laid, d_plan, d_brick_on, d_lying, d_standing, d__law_number, d__law_four, d__law_whole, d__law_common, d__law_few, d__law_bars, d__law_brick, d__law_cell_right, d__law_refused, d__law_counts_right, d_law]
def fas : List He.Fa := [.glo "is_number", .glo "check_sizes", .glo "shared", .glo "parts_of", .glo "is_striped", .glo "what_bars", .glo "is_cell", .glo "check_laid", .glo "plan", .glo "brick_on", .glo "lying", .glo "standing", .glo "_law_number", .glo "_law_four", .glo "_law_whole", .glo "_law_common", .glo "_law_few", .glo "_law_bars", .glo "_law_brick", .glo "_law_cell_right", .glo "_law_refused", .glo "_law_counts_right", .glo "law", .free "all", .free "any", .free "bool", .free "enumerate", .free "int", .free "isinstance", .free "len", .free "max", .free "min", .free "range", .free "sum", .free "tuple"]
def loose0 : List PySem.Str := ["FloorError", "BadSize", "BadCell", "BadColour", "BadBricks", "Barred", "TooGreat", "is_number", "check_sizes", "shared", "parts_of", "is_striped", "what_bars", "is_cell", "check_laid", "plan", "brick_on", "lying", "standing", "_law_number", "_law_four", "_law_whole", "_law_common", "_law_few", "_law_bars", "_law_brick", "_law_cell_right", "_law_refused", "_law_counts_right"]
def looseN : List PySem.Str := loose0
def tfs : List He.Defn := []
abbrev R : PySem.W.OpenRow := PySem.W.OpenLaw.row PySem.Challenge.rw_brickfloor_k02_whole_bricks
abbrev hk : PySem.W.Hook := He.hookX 4 fas fns [] tfs exB
def ob (s : PySem.W.SharedT) : He.AlX := He.obsX 4 fas fns [] tfs exB (HandSHeadRun.getT s)
theorem ob_eq (s : PySem.W.SharedT) : ob s = hk.obs s.abs := He.obsX_eq (HandSHeadRun.getT_eq s)
theorem run (w : World) : HandSHeadRun.RunEq R (PySem.W.view R.prog [34]) hk ob 4000 looseN w := by
  intro os
  kernel_rfl
abbrev Says (w : World) (h : Heap) (K : PySem.W.Frag) : Prop := He.SaysX fas fns [] tfs exB w h K
section
variable {w : World} {K : PySem.W.Frag} {h : Heap} {mg : Str → Option Value}
theorem pl_is_number (X : K.In h) (G : h.Ns mainGlobals mg) (c : Says w h K) : Pl K mg "is_number" s_is_number := by
  obtain ⟨fd, F⟩ := c.t.d.def_ 0 (d := d_is_number) rfl
  exact ⟨_, fd, F, He.glo_ok X G (c.t.d.fact 0 (f := .glo "is_number") rfl)⟩
theorem pl_check_sizes (X : K.In h) (G : h.Ns mainGlobals mg) (c : Says w h K) : Pl K mg "check_sizes" s_check_sizes := by
  obtain ⟨fd, F⟩ := c.t.d.def_ 1 (d := d_check_sizes) rfl
  exact ⟨_, fd, F, He.glo_ok X G (c.t.d.fact 1 (f := .glo "check_sizes") rfl)⟩
theorem pl_shared (X : K.In h) (G : h.Ns mainGlobals mg) (c : Says w h K) : Pl K mg "shared" s_shared := by
  obtain ⟨fd, F⟩ := c.t.d.def_ 2 (d := d_shared) rfl
  exact ⟨_, fd, F, He.glo_ok X G (c.t.d.fact 2 (f := .glo "shared") rfl)⟩
theorem pl_parts_of (X : K.In h) (G : h.Ns mainGlobals mg) (c : Says w h K) : Pl K mg "parts_of" s_parts_of := by
  obtain ⟨fd, F⟩ := c.t.d.def_ 3 (d := d_parts_of) rfl
  exact ⟨_, fd, F, He.glo_ok X G (c.t.d.fact 3 (f := .glo "parts_of") rfl)⟩
theorem pl_is_striped (X : K.In h) (G : h.Ns mainGlobals mg) (c : Says w h K) : Pl K mg "is_striped" s_is_striped := by
  obtain ⟨fd, F⟩ := c.t.d.def_ 4 (d := d_is_striped) rfl
  exact ⟨_, fd, F, He.glo_ok X G (c.t.d.fact 4 (f := .glo "is_striped") rfl)⟩
theorem pl_what_bars (X : K.In h) (G : h.Ns mainGlobals mg) (c : Says w h K) : Pl K mg "what_bars" s_what_bars := by
  obtain ⟨fd, F⟩ := c.t.d.def_ 5 (d := d_what_bars) rfl
  exact ⟨_, fd, F, He.glo_ok X G (c.t.d.fact 5 (f := .glo "what_bars") rfl)⟩
theorem pl_is_cell (X : K.In h) (G : h.Ns mainGlobals mg) (c : Says w h K) : Pl K mg "is_cell" s_is_cell := by
  obtain ⟨fd, F⟩ := c.t.d.def_ 6 (d := d_is_cell) rfl
  exact ⟨_, fd, F, He.glo_ok X G (c.t.d.fact 6 (f := .glo "is_cell") rfl)⟩
theorem pl_check_laid (X : K.In h) (G : h.Ns mainGlobals mg) (c : Says w h K) : Pl K mg "check_laid" s_check_laid := by
  obtain ⟨fd, F⟩ := c.t.d.def_ 7 (d := d_check_laid) rfl
  exact ⟨_, fd, F, He.glo_ok X G (c.t.d.fact 7 (f := .glo "check_laid") rfl)⟩
theorem pl_plan (X : K.In h) (G : h.Ns mainGlobals mg) (c : Says w h K) : Pl K mg "plan" s_plan := by
  obtain ⟨fd, F⟩ := c.t.d.def_ 8 (d := d_plan) rfl
  exact ⟨_, fd, F, He.glo_ok X G (c.t.d.fact 8 (f := .glo "plan") rfl)⟩
theorem pl_brick_on (X : K.In h) (G : h.Ns mainGlobals mg) (c : Says w h K) : Pl K mg "brick_on" s_brick_on := by
  obtain ⟨fd, F⟩ := c.t.d.def_ 9 (d := d_brick_on) rfl
  exact ⟨_, fd, F, He.glo_ok X G (c.t.d.fact 9 (f := .glo "brick_on") rfl)⟩
theorem pl_lying (X : K.In h) (G : h.Ns mainGlobals mg) (c : Says w h K) : Pl K mg "lying" s_lying := by
  obtain ⟨fd, F⟩ := c.t.d.def_ 10 (d := d_lying) rfl
  exact ⟨_, fd, F, He.glo_ok X G (c.t.d.fact 10 (f := .glo "lying") rfl)⟩
theorem pl_standing (X : K.In h) (G : h.Ns mainGlobals mg) (c : Says w h K) : Pl K mg "standing" s_standing := by
  obtain ⟨fd, F⟩ := c.t.d.def_ 11 (d := d_standing) rfl
  exact ⟨_, fd, F, He.glo_ok X G (c.t.d.fact 11 (f := .glo "standing") rfl)⟩
theorem pl__law_number (X : K.In h) (G : h.Ns mainGlobals mg) (c : Says w h K) : Pl K mg "_law_number" s__law_number := by
  obtain ⟨fd, F⟩ := c.t.d.def_ 12 (d := d__law_number) rfl
  exact ⟨_, fd, F, He.glo_ok X G (c.t.d.fact 12 (f := .glo "_law_number") rfl)⟩
theorem pl__law_four (X : K.In h) (G : h.Ns mainGlobals mg) (c : Says w h K) : Pl K mg "_law_four" s__law_four := by
  obtain ⟨fd, F⟩ := c.t.d.def_ 13 (d := d__law_four) rfl
  exact ⟨_, fd, F, He.glo_ok X G (c.t.d.fact 13 (f := .glo "_law_four") rfl)⟩
theorem pl__law_whole (X : K.In h) (G : h.Ns mainGlobals mg) (c : Says w h K) : Pl K mg "_law_whole" s__law_whole := by
  obtain ⟨fd, F⟩ := c.t.d.def_ 14 (d := d__law_whole) rfl
  exact ⟨_, fd, F, He.glo_ok X G (c.t.d.fact 14 (f := .glo "_law_whole") rfl)⟩
theorem pl__law_common (X : K.In h) (G : h.Ns mainGlobals mg) (c : Says w h K) : Pl K mg "_law_common" s__law_common := by
  obtain ⟨fd, F⟩ := c.t.d.def_ 15 (d := d__law_common) rfl
  exact ⟨_, fd, F, He.glo_ok X G (c.t.d.fact 15 (f := .glo "_law_common") rfl)⟩
theorem pl__law_few (X : K.In h) (G : h.Ns mainGlobals mg) (c : Says w h K) : Pl K mg "_law_few" s__law_few := by
  obtain ⟨fd, F⟩ := c.t.d.def_ 16 (d := d__law_few) rfl
  exact ⟨_, fd, F, He.glo_ok X G (c.t.d.fact 16 (f := .glo "_law_few") rfl)⟩
theorem pl__law_bars (X : K.In h) (G : h.Ns mainGlobals mg) (c : Says w h K) : Pl K mg "_law_bars" s__law_bars := by
  obtain ⟨fd, F⟩ := c.t.d.def_ 17 (d := d__law_bars) rfl
  exact ⟨_, fd, F, He.glo_ok X G (c.t.d.fact 17 (f := .glo "_law_bars") rfl)⟩
theorem pl__law_brick (X : K.In h) (G : h.Ns mainGlobals mg) (c : Says w h K) : Pl K mg "_law_brick" s__law_brick := by
  obtain ⟨fd, F⟩ := c.t.d.def_ 18 (d := d__law_brick) rfl
  exact ⟨_, fd, F, He.glo_ok X G (c.t.d.fact 18 (f := .glo "_law_brick") rfl)⟩
theorem pl__law_cell_right (X : K.In h) (G : h.Ns mainGlobals mg) (c : Says w h K) : Pl K mg "_law_cell_right" s__law_cell_right := by
  obtain ⟨fd, F⟩ := c.t.d.def_ 19 (d := d__law_cell_right) rfl
  exact ⟨_, fd, F, He.glo_ok X G (c.t.d.fact 19 (f := .glo "_law_cell_right") rfl)⟩
theorem pl__law_refused (X : K.In h) (G : h.Ns mainGlobals mg) (c : Says w h K) : Pl K mg "_law_refused" s__law_refused := by
  obtain ⟨fd, F⟩ := c.t.d.def_ 20 (d := d__law_refused) rfl
  exact ⟨_, fd, F, He.glo_ok X G (c.t.d.fact 20 (f := .glo "_law_refused") rfl)⟩
theorem pl__law_counts_right (X : K.In h) (G : h.Ns mainGlobals mg) (c : Says w h K) : Pl K mg "_law_counts_right" s__law_counts_right := by
  obtain ⟨fd, F⟩ := c.t.d.def_ 21 (d := d__law_counts_right) rfl
  exact ⟨_, fd, F, He.glo_ok X G (c.t.d.fact 21 (f := .glo "_law_counts_right") rfl)⟩
theorem pl_law (X : K.In h) (G : h.Ns mainGlobals mg) (c : Says w h K) : Pl K mg "law" s_law := by
  obtain ⟨fd, F⟩ := c.t.d.def_ 22 (d := d_law) rfl
  exact ⟨_, fd, F, He.glo_ok X G (c.t.d.fact 22 (f := .glo "law") rfl)⟩
theorem bi_ok (X : K.In h) (G : h.Ns mainGlobals mg) (c : Says w h K) : Bi mg := ⟨He.free_ok X G (c.t.d.fact 23 (f := .free "all") rfl), He.free_ok X G (c.t.d.fact 24 (f := .free "any") rfl), He.free_ok X G (c.t.d.fact 25 (f := .free "bool") rfl), He.free_ok X G (c.t.d.fact 26 (f := .free "enumerate") rfl), He.free_ok X G (c.t.d.fact 27 (f := .free "int") rfl), He.free_ok X G (c.t.d.fact 28 (f := .free "isinstance") rfl), He.free_ok X G (c.t.d.fact 29 (f := .free "len") rfl), He.free_ok X G (c.t.d.fact 30 (f := .free "max") rfl), He.free_ok X G (c.t.d.fact 31 (f := .free "min") rfl), He.free_ok X G (c.t.d.fact 32 (f := .free "range") rfl), He.free_ok X G (c.t.d.fact 33 (f := .free "sum") rfl), He.free_ok X G (c.t.d.fact 34 (f := .free "tuple") rfl)⟩
end
end BF

namespace BF
open PySem PySem.Spec PyProof.Rows L2
def lawLevel : Nat := 8
section
variable {w : World} {K : PySem.W.Frag} {h : Heap} {mg : Str → Option Value} {P : Program} {base : Heap}
theorem has_law (X : K.In h) (G : h.Ns mainGlobals mg) (c : Says w h K) : Has P w K mg base CX0 8 "law" ["_law_script"] (SpLaw K) := by
  have B := bi_ok X G c
  have GE := ersB_ok X G c.more
  have h1 := H_is_number (P := P) (w := w) (base := base) (pl_is_number X G c) B
  have h2 := H_check_sizes (pl_check_sizes X G c) h1
  have h3 := H_shared (P := P) (w := w) (base := base) (pl_shared X G c)
  have h4 := H_parts_of (pl_parts_of X G c) h3
  have h5 := H_is_striped (P := P) (w := w) (base := base) (pl_is_striped X G c)
  have h6 := H_what_bars (pl_what_bars X G c) B h5 h4
  have g4 := H_is_cell (pl_is_cell X G c) B h1
  have k1 := H_check_laid (pl_check_laid X G c) h2 h6
  have k2 := H_plan (pl_plan X G c) h4
  have k3 := H_brick_on (pl_brick_on X G c) k1 g4 k2
  have k4 := H_lying (pl_lying X G c) k1 k2
  have k5 := H_standing (pl_standing X G c) k4
  have x1 := HX_check_laid (pl_check_laid X G c) GE h2 h6
  have x2 := HX_brick_on (pl_brick_on X G c) GE x1 g4 k2
  have x3 := HX_lying (pl_lying X G c) x1 k2
  have x4 := HX_standing (pl_standing X G c) x3
  have l1 := H__law_number (P := P) (w := w) (base := base) (pl__law_number X G c)
  have l2 := H__law_whole (P := P) (w := w) (base := base) (pl__law_whole X G c) B
  have l3 := H__law_common (P := P) (w := w) (base := base) (pl__law_common X G c)
  have l4 := H__law_few (pl__law_few X G c) l3
  have l5 := H__law_four (pl__law_four X G c) B l1
  have l6 := H__law_bars (pl__law_bars X G c) l4
  have l7 := H__law_brick (pl__law_brick X G c) B k3 l2
  have l8 := H__law_cell_right (pl__law_cell_right X G c) B l7
  have l9 := H__law_refused (pl__law_refused X G c) B GE x2 x3 x4
  have l10 := H__law_counts_right (pl__law_counts_right X G c) B k4 k5 l2 l7
  exact H_law (pl_law X G c) B l5 l1 l6 l9 l8 l10 k4 k5
theorem law_at {f : Addr} (X : K.In h) (G : h.Ns mainGlobals mg) (c : Says w h K) (g : mg ("law" : Str) = some (.ref f)) : LamX.LawAtS PySem.Challenge.rw_brickfloor_k02_whole_bricks w K CX0 lawLevel 63 "_law_script" mg f h := by
  obtain ⟨f', fd, F, g'⟩ := pl_law X G c
  have e := g.symm.trans g'
  cases e
  refine ⟨fd, [], SpLaw K, (fun _ z => nomatch z), (fun _ z => nomatch z), (fun _ z => nomatch z), fun s u => FunD.bindsA (ps := ["_law_script"]) F (fun _ _ _ _ _ _ us hl => match us, hl with | [_], _ => rfl) s [u] rfl, fun H a ns hl hb _ hS => .mk hl hb hS fun _ => rfl, fun base hK hG _ => (has_law X G c).at F g'⟩
end
end BF

open PySem PySem.W PySem.Calls PyProof.Rows
set_option maxRecDepth 100000 in
set_option maxHeartbeats 8000000 in
theorem PySem.Challenge.cw_brickfloor_k02_whole_bricks_holds : PySem.Challenge.rw_brickfloor_k02_whole_bricks.Holds := by
  w_on; o_law
  refine HandSHeadRun.head_any (r := OpenLaw.row PySem.Challenge.rw_brickfloor_k02_whole_bricks) (q := view (OpenLaw.row PySem.Challenge.rw_brickfloor_k02_whole_bricks).prog [34]) (H := BF.hk) (ob := BF.ob) (loose := BF.looseN) (d := HandSHeadRun.topDef (OpenLaw.row PySem.Challenge.rw_brickfloor_k02_whole_bricks).prog 34) (kwd := []) BF.ob_eq
    (by kernel_rfl) (fun s => by kernel_rfl) BF.run (by kernel_rfl) (by kernel_rfl) (by kernel_rfl) (by rfl) (by first | assumption | decide +kernel) (by decide +kernel) ⟨rfl, rfl, rfl, rfl, rfl, by decide +kernel⟩ ?hw ?hc
  case hw => w_witness2
  case hc =>
    refine LamX.walk_ofTsE (l := PySem.Challenge.rw_brickfloor_k02_whole_bricks) (n := 63) (k := BF.lawLevel) (x := "_law_script") (CX := fun _ => L2.CX0) rfl (by decide) (by kernel_rfl) ⟨rfl, by decide, by decide⟩ ?F (fun _ _ _ _ _ z => z)
    intro w mg fa h Y G hmg0
    obtain ⟨K, KX, c⟩ := Y
    have hmg : mg ("law" : PySem.Str) = some (.ref fa) := by
      have e : (HandSHeadRun.topDef (OpenLaw.row PySem.Challenge.rw_brickfloor_k02_whole_bricks).prog 34).name = ("law" : PySem.Str) := by kernel_rfl
      rw [← e]
      exact hmg0
    exact ⟨K, KX, BF.law_at KX G c hmg⟩
