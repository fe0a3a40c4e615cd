import PyProof.Rows.All
import Wide.All
import OpenK.AllK
import Wide.FinOn
import KE.KStateDown
import HandS.ForMost
import HandS.ForExc
import HandS.More
import HandS.Wide
import HandS.WideBits
import HandS.Style
import HandS.Flow
import HandS.Zip
import HandS.IsInst
import HandS.Defaults
import HandS.Head0
import HandS.Head1
import HandS.Head2
import HandS.HeadEnd
import HandS.HeadHook1
import HandS.HeadHook2
import HandS.HeadHook3
import HandS.HeadHook4
import HandS.HeadWalk
import HandS.Evl
import KE.DataMinMax
import KE.GoesMore
import PySem.Challenge.RW_brickfloor_k01_whole_told
set_option pp.maxSteps 700
set_option Elab.async false
set_option linter.all false
set_option maxRecDepth 100000
set_option maxHeartbeats 4000000
/-! ### a def of the top, where it stands, and its promise -/
namespace BF
open PySem PySem.Spec PyProof.Rows L2
abbrev FnP (K : PySem.W.Frag) (x q : Str) (st : Stmt) (f : Addr) (fd : FuncData) : Prop := FunD K x q (defArgs st) (defBody st) (defScope st) [] [] f fd
/-- the def x of the top stands where the module's name says -/
def Pl (K : PySem.W.Frag) (mg : Str → Option Value) (x : Str) (st : Stmt) : Prop := ∃ f fd, FnP K x x st f fd ∧ mg x = some (.ref f)
/-- the def x keeps its promise, by calls at most k deep -/
def Has (P : Program) (w : World) (K : PySem.W.Frag) (mg : Str → Option Value) (base : Heap) (C : CXT) (k : Nat) (x : Str) (ps : List Str) (sp : Sp) : Prop :=
  ∃ f fd, FnOk P w K mg base C k f fd ps sp ∧ mg x = some (.ref f) ∧ PySem.W.keepIn K (.ref f) = true ∧ Binds K fd ps [] ∧ ∃ oc od osl, K.lookup f = some ⟨oc, od, .func fd, osl⟩
section
variable {P : Program} {w : World} {K : PySem.W.Frag} {mg : Str → Option Value} {base : Heap} {x : Str} {st : Stmt} {N ps : List Str} {k : Nat} {sp : Sp}
theorem Pl.mkX {C : CXT} (p : Pl K mg x st) (S : FnScope N ps (defScope st))
    (hb : ∀ (kV doc pm : Value) (an : Option Addr) (cdv ct : Value) (us : List Value), us.length = ps.length → bindArgs (PySem.W.fnOf x x (defArgs st) (defBody st) (defScope st) .none kV doc pm an cdv ct) ⟨us, []⟩ = pure (ps.zip us))
    (len : ∀ vs H Q E, sp vs H Q E → vs.length = ps.length)
    (body : ∀ (f : Addr) (cdv : Value) (A : Around) (outer : List Env) (s : Shared) (H : Hp) (vs : List V) (Q : VK) (E : XK), Room k (A.deeper (envOfC x (defScope st) s.heap.objs.size f cdv)) → sp vs H Q E →
      ∃ t, PSs (cxOf C P w K mg base N x (defScope st) f cdv A outer s H E) (defBody st) t ∧ t { nx := fun _ H' => Q .non H', rt := Q } (start N vs) H) : Has P w K mg base C (k + 1) x ps sp := by
  obtain ⟨f, fd, F, g⟩ := p
  obtain ⟨oc, od, _, _, _, _, _, _, _, osl, _, lk, _⟩ := F.ex
  exact ⟨f, fd, F.ok S len (body f), g, F.kp, F.bindsN hb, oc, od, osl, lk⟩
/-- of the def at f (the law) -/
theorem Has.at {C : CXT} {f : Addr} {fd : FuncData} (h : Has P w K mg base C k x ps sp) (F : FnP K x x st f fd) (g : mg x = some (.ref f)) : FnOk P w K mg base C k f fd ps sp := by
  obtain ⟨f', fd', G, g', _, _, oc, od, osl, lk⟩ := h
  obtain ⟨oc2, od2, _, _, _, _, _, _, _, osl2, _, lk2, _⟩ := F.ex
  have e : f' = f := by
    have z := g'.symm.trans g
    cases z
    rfl
  subst e
  have z := lk.symm.trans lk2
  cases z
  exact G
theorem Pl.mk0 (p : Pl K mg x st) (S : FnScope N ps (defScope st))
    (hb : ∀ (kV doc pm : Value) (an : Option Addr) (cdv ct : Value) (us : List Value), us.length = ps.length → bindArgs (PySem.W.fnOf x x (defArgs st) (defBody st) (defScope st) .none kV doc pm an cdv ct) ⟨us, []⟩ = pure (ps.zip us))
    (len : ∀ vs H Q E, sp vs H Q E → vs.length = ps.length)
    (body : ∀ (f : Addr) (cdv : Value) (A : Around) (outer : List Env) (s : Shared) (H : Hp) (vs : List V) (Q : VK) (E : XK), Room k (A.deeper (envOfC x (defScope st) s.heap.objs.size f cdv)) → sp vs H Q E →
      ∃ t, PSs (cxOf CX0 P w K mg base N x (defScope st) f cdv A outer s H E).nox (defBody st) t ∧ t { nx := fun _ H' => Q .non H', rt := Q } (start N vs) H) : Has P w K mg base CX0 (k + 1) x ps sp :=
  p.mkX S hb len fun f cdv A outer s H vs Q E hr h => by
    obtain ⟨t, a, b⟩ := body f cdv A outer s H vs Q E hr h
    exact ⟨t, a.nox, b⟩
end
section
variable {X : Cx} {C : CXT} {k : Nat} {ps : List Str} {sp : Sp} {E : XK} {x : Str} {p pos : Pos} {e : Expr} {es : List Expr} {t : TA}
theorem pe_fn (h : Has X.prog X.w X.K X.mg X.base C k x ps sp) (hr : Room k X.A) (hx : Passes C X E) (ha : PA X (e :: es) t) (hg : Gl X x := by rfl) (hdb : (x == ("__debug__" : Str)) = false := by decide)
    (he : starEach (e :: es) X.env = (false, eval e X.env) :: starEach es X.env := by rfl) (hpl : (backTo pos (starEach es X.env)).any (·.1) = false := by rfl) : PE X (.Call (.Name x p) (e :: es) [] pos) (tCall sp [] E t) := by
  obtain ⟨f, fd, F, hm, hk, hb, _⟩ := h
  exact pe_call F hr hg hm hk hb .nil hx ha hdb he hpl
theorem pe_fn0 (h : Has X.prog X.w X.K X.mg X.base C k x ps sp) (hr : Room k X.A) (hx : Passes C X E) (hg : Gl X x := by rfl) (hdb : (x == ("__debug__" : Str)) = false := by decide) : PE X (.Call (.Name x p) [] [] pos) (tCall sp [] E tNil) := by
  obtain ⟨f, fd, F, hm, hk, hb, _⟩ := h
  exact pe_call0 F hr hg hm hk hb .nil hx hdb
end
/-! ### sizes of ints -/
/-- of less than n bits -/
structure Bn (n : Nat) (x : Int) : Prop where
  lt : x.natAbs < 2 ^ n
theorem Bn.mono {n m : Nat} {x : Int} (h : Bn n x) (l : n ≤ m) : Bn m x := ⟨Nat.lt_of_lt_of_le h.lt (Nat.pow_le_pow_right (by decide) l)⟩
theorem bnl {n : Nat} {x : Int} (h : x.natAbs < 2 ^ n) : Bn n x := ⟨h⟩
theorem bn0 {n : Nat} : Bn n 0 := ⟨Nat.two_pow_pos _⟩
theorem Bn.mul {n m : Nat} {x y : Int} (h : Bn n x) (k : Bn m y) : Bn (n + m) (x * y) := ⟨wide_lt h.lt k.lt⟩
theorem Bn.add {n m : Nat} {x y : Int} (h : Bn n x) (k : Bn m y) : Bn (n + m + 1) (x + y) := by
  have h1 : x.natAbs < 2 ^ n := h.lt
  have h2 : y.natAbs < 2 ^ m := k.lt
  have a : 2 ^ n ≤ 2 ^ (n + m) := Nat.pow_le_pow_right (by decide) (by omega)
  have b : 2 ^ m ≤ 2 ^ (n + m) := Nat.pow_le_pow_right (by decide) (by omega)
  have c : 2 ^ (n + m + 1) = 2 ^ (n + m) * 2 := Nat.pow_succ 2 (n + m)
  have d := Int.natAbs_add_le x y
  refine ⟨?_⟩
  omega
theorem Bn.le {n : Nat} {x y : Int} (h : Bn n y) (l : x.natAbs ≤ y.natAbs) : Bn n x := ⟨Nat.lt_of_le_of_lt l h.lt⟩
theorem Bn.of_le {n : Nat} {x y : Int} (h : Bn n y) (h0 : 0 ≤ x) (l : x ≤ y) : Bn n x := h.le (by omega)
theorem Bn.neg {n : Nat} {x : Int} (h : Bn n x) : Bn n (-x) := h.le (by omega)
theorem Bn.sub {n m : Nat} {x y : Int} (h : Bn n x) (k : Bn m y) : Bn (n + m + 1) (x - y) := by
  rw [Int.sub_eq_add_neg]
  exact h.add k.neg
theorem Bn.mulOk {n m : Nat} {x y : Int} (h : Bn n x) (k : Bn m y) (l : n + m ≤ 134217728) : CMulX x y := mulx_ok h.lt k.lt l
theorem Bn.divOk {n : Nat} {x y : Int} (k : Bn n y) (p : 0 < y) (h0 : 0 < n) (l : n ≤ 9000) : CDivW x y := wide_div p k.lt h0 l
theorem divOk_lit {x : Int} {y : Int} (p : 0 < y) (l : y < 4294967296) : CDivW x y := wide_div (b := 32) p (by omega) (by decide) (by decide)
theorem Bn.div {n : Nat} {x y : Int} (h : Bn n x) (p : 0 < y) : Bn n (x / y) := by
  refine h.le ?_
  have a := Int.emod_add_mul_ediv x y
  have b := Int.emod_nonneg x (Int.ne_of_gt p)
  have c := Int.emod_lt_of_pos x p
  rcases Int.lt_or_le x 0 with hx | hx
  · -- x < 0: x / y ≥ x
    have d : x / y < 0 := Int.ediv_neg_of_neg_of_pos hx p
    have e : y * (x / y) ≤ 1 * (x / y) := Int.mul_le_mul_of_nonpos_right (by omega) (by omega)
    rcases Int.lt_or_le (x / y) x with f | f
    · have q1 : y * (x / y) ≤ y * (x - 1) := Int.mul_le_mul_of_nonneg_left (by omega) (by omega)
      have q2 : y * (x - 1) = y * x - y := by rw [Int.mul_sub, Int.mul_one]
      have q3 : y * x ≤ 1 * x := Int.mul_le_mul_of_nonpos_right (by omega) (by omega)
      omega
    · omega
  · have d : 0 ≤ x / y := Int.ediv_nonneg hx (Int.le_of_lt p)
    have e : 1 * (x / y) ≤ y * (x / y) := Int.mul_le_mul_of_nonneg_right (by omega) d
    omega
theorem Bn.mod {n : Nat} {x y : Int} (h : Bn n y) (p : 0 < y) : Bn n (x % y) := h.of_le (Int.emod_nonneg x (Int.ne_of_gt p)) (Int.le_of_lt (Int.emod_lt_of_pos x p))
theorem bn_bits {n : Nat} {x : Int} (h : Builtin.Int.intBits x ≤ n) : Bn (n + 1) x := by
  unfold Builtin.Int.intBits at h
  refine ⟨?_⟩
  split at h
  · rename_i z
    have e : x = 0 := by simpa using z
    rw [e]
    exact Nat.two_pow_pos _
  · have a : x.natAbs < 2 ^ (x.natAbs.log2 + 1) := Nat.lt_log2_self
    exact Nat.lt_of_lt_of_le a (Nat.pow_le_pow_right (by decide) (by omega))
theorem mulOk_left {x y : Int} (h : x.natAbs < 4294967296) (k : Bn 100000000 y) : CMulX x y := mulx_ok (a := 32) h k.lt (by decide)
/-- a size of the program: from 1 on, of less than 2000 bits -/
structure Sz (x : Int) : Prop where
  pos : 0 < x
  bn : Bn 2000 x
/-! ### heaps that grow -/
theorem same_upd {H : Hp} {p : Addr} {o : HO} (h : H p = none) : Same H (upd H p o) := fun b x e => by
  rw [upd_ne (ne_of_none e h)]
  exact e
theorem newH {H H2 : Hp} {p : Addr} {o : HO} (e : upd H p o = H2) (hp : H p = none) : Same H H2 ∧ H2 p = some o := by
  rw [← e]
  exact ⟨same_upd hp, upd_same⟩
theorem Same.tup {K : PySem.W.Frag} {H H' : Hp} {a : Addr} {xs : List V} (e : Same H H') (h : SqT K H a xs) : SqT K H' a xs := by
  rcases h with (h | ⟨o, h⟩) | h
  · exact .inl (.inl (e _ _ h))
  · exact .inl (.inr ⟨o, e _ _ h⟩)
  · exact .inr h
theorem sqL {K : PySem.W.Frag} {H : Hp} {a : Addr} {xs : List V} (h : H a = some (.lst xs)) : SqL K H a xs := .inl (.inl h)
theorem sqT {K : PySem.W.Frag} {H : Hp} {a : Addr} {xs : List V} (h : H a = some (.tup xs)) : SqT K H a xs := .inl (.inl h)
/-- the int that a slot holds, as a measure -/
def slotN (σ : L2.St) (i : Nat) : Nat := match σ[i]? with
  | some (some (.int n)) => n.toNat
  | _ => 0
section
variable {A B : Prop} {i j : Int}
theorem iteD {p : Prop} [Decidable p] (h1 : p → A) (h2 : ¬ p → B) : if decide p = true then A else B := ite2 (fun c => h1 (of_decide_eq_true c)) fun c => h2 fun z => c (decide_eq_true z)
theorem iteEq (h1 : i = j → A) (h2 : i ≠ j → B) : if decide (V.int i = V.int j) = true then A else B := iteD (fun c => h1 (V.int.inj c)) fun c => h2 fun z => c (by rw [z])
theorem iteNe (h1 : i ≠ j → A) (h2 : i = j → B) : if (!decide (V.int i = V.int j)) = true then A else B := by
  by_cases c : i = j
  · rw [decide_eq_true (show V.int i = V.int j by rw [c])]
    exact iteF (h2 c)
  · rw [decide_eq_false (show ¬ V.int i = V.int j from fun z => c (V.int.inj z))]
    exact iteT (h1 c)
theorem iteP {p : Prop} [Decidable p] (hp : p) (h : A) : if decide p = true then A else B := by
  rw [decide_eq_true hp]
  exact iteT h
theorem iteN {p : Prop} [Decidable p] (hp : ¬ p) (h : B) : if decide p = true then A else B := by
  rw [decide_eq_false hp]
  exact iteF h
theorem iteNP {p : Prop} [Decidable p] (hp : p) (h : B) : if (!decide p) = true then A else B := by
  rw [decide_eq_true hp]
  exact iteF h
theorem iteNN {p : Prop} [Decidable p] (hp : ¬ p) (h : A) : if (!decide p) = true then A else B := by
  rw [decide_eq_false hp]
  exact iteT h
theorem iteB {b : Bool} (h1 : b = true → A) (h2 : b = false → B) : if b = true then A else B := by
  cases b with
  | true => exact iteT (h1 rfl)
  | false => exact iteF (h2 rfl)
end
theorem lc_yes {σ : L2.St} {H : Hp} {A B : Hp → Prop} (h : A H) : tYes σ H fun b H3 => if b = true then A H3 else B H3 := by
  show if true = true then A H else B H
  rw [if_pos rfl]
  exact h
/-- if t: .. where t is not so, in whatever way it is told -/
theorem if_no {T : TT} {R U : TS} {D : Ends} {σ : L2.St} {H H' : Hp} (hT : ∀ r : Bool → Hp → Prop, r false H' → T σ H r) (hU : U D σ H') : tSeq (tIfS T R tNext) U D σ H :=
  hT _ (by
    show if false = true then _ else _
    exact iteF hU)
theorem tn {D : Ends} {σ : L2.St} {H : Hp} (h : D.nx σ H) : tNext D σ H := h
/-- go on from a word -/
theorem enter {t : TS} {D : Ends} {σ : L2.St} {H : Hp} (M : L2.St → Hp → Prop) (h : M σ H) (k : ∀ σ H, M σ H → t D σ H) : t D σ H := k σ H h
theorem size4 {n : Nat} (h : n ≤ 1000000) : n ≤ sizeLine := Nat.le_trans h (by decide)
end BF

/-! Plain mathematics: a size as a sum of two others, the fewest of the first one. -/
namespace BF
/-- m of the first and n of the second make the size -/
def Rep (s a b m n : Int) : Prop := 0 ≤ m ∧ 0 ≤ n ∧ m * a + n * b = s
def IsParts (s a b : Int) : Option (Int × Int) → Prop
  | none => ∀ m n, ¬ Rep s a b m n
  | some x => Rep s a b x.1 x.2 ∧ ∀ m n, Rep s a b m n → x.1 ≤ m
theorem IsParts.unique {s a b : Int} (hb : 0 < b) : ∀ {x y : Option (Int × Int)}, IsParts s a b x → IsParts s a b y → x = y
  | none, none, _, _ => rfl
  | none, some y, h, k => absurd k.1 (h _ _)
  | some x, none, h, k => absurd h.1 (k _ _)
  | some (m, n), some (m', n'), h, k => by
    have h1 := h.2 _ _ k.1
    have h2 := k.2 _ _ h.1
    have e : m = m' := Int.le_antisymm h1 h2
    subst e
    have e1 := h.1.2.2
    have e2 := k.1.2.2
    simp only at e1 e2
    have e3 : n * b = n' * b := by omega
    have e4 : n = n' := Int.eq_of_mul_eq_mul_right (Int.ne_of_gt hb) e3
    rw [e4]
open Classical in
/-- how s is a sum of a and b -/
noncomputable def parts (s a b : Int) : Option (Int × Int) := if h : ∃ x, IsParts s a b x then h.choose else none
theorem parts_eq {s a b : Int} {x : Option (Int × Int)} (hb : 0 < b) (h : IsParts s a b x) : parts s a b = x := by
  unfold parts
  have e : ∃ x, IsParts s a b x := ⟨x, h⟩
  rw [dif_pos e]
  exact IsParts.unique hb e.choose_spec h
/-- g goes into both, t of the first leave it by the second -/
structure Good (a b g t : Int) : Prop where
  pos : 0 < g
  ga : g ∣ a
  gb : g ∣ b
  mod : b ∣ t * a - g
theorem few_core {s a b g t : Int} (ha : 0 < a) (hb : 0 < b) (G : Good a b g t) (hs : g ∣ s) :
    b ∣ s - (s / g * t % (b / g)) * a ∧ 0 ≤ s / g * t % (b / g) ∧ ∀ m, 0 ≤ m → b ∣ s - m * a → s / g * t % (b / g) ≤ m := by
  obtain ⟨hg, ⟨a', ea⟩, ⟨b', eb⟩, ⟨k, ek⟩⟩ := G
  obtain ⟨s', es⟩ := hs
  have hb' : 0 < b' := by
    have h2 : 0 < g * b' := by rw [← eb]; exact hb
    rcases Int.lt_or_le 0 b' with h | h
    · exact h
    · have h3 : g * b' ≤ g * 0 := Int.mul_le_mul_of_nonneg_left h (Int.le_of_lt hg)
      omega
  have e1 : s / g = s' := by rw [es]; exact Int.mul_ediv_cancel_left s' (Int.ne_of_gt hg)
  have e2 : b / g = b' := by rw [eb]; exact Int.mul_ediv_cancel_left b' (Int.ne_of_gt hg)
  rw [e1, e2]
  have hmod := Int.emod_add_mul_ediv (s' * t) b'
  generalize hf : s' * t % b' = f at hmod ⊢
  generalize s' * t / b' = q at hmod
  have h0 : 0 ≤ f := by rw [← hf]; exact Int.emod_nonneg _ (Int.ne_of_gt hb')
  have h1 : f < b' := by rw [← hf]; exact Int.emod_lt_of_pos _ hb'
  have key : b ∣ s - f * a := by
    -- f = s't - b'q, so s - f a = s - s't a + b' q a = s - s'(g + bk) + b'q g a' = b (q a' - s' k)
    refine ⟨q * a' - s' * k, ?_⟩
    have ef : f = s' * t - b' * q := by omega
    have et : t * a = g + b * k := by omega
    calc s - f * a = s - (s' * t - b' * q) * a := by rw [ef]
      _ = s - s' * (t * a) + b' * q * a := by rw [Int.sub_mul, Int.mul_assoc s' t a]; omega
      _ = s - s' * (g + b * k) + b' * q * (g * a') := by rw [et, ← ea]
      _ = b * (q * a' - s' * k) := by
        rw [Int.mul_add, Int.mul_sub, es, eb]
        have x1 : s' * g = g * s' := Int.mul_comm _ _
        have x2 : s' * (g * b' * k) = g * b' * (s' * k) := by
          rw [Int.mul_left_comm]
        have x3 : b' * q * (g * a') = g * b' * (q * a') := by
          rw [Int.mul_comm g b', Int.mul_assoc b' q, Int.mul_assoc b' g, Int.mul_left_comm q g a']
        rw [x1, x2, x3]
        omega
  refine ⟨key, h0, fun m hm hd => ?_⟩
  -- b | (m - f) a, so b | (m - f) g, so b' | m - f
  have d1 : b ∣ (m - f) * a := by
    have : (m - f) * a = (s - f * a) - (s - m * a) := by rw [Int.sub_mul]; omega
    rw [this]
    exact Int.dvd_sub key hd
  have d2 : b ∣ (m - f) * g := by
    have e3 : (m - f) * g = (m - f) * a * t - b * ((m - f) * k) := by
      have et : t * a = g + b * k := by omega
      have : (m - f) * a * t = (m - f) * (t * a) := by rw [Int.mul_assoc, Int.mul_comm a t]
      rw [this, et, Int.mul_add, Int.mul_left_comm (m - f) b k]
      omega
    rw [e3]
    exact Int.dvd_sub (Int.dvd_trans d1 (Int.dvd_mul_right _ _)) (Int.dvd_mul_right _ _)
  have d3 : b' ∣ m - f := by
    obtain ⟨c, ec⟩ := d2
    refine ⟨c, ?_⟩
    have : g * (m - f) = g * (b' * c) := by rw [Int.mul_comm g (m - f), ec, eb, Int.mul_assoc]
    exact Int.eq_of_mul_eq_mul_left (Int.ne_of_gt hg) this
  obtain ⟨c, ec⟩ := d3
  -- m = f + b' c with m ≥ 0, f < b': c ≥ 0
  have hc : 0 ≤ c := by
    rcases Int.lt_or_le c 0 with hc | hc
    · have h2 : b' * c ≤ b' * (-1) := Int.mul_le_mul_of_nonneg_left (by omega) (Int.le_of_lt hb')
      omega
    · exact hc
  have h3 : 0 ≤ b' * c := Int.mul_nonneg (Int.le_of_lt hb') hc
  omega
theorem parts_good {s a b g t : Int} (ha : 0 < a) (hb : 0 < b) (G : Good a b g t) :
    parts s a b = if s % g ≠ 0 then none else if s / g * t % (b / g) * a > s then none else some (s / g * t % (b / g), (s - s / g * t % (b / g) * a) / b) := by
  refine parts_eq hb ?_
  by_cases hs : s % g ≠ 0
  · rw [if_pos hs]
    rintro m n ⟨_, _, e⟩
    refine hs (Int.emod_eq_zero_of_dvd ?_)
    rw [← e]
    exact Int.dvd_add (Int.dvd_trans G.ga (Int.dvd_mul_left _ _)) (Int.dvd_trans G.gb (Int.dvd_mul_left _ _))
  · rw [if_neg hs]
    have hd : g ∣ s := Int.dvd_of_emod_eq_zero (by omega)
    obtain ⟨k1, k2, k3⟩ := few_core ha hb G hd
    generalize s / g * t % (b / g) = f at k1 k2 k3
    have least : ∀ m n, Rep s a b m n → f ≤ m := fun m n ⟨h1, h2, h3⟩ => k3 m h1 ⟨n, by rw [Int.mul_comm b n]; omega⟩
    by_cases hf : f * a > s
    · rw [if_pos hf]
      rintro m n R
      have l := least m n R
      obtain ⟨h1, h2, h3⟩ := R
      have p1 : f * a ≤ m * a := Int.mul_le_mul_of_nonneg_right l (Int.le_of_lt ha)
      have p2 : 0 ≤ n * b := Int.mul_nonneg h2 (Int.le_of_lt hb)
      omega
    · rw [if_neg hf]
      refine ⟨⟨k2, Int.ediv_nonneg (by omega) (Int.le_of_lt hb), ?_⟩, least⟩
      show f * a + (s - f * a) / b * b = s
      rw [Int.ediv_mul_cancel k1]
      omega
/-- the law's number: the fewest of the first, -1 where there is none -/
def fewI : Option (Int × Int) → Int
  | none => -1
  | some x => x.1
theorem parts_some {s a b m n : Int} (hb : 0 < b) (h : parts s a b = some (m, n)) (ex : ∃ x, IsParts s a b x) : IsParts s a b (some (m, n)) := by
  obtain ⟨x, hx⟩ := ex
  have e := parts_eq hb hx
  rw [h] at e
  rw [e]
  exact hx
end BF

/-! ### plain mathematics of the loop in shared -/
namespace BF
structure ShInv (a b one other mine theirs : Int) : Prop where
  o1 : 0 < one
  o2 : 0 ≤ other
  l1 : one ≤ a ∨ one ≤ b
  l2 : other ≤ b
  dv : ∀ d : Int, (d ∣ one ∧ d ∣ other) ↔ (d ∣ a ∧ d ∣ b)
  m1 : b ∣ mine * a - one
  m2 : b ∣ theirs * a - other
  bd : ∃ M T : Int, 0 ≤ M ∧ 0 ≤ T ∧ M ≤ b ∧ T ≤ b ∧ T * one + M * other = b ∧ ((mine = M ∧ theirs = -T) ∨ (mine = -M ∧ theirs = T))
theorem ShInv.start {a b : Int} (ha : 0 < a) (hb : 0 < b) : ShInv a b a b 1 0 where
  o1 := ha
  o2 := Int.le_of_lt hb
  l1 := .inl (Int.le_refl _)
  l2 := Int.le_refl _
  dv := fun d => Iff.rfl
  m1 := by rw [Int.one_mul, Int.sub_self]; exact Int.dvd_zero b
  m2 := by rw [Int.zero_mul, Int.zero_sub]; exact Int.dvd_neg.mpr (Int.dvd_refl b)
  bd := ⟨1, 0, by omega, by omega, by omega, by omega, by omega, .inl ⟨rfl, by omega⟩⟩
theorem ShInv.turn {a b one other mine theirs : Int} (h : ShInv a b one other mine theirs) (ho : 0 < other) :
    ShInv a b other (one - one / other * other) theirs (mine - one / other * theirs) ∧ one - one / other * other < other ∧ 0 ≤ one - one / other * other := by
  obtain ⟨o1, o2, l1, l2, dv, m1, m2, M, T, hM, hT, lM, lT, e, sg⟩ := h
  have hm : one - one / other * other = one % other := by
    have := Int.emod_add_mul_ediv one other
    rw [Int.mul_comm] at this
    omega
  have h0 : 0 ≤ one % other := Int.emod_nonneg _ (Int.ne_of_gt ho)
  have h1 : one % other < other := Int.emod_lt_of_pos _ ho
  have hq : 0 ≤ one / other := Int.ediv_nonneg (Int.le_of_lt o1) o2
  refine ⟨?_, by omega, by omega⟩
  generalize hqq : one / other = q at *
  have key : (M + q * T) * other + T * (one - q * other) = b := by
    have x1 : (M + q * T) * other = M * other + q * T * other := Int.add_mul _ _ _
    have x2 : T * (one - q * other) = T * one - q * T * other := by rw [Int.mul_sub, ← Int.mul_assoc, Int.mul_comm T q]
    omega
  have hqT : 0 ≤ q * T := Int.mul_nonneg hq hT
  have hn : 0 ≤ T * (one - q * other) := Int.mul_nonneg hT (by omega)
  have l3 : M + q * T ≤ b := by
    have : (M + q * T) * 1 ≤ (M + q * T) * other := Int.mul_le_mul_of_nonneg_left (by omega) (by omega)
    omega
  refine ⟨ho, by omega, .inr l2, by omega, fun d => ?_, m2, ?_, T, M + q * T, hT, by omega, lT, l3, key, ?_⟩
  · rw [← dv d]
    constructor
    · rintro ⟨a1, a2⟩
      refine ⟨?_, a1⟩
      have : one = (one - q * other) + q * other := by omega
      rw [this]
      exact Int.dvd_add a2 (Int.dvd_trans a1 (Int.dvd_mul_left _ _))
    · rintro ⟨a1, a2⟩
      exact ⟨a2, Int.dvd_sub a1 (Int.dvd_trans a2 (Int.dvd_mul_left _ _))⟩
  · have : (mine - q * theirs) * a - (one - q * other) = (mine * a - one) - q * (theirs * a - other) := by
      rw [Int.sub_mul, Int.mul_sub, Int.mul_assoc]
      omega
    rw [this]
    exact Int.dvd_sub m1 (Int.dvd_trans m2 (Int.dvd_mul_left _ _))
  · rcases sg with ⟨r1, r2⟩ | ⟨r1, r2⟩
    · right
      subst r1 r2
      refine ⟨rfl, ?_⟩
      rw [Int.mul_neg]
      omega
    · left
      subst r1 r2
      exact ⟨rfl, by omega⟩
theorem ShInv.done {a b one mine theirs : Int} (ha : 0 < a) (hb : 0 < b) (h : ShInv a b one 0 mine theirs) : Good a b one (mine % b) ∧ one ≤ b := by
  have d := (h.dv one).mp ⟨Int.dvd_refl _, Int.dvd_zero _⟩
  refine ⟨⟨h.o1, d.1, d.2, ?_⟩, Int.le_of_dvd hb d.2⟩
  have e : mine % b * a - one = (mine * a - one) - b * (mine / b * a) := by
    have := Int.emod_add_mul_ediv mine b
    have x : mine % b = mine - b * (mine / b) := by omega
    rw [x, Int.sub_mul, Int.mul_assoc]
    omega
  rw [e]
  exact Int.dvd_sub h.m1 (Int.dvd_mul_right _ _)
theorem ShInv.theirs_le {a b one other mine theirs : Int} (h : ShInv a b one other mine theirs) : theirs.natAbs ≤ b.natAbs ∧ mine.natAbs ≤ b.natAbs := by
  obtain ⟨M, T, hM, hT, lM, lT, _, sg⟩ := h.bd
  rcases sg with ⟨r1, r2⟩ | ⟨r1, r2⟩ <;> (subst r1 r2; omega)
end BF

/-! ### plain mathematics of the law's own reckoning: the divisions' rows, and the way back -/
namespace BF
/-- rows: the quotients of the divisions that begin at one, other -/
inductive Eu : Int → Int → List Int → Prop where
  | nil {one : Int} (h : 0 < one) : Eu one 0 []
  | cons {one other : Int} {r : List Int} (h1 : 0 < one) (h2 : 0 < other) (h : Eu other (one % other) r) : Eu one other (one / other :: r)
def back : List Int → Int × Int
  | [] => (1, 0)
  | q :: r => ((back r).2, (back r).1 - q * (back r).2)
theorem Eu.pos : ∀ {one other : Int} {r : List Int}, Eu one other r → 0 < one ∧ 0 ≤ other
  | _, _, _, .nil h => ⟨h, Int.le_refl _⟩
  | _, _, _, .cons h1 h2 _ => ⟨h1, Int.le_of_lt h2⟩
theorem Eu.back : ∀ {one other : Int} {r : List Int}, Eu one other r → ∃ g, 0 < g ∧ (∀ d : Int, d ∣ g ↔ d ∣ one ∧ d ∣ other) ∧ (back r).1 * one + (back r).2 * other = g ∧ (r ≠ [] → (BF.back r).1.natAbs ≤ other.natAbs ∧ (BF.back r).2.natAbs ≤ one.natAbs)
  | _, _, _, .nil (one := one) h => by
    refine ⟨one, h, fun d => ⟨fun e => ⟨e, Int.dvd_zero d⟩, fun e => e.1⟩, ?_, fun z => absurd rfl z⟩
    show (1 : Int) * one + 0 * 0 = one
    omega
  | _, _, _, .cons (one := one) (other := other) (r := r) h1 h2 h => by
    obtain ⟨g, hg, dv, e, bd⟩ := Eu.back h
    have hm := Int.emod_add_mul_ediv one other
    have hq : 0 ≤ one / other := Int.ediv_nonneg (Int.le_of_lt h1) (Int.le_of_lt h2)
    have hr0 : 0 ≤ one % other := Int.emod_nonneg _ (Int.ne_of_gt h2)
    refine ⟨g, hg, fun d => ?_, ?_, fun _ => ?_⟩
    · rw [dv d]
      constructor
      · rintro ⟨a1, a2⟩
        refine ⟨?_, a1⟩
        rw [← hm]
        exact Int.dvd_add a2 (Int.dvd_trans a1 (Int.dvd_mul_right _ _))
      · rintro ⟨a1, a2⟩
        refine ⟨a2, ?_⟩
        have : one % other = one - other * (one / other) := by omega
        rw [this]
        exact Int.dvd_sub a1 (Int.dvd_trans a2 (Int.dvd_mul_right _ _))
    · show (BF.back r).2 * one + ((BF.back r).1 - one / other * (BF.back r).2) * other = g
      generalize (BF.back r).1 = m at *
      generalize (BF.back r).2 = t at *
      generalize one / other = q at *
      have x1 : (m - q * t) * other = m * other - t * (other * q) := by
        rw [Int.sub_mul, Int.mul_comm q t, Int.mul_assoc, Int.mul_comm q other]
      have x2 : t * one = t * (one % other) + t * (other * q) := by rw [← Int.mul_add, hm]
      omega
    · show (BF.back r).2.natAbs ≤ other.natAbs ∧ ((BF.back r).1 - one / other * (BF.back r).2).natAbs ≤ one.natAbs
      cases r with
      | nil =>
        show (0 : Int).natAbs ≤ other.natAbs ∧ ((1 : Int) - one / other * 0).natAbs ≤ one.natAbs
        omega
      | cons q' r' =>
        obtain ⟨b1, b2⟩ := bd (by simp)
        refine ⟨b2, ?_⟩
        generalize (BF.back (q' :: r')).1 = m at *
        generalize (BF.back (q' :: r')).2 = t at *
        have x3 : (one / other * t).natAbs ≤ (other * (one / other)).natAbs := by
          rw [Int.natAbs_mul, Int.natAbs_mul, Nat.mul_comm other.natAbs]
          exact Nat.mul_le_mul_left _ b2
        have x4 : 0 ≤ other * (one / other) := Int.mul_nonneg (Int.le_of_lt h2) hq
        omega
theorem Eu.drop {B : Int} : ∀ {one other : Int} {r : List Int}, Eu one other r → one ≤ B → other ≤ B → ∀ k, k ≤ r.length → ∃ x y, Eu x y (r.drop k) ∧ x ≤ B ∧ y ≤ B
  | _, _, _, .nil h, l1, l2, k, hk => ⟨_, _, by rw [List.drop_nil]; exact .nil h, l1, l2⟩
  | _, _, _, .cons h1 h2 h, l1, l2, 0, _ => ⟨_, _, .cons h1 h2 h, l1, l2⟩
  | _, _, _, .cons (one := one) (other := other) h1 h2 h, l1, l2, k + 1, hk => by
    have h3 : one % other < other := Int.emod_lt_of_pos _ h2
    exact Eu.drop h l2 (by omega) k (by simpa using hk)
theorem emod_le_self {x y : Int} (h : 0 < x) (hy : 0 < y) : x % y ≤ x := by
  have hm := Int.emod_add_mul_ediv x y
  have hq : 0 ≤ x / y := Int.ediv_nonneg (Int.le_of_lt h) (Int.le_of_lt hy)
  have : 0 ≤ y * (x / y) := Int.mul_nonneg (Int.le_of_lt hy) hq
  omega
/-- the loop that gathers the rows -/
structure FwInv (a b : Int) (rows : List Int) (one other : Int) : Prop where
  o1 : 0 < one
  o2 : 0 ≤ other
  l1 : one ≤ a ∨ one ≤ b
  l2 : other ≤ b
  go : ∀ r, Eu one other r → Eu a b (rows ++ r)
  less : rows ≠ [] → other < one
  fst : rows = [] → one = a ∧ other = b
  len : one * other * 2 ^ rows.length ≤ 2 * (a * b)
theorem FwInv.start {a b : Int} (ha : 0 < a) (hb : 0 < b) : FwInv a b [] a b where
  o1 := ha
  o2 := Int.le_of_lt hb
  l1 := .inl (Int.le_refl _)
  l2 := Int.le_refl _
  go := fun r h => h
  less := fun z => absurd rfl z
  fst := fun _ => ⟨rfl, rfl⟩
  len := by
    have : 0 < a * b := Int.mul_pos ha hb
    show a * b * 1 ≤ 2 * (a * b)
    omega
theorem FwInv.turn {a b one other : Int} {rows : List Int} (h : FwInv a b rows one other) (ho : 0 < other) : FwInv a b (rows ++ [one / other]) other (one % other) := by
  obtain ⟨o1, o2, l1, l2, go, less, fst, len⟩ := h
  have h0 : 0 ≤ one % other := Int.emod_nonneg _ (Int.ne_of_gt ho)
  have h1 : one % other < other := Int.emod_lt_of_pos _ ho
  refine ⟨ho, h0, .inr l2, by omega, fun r hr => ?_, fun _ => h1, fun z => by simp at z, ?_⟩
  · rw [List.append_assoc]
    exact go _ (.cons o1 ho hr)
  · rw [List.length_append, List.length_singleton, Int.pow_succ]
    have hp : (0 : Int) ≤ 2 ^ rows.length := Int.pow_nonneg (by decide)
    cases rows with
    | nil =>
      show other * (one % other) * (1 * 2) ≤ 2 * (a * b)
      obtain ⟨e1, e2⟩ := fst rfl
      subst e1 e2
      have x : other * (one % other) ≤ other * one := Int.mul_le_mul_of_nonneg_left (emod_le_self o1 ho) o2
      rw [Int.mul_comm other one] at x
      omega
    | cons q r =>
      have hl := less (by simp)
      have x : 2 * (one % other) ≤ one := by
        have hm := Int.emod_add_mul_ediv one other
        have hq : 1 ≤ one / other := by
          rcases Int.lt_or_le (one / other) 1 with c | c
          · have : other * (one / other) ≤ other * 0 := Int.mul_le_mul_of_nonneg_left (by omega) o2
            omega
          · exact c
        have : other * 1 ≤ other * (one / other) := Int.mul_le_mul_of_nonneg_left hq o2
        omega
      have y : other * (one % other) * ((2 : Int) ^ (q :: r).length * 2) = (other * (2 * (one % other))) * 2 ^ (q :: r).length := by
        rw [Int.mul_comm ((2 : Int) ^ (q :: r).length) 2, ← Int.mul_assoc, Int.mul_assoc other, Int.mul_comm (one % other) 2]
      rw [y]
      refine Int.le_trans (Int.mul_le_mul_of_nonneg_right ?_ hp) len
      rw [Int.mul_comm one other]
      exact Int.mul_le_mul_of_nonneg_left x o2
theorem two_pow_cast (n : Nat) : ((2 ^ n : Nat) : Int) = (2 : Int) ^ n := by
  rw [Int.natCast_pow]
  rfl
/-- at most 4001 rows -/
theorem FwInv.few {a b one other : Int} {rows : List Int} (h : FwInv a b rows one other) (ho : 0 < other) (ha : a.natAbs < 2 ^ 2000) (hb : b.natAbs < 2 ^ 2000) : rows.length ≤ 4001 := by
  have e := h.len
  have h1 : 1 ≤ one * other := Int.mul_pos h.o1 ho
  have hp : (0 : Int) ≤ 2 ^ rows.length := by
    rw [← two_pow_cast]
    exact Int.natCast_nonneg _
  have h2 : (1 : Int) * 2 ^ rows.length ≤ one * other * 2 ^ rows.length := Int.mul_le_mul_of_nonneg_right h1 hp
  have h3 : (a * b).natAbs < 2 ^ 4000 := by
    rw [Int.natAbs_mul, show (4000 : Nat) = 2000 + 2000 from rfl, Nat.pow_add]
    exact Nat.mul_lt_mul'' ha hb
  have h4 : ((2 ^ rows.length : Nat) : Int) ≤ 2 * (a * b) := by
    rw [two_pow_cast]
    omega
  have h5 : 2 ^ rows.length < 2 ^ 4001 := by
    rw [show (4001 : Nat) = 4000 + 1 from rfl, Nat.pow_succ]
    generalize 2 ^ 4000 = Z at *
    generalize 2 ^ rows.length = Y at *
    omega
  have h6 : rows.length < 4001 := (Nat.pow_lt_pow_iff_right (by decide)).mp h5
  omega
/-- the law's way back gives what the program's way gives -/
theorem few_back {s a b g g2 : Int} {rows : List Int} (hs : 0 < s) (ha : 0 < a) (hb : 0 < b) (hg : 0 < g) (dg : ∀ d : Int, d ∣ g ↔ d ∣ a ∧ d ∣ b) (E : Eu (a / g) (b / g) rows) (hz : s % g = 0) :
    fewI (parts s a b) = if s / g * (back rows).1 % (b / g) * (a / g) ≤ s / g then s / g * (back rows).1 % (b / g) else -1 := by
  obtain ⟨da, db⟩ := (dg g).mp (Int.dvd_refl g)
  obtain ⟨a', ea⟩ := da
  obtain ⟨b', eb⟩ := db
  obtain ⟨s', es⟩ := Int.dvd_of_emod_eq_zero hz
  have e1 : s / g = s' := by rw [es]; exact Int.mul_ediv_cancel_left s' (Int.ne_of_gt hg)
  have e2 : b / g = b' := by rw [eb]; exact Int.mul_ediv_cancel_left b' (Int.ne_of_gt hg)
  have e3 : a / g = a' := by rw [ea]; exact Int.mul_ediv_cancel_left a' (Int.ne_of_gt hg)
  rw [e2, e3] at E
  obtain ⟨h, hh, dh, eh, _⟩ := E.back
  have h1 : h = 1 := by
    obtain ⟨x1, x2⟩ := (dh h).mp (Int.dvd_refl h)
    have d1 : g * h ∣ g := (dg _).mpr ⟨by rw [ea]; exact Int.mul_dvd_mul_left g x1, by rw [eb]; exact Int.mul_dvd_mul_left g x2⟩
    have l1 := Int.le_of_dvd hg d1
    rcases Int.lt_or_le 1 h with c | c
    · have : g * 2 ≤ g * h := Int.mul_le_mul_of_nonneg_left (by omega) (Int.le_of_lt hg)
      omega
    · omega
  have G : Good a b g (back rows).1 := by
    refine ⟨hg, ⟨a', ea⟩, ⟨b', eb⟩, -(back rows).2, ?_⟩
    rw [h1] at eh
    generalize (back rows).1 = m at *
    generalize (back rows).2 = t at *
    have x1 : m * a = g * (m * a') := by rw [ea, Int.mul_left_comm]
    have x2 : b * -t = -(g * (t * b')) := by rw [Int.mul_neg, eb, Int.mul_assoc, Int.mul_comm b' t]
    have x3 : g * (m * a' + t * b') = g * 1 := by rw [eh]
    rw [Int.mul_add] at x3
    omega
  rw [parts_good ha hb G, if_neg (by simp [hz]), e1, e2, e3]
  have key : (s' * (back rows).1 % b' * a > s) ↔ ¬ (s' * (back rows).1 % b' * a' ≤ s') := by
    generalize s' * (back rows).1 % b' = f
    have x : f * a = g * (f * a') := by rw [ea, Int.mul_left_comm]
    rw [x, es]
    constructor
    · intro q z
      have := Int.mul_le_mul_of_nonneg_left z (Int.le_of_lt hg)
      omega
    · intro q
      have := Int.mul_lt_mul_of_pos_left (show s' < f * a' by omega) hg
      omega
  by_cases c : s' * (back rows).1 % b' * a' ≤ s'
  · rw [if_neg (fun z => key.mp z c), if_pos c]
    rfl
  · rw [if_pos (key.mpr c), if_neg c]
    rfl
theorem few_none {s a b g : Int} (hb : 0 < b) (dg : ∀ d : Int, d ∣ g ↔ d ∣ a ∧ d ∣ b) (hz : s % g ≠ 0) : fewI (parts s a b) = -1 := by
  have e : parts s a b = none := parts_eq hb (x := none) (by
    rintro m n ⟨_, _, e⟩
    obtain ⟨x1, x2⟩ := (dg g).mp (Int.dvd_refl g)
    refine hz (Int.emod_eq_zero_of_dvd ?_)
    rw [← e]
    exact Int.dvd_add (Int.dvd_trans x1 (Int.dvd_mul_left _ _)) (Int.dvd_trans x2 (Int.dvd_mul_left _ _)))
  rw [e]
  rfl
end BF

/-! ### there is always an answer; a search among few -/
namespace BF
theorem eu_ex : ∀ (n : Nat) (a b : Int), 0 < a → 0 ≤ b → b.toNat ≤ n → ∃ rows, Eu a b rows
  | 0, a, b, ha, hb, h => by
    have e : b = 0 := by omega
    subst e
    exact ⟨[], .nil ha⟩
  | n + 1, a, b, ha, hb, h => by
    rcases Int.lt_or_le 0 b with c | c
    · have h0 : 0 ≤ a % b := Int.emod_nonneg _ (Int.ne_of_gt c)
      have h1 : a % b < b := Int.emod_lt_of_pos _ c
      obtain ⟨r, hr⟩ := eu_ex n b (a % b) c h0 (by omega)
      exact ⟨_, .cons ha c hr⟩
    · have e : b = 0 := by omega
      subst e
      exact ⟨[], .nil ha⟩
theorem good_ex {a b : Int} (ha : 0 < a) (hb : 0 < b) : ∃ g t, Good a b g t := by
  obtain ⟨rows, E⟩ := eu_ex _ a b ha (Int.le_of_lt hb) (Nat.le_refl _)
  obtain ⟨g, hg, dv, e, _⟩ := E.back
  obtain ⟨d1, d2⟩ := (dv g).mp (Int.dvd_refl g)
  refine ⟨g, (back rows).1, hg, d1, d2, -(back rows).2, ?_⟩
  rw [Int.mul_neg, Int.mul_comm b]
  omega
theorem parts_is {s a b : Int} (ha : 0 < a) (hb : 0 < b) : IsParts s a b (parts s a b) := by
  obtain ⟨g, t, G⟩ := good_ex ha hb
  have ex : ∃ x, IsParts s a b x := by
    by_cases hs : s % g ≠ 0
    · refine ⟨none, ?_⟩
      rintro m n ⟨_, _, e⟩
      refine hs (Int.emod_eq_zero_of_dvd ?_)
      rw [← e]
      exact Int.dvd_add (Int.dvd_trans G.ga (Int.dvd_mul_left _ _)) (Int.dvd_trans G.gb (Int.dvd_mul_left _ _))
    · have hd : g ∣ s := Int.dvd_of_emod_eq_zero (by omega)
      obtain ⟨k1, k2, k3⟩ := few_core ha hb G hd
      generalize s / g * t % (b / g) = f at k1 k2 k3
      have least : ∀ m n, Rep s a b m n → f ≤ m := fun m n ⟨h1, h2, h3⟩ => k3 m h1 ⟨n, by rw [Int.mul_comm b n]; omega⟩
      by_cases hf : f * a > s
      · refine ⟨none, ?_⟩
        rintro m n R
        have l := least m n R
        obtain ⟨h1, h2, h3⟩ := R
        have p1 : f * a ≤ m * a := Int.mul_le_mul_of_nonneg_right l (Int.le_of_lt ha)
        have p2 : 0 ≤ n * b := Int.mul_nonneg h2 (Int.le_of_lt hb)
        omega
      · refine ⟨some (f, (s - f * a) / b), ⟨k2, Int.ediv_nonneg (by omega) (Int.le_of_lt hb), ?_⟩, least⟩
        show f * a + (s - f * a) / b * b = s
        rw [Int.ediv_mul_cancel k1]
        omega
  obtain ⟨x, hx⟩ := ex
  rw [parts_eq hb hx]
  exact hx
theorem few_neg {s a b : Int} (ha : 0 < a) (hb : 0 < b) : fewI (parts s a b) < 0 ↔ parts s a b = none := by
  have h := parts_is (s := s) ha hb
  cases e : parts s a b with
  | none => simp [fewI]
  | some x =>
    rw [e] at h
    have := h.1.1
    simp only [fewI, reduceCtorEq, iff_false]
    omega
/-- the counts of the first below n that leave a multiple of the second -/
def hits (s a b : Int) (n : Nat) : List Int := ((List.range n).filter (fun m : Nat => decide ((s - (m : Int) * a) % b = 0))).map (fun m : Nat => (m : Int))
theorem hits_succ (s a b : Int) (n : Nat) : hits s a b (n + 1) = hits s a b n ++ (if (s - (n : Int) * a) % b = 0 then [(n : Int)] else []) := by
  unfold hits
  rw [List.range_succ, List.filter_append, List.map_append]
  congr 1
  by_cases c : (s - (n : Int) * a) % b = 0
  · rw [if_pos c]
    simp [List.filter_cons, c]
  · rw [if_neg c]
    simp [List.filter_cons, c]
theorem hits_len (s a b : Int) (n : Nat) : (hits s a b n).length ≤ n := by
  unfold hits
  rw [List.length_map]
  exact Nat.le_trans (List.length_filter_le _ _) (by rw [List.length_range]; exact Nat.le_refl _)
theorem hits_few {s a b : Int} (hs : 0 < s) (ha : 0 < a) (hb : 0 < b) : (hits s a b (s / a + 1).toNat ++ [-1])[0]? = some (fewI (parts s a b)) := by
  have hq : 0 ≤ s / a := Int.ediv_nonneg (Int.le_of_lt hs) (Int.le_of_lt ha)
  have hm := Int.emod_add_mul_ediv s a
  have hr := Int.emod_nonneg s (Int.ne_of_gt ha)
  have rep : ∀ m : Nat, m < (s / a + 1).toNat → (s - (m : Int) * a) % b = 0 → Rep s a b m ((s - (m : Int) * a) / b) := fun m hl hz => by
    have l1 : (m : Int) ≤ s / a := by omega
    have l2 : a * (m : Int) ≤ a * (s / a) := Int.mul_le_mul_of_nonneg_left l1 (Int.le_of_lt ha)
    rw [Int.mul_comm a (m : Int)] at l2
    refine ⟨Int.natCast_nonneg m, Int.ediv_nonneg (by omega) (Int.le_of_lt hb), ?_⟩
    rw [Int.ediv_mul_cancel (Int.dvd_of_emod_eq_zero hz)]
    omega
  have h := parts_is (s := s) ha hb
  cases e : parts s a b with
  | none =>
    rw [e] at h
    have e0 : hits s a b (s / a + 1).toNat = [] := by
      unfold hits
      rw [List.filter_eq_nil_iff.mpr fun m hm2 => ?_]
      · rfl
      · intro z
        exact h _ _ (rep m (List.mem_range.mp hm2) (of_decide_eq_true z))
    rw [e0]
    rfl
  | some x =>
    rw [e] at h
    obtain ⟨⟨h1, h2, h3⟩, least⟩ := h
    obtain ⟨m, n⟩ := x
    simp only at h1 h2 h3 least
    obtain ⟨k, rfl⟩ := Int.eq_ofNat_of_zero_le h1
    have n0 : 0 ≤ n * b := Int.mul_nonneg h2 (Int.le_of_lt hb)
    have kl : (k : Int) ≤ s / a := by
      rcases Int.lt_or_le (s / a) k with c | c
      · have hl := Int.emod_lt_of_pos s ha
        have : a * (s / a + 1) ≤ a * (k : Int) := Int.mul_le_mul_of_nonneg_left (by omega) (Int.le_of_lt ha)
        rw [Int.mul_add, Int.mul_one, Int.mul_comm a (k : Int)] at this
        omega
      · exact c
    have hf : (List.range (s / a + 1).toNat).find? (fun m : Nat => decide ((s - (m : Int) * a) % b = 0)) = some k := by
      rw [List.find?_range_eq_some]
      refine ⟨decide_eq_true ?_, List.mem_range.mpr (by omega), fun j hj => ?_⟩
      · have : s - (k : Int) * a = n * b := by omega
        rw [this]
        exact Int.mul_emod_left n b
      · rw [Bool.not_eq_true', decide_eq_false_iff_not]
        intro z
        have := least _ _ (rep j (by omega) z)
        omega
    have hh : (hits s a b (s / a + 1).toNat)[0]? = some (k : Int) := by
      unfold hits
      rw [List.getElem?_map, ← List.head?_eq_getElem?, List.head?_filter, hf]
      rfl
    rw [List.getElem?_append_left (by
      rw [List.getElem?_eq_some_iff] at hh
      exact hh.1), hh]
    rfl
end BF

namespace BF
open PySem PySem.Spec PyProof.Rows L2
def topS (i : Nat) : Stmt := PySem.Challenge.pw_brickfloor_k01_whole_told.main.body.getD i (.Pass ⟨0, 0, 0, 0⟩)
abbrev s_is_number : Stmt := topS 4
abbrev s_check_sizes : Stmt := topS 5
abbrev s_shared : Stmt := topS 6
abbrev s_parts_of : Stmt := topS 7
abbrev s_is_striped : Stmt := topS 10
abbrev s_what_bars : Stmt := topS 11
abbrev s_Laid_shows : Stmt := inClass (topS 12) 0
abbrev s_Striped___init__ : Stmt := inClass (topS 13) 0
abbrev s_Striped_shows : Stmt := inClass (topS 13) 1
abbrev s_Short___init__ : Stmt := inClass (topS 14) 0
abbrev s_Short_shows : Stmt := inClass (topS 14) 1
abbrev s_cells_of : Stmt := topS 15
abbrev s_is_beyond : Stmt := topS 16
abbrev s_covers : Stmt := topS 17
abbrev s_is_cell : Stmt := topS 18
abbrev s_often : Stmt := topS 19
abbrev s_Full_shows : Stmt := inClass (topS 20) 0
abbrev s_Beyond___init__ : Stmt := inClass (topS 21) 0
abbrev s_Beyond_shows : Stmt := inClass (topS 21) 1
abbrev s_Twice___init__ : Stmt := inClass (topS 22) 0
abbrev s_Twice_shows : Stmt := inClass (topS 22) 1
abbrev s_Bare___init__ : Stmt := inClass (topS 23) 0
abbrev s_Bare_shows : Stmt := inClass (topS 23) 1
abbrev s_told : Stmt := topS 25
abbrev s__law_number : Stmt := topS 27
abbrev s__law_four : Stmt := topS 28
abbrev s__law_whole : Stmt := topS 29
abbrev s__law_common : Stmt := topS 30
abbrev s__law_few : Stmt := topS 31
abbrev s__law_bars : Stmt := topS 32
abbrev s__law_due : Stmt := topS 33
abbrev s__law_right : Stmt := topS 34
abbrev s_law : Stmt := topS 35
theorem sc_is_number : FnScope ["thing"] ["thing"] (defScope s_is_number) := ⟨rfl, rfl, rfl, by decide +kernel, rfl, by decide +kernel, by decide +kernel⟩
theorem sc_check_sizes : FnScope ["some", "one"] ["some"] (defScope s_check_sizes) := ⟨rfl, rfl, rfl, by decide +kernel, rfl, by decide +kernel, by decide +kernel⟩
theorem sc_shared : FnScope ["one", "other", "mine", "theirs", "by", "often"] ["one", "other"] (defScope s_shared) := ⟨rfl, rfl, rfl, by decide +kernel, rfl, by decide +kernel, by decide +kernel⟩
theorem sc_parts_of : FnScope ["size", "first", "second", "by", "turned", "few"] ["size", "first", "second"] (defScope s_parts_of) := ⟨rfl, rfl, rfl, by decide +kernel, rfl, by decide +kernel, by decide +kernel⟩
theorem sc_is_striped : FnScope ["length", "width", "side"] ["length", "width", "side"] (defScope s_is_striped) := ⟨rfl, rfl, rfl, by decide +kernel, rfl, by decide +kernel, by decide +kernel⟩
theorem sc_what_bars : FnScope ["length", "width", "first", "second", "striped", "short", "which", "side"] ["length", "width", "first", "second"] (defScope s_what_bars) := ⟨rfl, rfl, rfl, by decide +kernel, rfl, by decide +kernel, by decide +kernel⟩
theorem sc_Laid_shows : FnScope ["self", "length", "width", "first", "second"] ["self", "length", "width", "first", "second"] (defScope s_Laid_shows) := ⟨rfl, rfl, rfl, by decide +kernel, rfl, by decide +kernel, by decide +kernel⟩
theorem sc_Striped___init__ : FnScope ["self", "which"] ["self", "which"] (defScope s_Striped___init__) := ⟨rfl, rfl, rfl, by decide +kernel, rfl, by decide +kernel, by decide +kernel⟩
theorem sc_Striped_shows : FnScope ["self", "length", "width", "first", "second"] ["self", "length", "width", "first", "second"] (defScope s_Striped_shows) := ⟨rfl, rfl, rfl, by decide +kernel, rfl, by decide +kernel, by decide +kernel⟩
theorem sc_Short___init__ : FnScope ["self", "which"] ["self", "which"] (defScope s_Short___init__) := ⟨rfl, rfl, rfl, by decide +kernel, rfl, by decide +kernel, by decide +kernel⟩
theorem sc_Short_shows : FnScope ["self", "length", "width", "first", "second"] ["self", "length", "width", "first", "second"] (defScope s_Short_shows) := ⟨rfl, rfl, rfl, by decide +kernel, rfl, by decide +kernel, by decide +kernel⟩
theorem sc_cells_of : FnScope ["first", "second", "brick", "long", "high", "found", "along", "up"] ["first", "second", "brick"] (defScope s_cells_of) := ⟨rfl, rfl, rfl, by decide +kernel, rfl, by decide +kernel, by decide +kernel⟩
theorem sc_is_beyond : FnScope ["length", "width", "first", "second", "brick", "long", "high"] ["length", "width", "first", "second", "brick"] (defScope s_is_beyond) := ⟨rfl, rfl, rfl, by decide +kernel, rfl, by decide +kernel, by decide +kernel⟩
theorem sc_covers : FnScope ["first", "second", "brick", "cell", "long", "high"] ["first", "second", "brick", "cell"] (defScope s_covers) := ⟨rfl, rfl, rfl, by decide +kernel, rfl, by decide +kernel, by decide +kernel⟩
theorem sc_is_cell : FnScope ["length", "width", "thing"] ["length", "width", "thing"] (defScope s_is_cell) := ⟨rfl, rfl, rfl, by decide +kernel, rfl, by decide +kernel, by decide +kernel⟩
theorem sc_often : FnScope ["first", "second", "bricks", "cell", "brick"] ["first", "second", "bricks", "cell"] (defScope s_often) := ⟨rfl, rfl, rfl, by decide +kernel, rfl, by decide +kernel, by decide +kernel⟩
theorem sc_Full_shows : FnScope ["self", "length", "width", "first", "second", "bricks", "seen", "brick", "cell"] ["self", "length", "width", "first", "second", "bricks"] (defScope s_Full_shows) := ⟨rfl, rfl, rfl, by decide +kernel, rfl, by decide +kernel, by decide +kernel⟩
theorem sc_Beyond___init__ : FnScope ["self", "count"] ["self", "count"] (defScope s_Beyond___init__) := ⟨rfl, rfl, rfl, by decide +kernel, rfl, by decide +kernel, by decide +kernel⟩
theorem sc_Beyond_shows : FnScope ["self", "length", "width", "first", "second", "bricks"] ["self", "length", "width", "first", "second", "bricks"] (defScope s_Beyond_shows) := ⟨rfl, rfl, rfl, by decide +kernel, rfl, by decide +kernel, by decide +kernel⟩
theorem sc_Twice___init__ : FnScope ["self", "cell"] ["self", "cell"] (defScope s_Twice___init__) := ⟨rfl, rfl, rfl, by decide +kernel, rfl, by decide +kernel, by decide +kernel⟩
theorem sc_Twice_shows : FnScope ["self", "length", "width", "first", "second", "bricks"] ["self", "length", "width", "first", "second", "bricks"] (defScope s_Twice_shows) := ⟨rfl, rfl, rfl, by decide +kernel, rfl, by decide +kernel, by decide +kernel⟩
theorem sc_Bare___init__ : FnScope ["self", "cell"] ["self", "cell"] (defScope s_Bare___init__) := ⟨rfl, rfl, rfl, by decide +kernel, rfl, by decide +kernel, by decide +kernel⟩
theorem sc_Bare_shows : FnScope ["self", "length", "width", "first", "second", "bricks"] ["self", "length", "width", "first", "second", "bricks"] (defScope s_Bare_shows) := ⟨rfl, rfl, rfl, by decide +kernel, rfl, by decide +kernel, by decide +kernel⟩
theorem sc_told : FnScope ["length", "width", "first", "second", "striped", "short"] ["length", "width", "first", "second"] (defScope s_told) := ⟨rfl, rfl, rfl, by decide +kernel, rfl, by decide +kernel, by decide +kernel⟩
theorem sc__law_number : FnScope ["_law_cell", "_law_at", "_law_whole_here", "_law_mixed", "_law_more"] ["_law_cell", "_law_at", "_law_whole_here"] (defScope s__law_number) := ⟨rfl, rfl, rfl, by decide +kernel, rfl, by decide +kernel, by decide +kernel⟩
theorem sc__law_four : FnScope ["_law_script", "_law_at", "_law_most", "_law_whole_here", "_law_number_here", "_law_other", "_law_first", "_law_second", "_law_few_here", "_law_more", "_law_less", "_law_kind", "_law_length", "_law_width"] ["_law_script", "_law_at", "_law_most"] (defScope s__law_four) := ⟨rfl, rfl, rfl, by decide +kernel, rfl, by decide +kernel, by decide +kernel⟩
theorem sc__law_whole : FnScope ["_law_found"] ["_law_found"] (defScope s__law_whole) := ⟨rfl, rfl, rfl, by decide +kernel, rfl, by decide +kernel, by decide +kernel⟩
theorem sc__law_common : FnScope ["_law_one", "_law_other"] ["_law_one", "_law_other"] (defScope s__law_common) := ⟨rfl, rfl, rfl, by decide +kernel, rfl, by decide +kernel, by decide +kernel⟩
theorem sc__law_few : FnScope ["_law_size", "_law_first", "_law_second", "_law_by", "_law_rows", "_law_one", "_law_other", "_law_mine", "_law_theirs", "_law_part", "_law_few_here"] ["_law_size", "_law_first", "_law_second"] (defScope s__law_few) := ⟨rfl, rfl, rfl, by decide +kernel, rfl, by decide +kernel, by decide +kernel⟩
theorem sc__law_bars : FnScope ["_law_four_here", "_law_which", "_law_length", "_law_width", "_law_first", "_law_second", "_law_side"] ["_law_four_here", "_law_which"] (defScope s__law_bars) := ⟨rfl, rfl, rfl, by decide +kernel, rfl, by decide +kernel, by decide +kernel⟩
theorem sc__law_due : FnScope ["_law_four_here", "_law_found", "_law_which"] ["_law_four_here", "_law_found"] (defScope s__law_due) := ⟨rfl, rfl, rfl, by decide +kernel, rfl, by decide +kernel, by decide +kernel⟩
theorem sc__law_right : FnScope ["_law_four_here", "_law_others", "_law_bars_here", "_law_found", "_law_again", "_law_kinds", "_law_wrong", "_law_other", "_law_which"] ["_law_four_here", "_law_others"] (defScope s__law_right) := ⟨rfl, rfl, rfl, by decide +kernel, rfl, by decide +kernel, by decide +kernel⟩
theorem sc_law : FnScope ["_law_script", "_law_whole_here", "_law_at", "_law_four_here", "_law_turned"] ["_law_script"] (defScope s_law) := ⟨rfl, rfl, rfl, by decide +kernel, rfl, by decide +kernel, by decide +kernel⟩
/-- the built-ins that the text names are free -/
structure Bi (mg : Str → Option Value) : Prop where
  any : mg "any" = none
  bool : mg "bool" = none
  enumerate : mg "enumerate" = none
  int : mg "int" = none
  isinstance : mg "isinstance" = none
  len : mg "len" = none
  max : mg "max" = none
  min : mg "min" = none
  range : mg "range" = none
  sum : mg "sum" = none
  tuple : mg "tuple" = none
end BF

/-! ### small helpers for the laws: the script's cells, picks out of four, sizes of drawn numbers -/
namespace BF
open PySem PySem.Spec PyProof.Rows L2
inductive SpLaw (K : PySem.W.Frag) : Sp where
  | mk {a : Addr} {ns : List Int} {H : Hp} {Q : VK} {E : XK} (hl : ns.length ≤ 63) (hb : ∀ z ∈ ns, Builtin.Int.intBits z ≤ 1048576) (hS : SqL K H a (ns.map V.int)) (q : ∀ H', Q (.bl true) H') : SpLaw K [.ref a] H Q E
theorem bn_of_lt {x : Int} (h0 : 0 ≤ x) (h : x < 10 ^ 60) : Bn 200 x := by
  refine ⟨?_⟩
  have e : (10 : Int) ^ 60 = ((10 ^ 60 : Nat) : Int) := by decide
  have l : (10 : Nat) ^ 60 < 2 ^ 200 := by decide
  rw [e] at h
  omega
theorem sz_of_lt {x : Int} (h0 : 0 < x) (h : x < 10 ^ 60) : Sz x := ⟨h0, (bn_of_lt (by omega) h).mono (by decide)⟩
theorem cut_map {α β : Type} (f : α → β) (xs : List α) (lo hi : Nat) : ((xs.map f).drop lo).take hi = ((xs.drop lo).take hi).map f := by
  rw [← List.map_drop, ← List.map_take]
theorem cut_ints (ns : List Int) (lo hi : Option Int) : ∃ ms : List Int, cutV (ns.map V.int) lo hi = ms.map V.int := by
  unfold cutV
  exact ⟨_, cut_map V.int ns _ _⟩
theorem at_cell {ns : List Int} {k : Int} (h0 : -(ns.length : Int) ≤ k) (h1 : k < ns.length) : ∃ c, c ∈ ns ∧ atI (ns.map V.int) k = some (.int c) := by
  rcases Int.lt_or_le k 0 with hk | hk
  · have hj : (k + ns.length).toNat < ns.length := by omega
    refine ⟨ns[(k + ns.length).toNat], List.getElem_mem _, ?_⟩
    have e : ixN (ns.map V.int).length k = some (k + ns.length).toNat := by
      unfold ixN
      rw [List.length_map, if_neg (by omega), if_pos (by omega)]
    unfold atI
    rw [e]
    show (ns.map V.int)[(k + ns.length).toNat]? = _
    rw [List.getElem?_map, List.getElem?_eq_getElem hj]
    rfl
  · have hj : k.toNat < ns.length := by omega
    refine ⟨ns[k.toNat], List.getElem_mem _, ?_⟩
    obtain ⟨j, rfl⟩ := Int.eq_ofNat_of_zero_le hk
    refine atI_nat ?_
    rw [List.getElem?_map]
    have hj2 : j < ns.length := by omega
    rw [List.getElem?_eq_getElem hj2]
    rfl
theorem pick4 {x0 x1 x2 x3 : V} {k : Int} (h0 : 0 ≤ k) (h4 : k < 4) : ∃ v, atI [x0, x1, x2, x3] k = some v ∧ (v = x0 ∨ v = x1 ∨ v = x2 ∨ v = x3) := by
  have e : k = 0 ∨ k = 1 ∨ k = 2 ∨ k = 3 := by omega
  rcases e with rfl | rfl | rfl | rfl
  · exact ⟨x0, rfl, .inl rfl⟩
  · exact ⟨x1, rfl, .inr (.inl rfl)⟩
  · exact ⟨x2, rfl, .inr (.inr (.inl rfl))⟩
  · exact ⟨x3, rfl, .inr (.inr (.inr rfl))⟩
end BF

/-! ### the answers' classes -/
namespace BF
open PySem PySem.Spec PyProof.Rows L2
inductive Cl where
  | answer | laid | striped | short | full | beyond | twice | bare
deriving DecidableEq
def Cl.nm : Cl → Str
  | .answer => "Answer"
  | .laid => "Laid"
  | .striped => "Striped"
  | .short => "Short"
  | .full => "Full"
  | .beyond => "Beyond"
  | .twice => "Twice"
  | .bare => "Bare"
/-- its field -/
def Cl.fld : Cl → Str
  | .beyond => "count"
  | .twice => "cell"
  | .bare => "cell"
  | _ => "which"
def Cl.has : List Cl := [.answer, .laid, .striped, .short, .full, .beyond, .twice, .bare]
abbrev cl (K : PySem.W.Frag) (x : Cl) : Addr := He.ga K x.nm
structure ClF (K : PySem.W.Frag) (x : Cl) : Prop where
  c : Cls K (cl K x)
  ha : PySem.W.findIn K (.ref (cl K x)) "__class__" = some (some (.builtin "object.__class__"))
  hn : PySem.W.specialIn K (.builtin "object.__class__") "__get__" = some (some (.builtin "getset_descriptor.__get__"))
  tk : PySem.W.takesIn K (.builtin "object.__class__") = some true
  mr : PySem.W.mroIn K (cl K x) (.type "object") = some true
  kp : PySem.W.keepIn K (.ref (cl K x)) = true
  made : PySem.W.makesIn K (cl K x) = true
  no : NoAttr K (cl K x) x.fld
  kit : ∀ y ∈ Cl.has, PySem.W.kitOne K (.ref (cl K x)) (.ref (cl K y)) = some (decide (y = x) || decide (y = .answer))
  tyk : ∀ T ∈ ["int", "bool", "tuple", "list"], PySem.W.kitOne K (.ref (cl K x)) (.type T) = some false
structure ClG (K : PySem.W.Frag) (mg : Str → Option Value) : Prop where
  g : ∀ x ∈ Cl.has, mg x.nm = some (.ref (cl K x))
  f : ∀ x ∈ Cl.has, ClF K x
def clB (K : PySem.W.Frag) (x : Cl) : Bool := (He.Fa.glo x.nm).ok K && ((He.Fa.cls x.nm).ok K && (decide (PySem.W.findIn K (.ref (cl K x)) "__class__" = some (some (.builtin "object.__class__"))) &&
  (decide (PySem.W.specialIn K (.builtin "object.__class__") "__get__" = some (some (.builtin "getset_descriptor.__get__"))) && (decide (PySem.W.takesIn K (.builtin "object.__class__") = some true) &&
  (decide (PySem.W.mroIn K (cl K x) (.type "object") = some true) && (PySem.W.keepIn K (.ref (cl K x)) && (PySem.W.makesIn K (cl K x) && ((He.Fa.noat x.nm x.fld).ok K &&
  ((Cl.has.all fun y => decide (PySem.W.kitOne K (.ref (cl K x)) (.ref (cl K y)) = some (decide (y = x) || decide (y = .answer)))) && (["int", "bool", "tuple", "list"].all fun T => decide (PySem.W.kitOne K (.ref (cl K x)) (.type T) = some false)))))))))))
theorem clB_ok {K : PySem.W.Frag} {h : Heap} {mg : Str → Option Value} (X : K.In h) (G : h.Ns mainGlobals mg) (c : (Cl.has.all (clB K)) = true) : ClG K mg := by
  have a := List.all_eq_true.mp c
  refine ⟨fun x hx => ?_, fun x hx => ?_⟩
  · have b := a x hx
    unfold clB at b
    exact He.glo_ok X G (He.ba b).1
  · have b := a x hx
    unfold clB at b
    obtain ⟨_, b⟩ := He.ba b
    obtain ⟨b1, b⟩ := He.ba b
    obtain ⟨b2, b⟩ := He.ba b
    obtain ⟨b3, b⟩ := He.ba b
    obtain ⟨b4, b⟩ := He.ba b
    obtain ⟨b5, b⟩ := He.ba b
    obtain ⟨b6, b⟩ := He.ba b
    obtain ⟨b7, b⟩ := He.ba b
    obtain ⟨b8, b⟩ := He.ba b
    obtain ⟨b9, b10⟩ := He.ba b
    exact ⟨He.cls_ok b1, of_decide_eq_true b2, of_decide_eq_true b3, of_decide_eq_true b4, of_decide_eq_true b5, b6, b7, He.noat_ok b8, fun y hy => of_decide_eq_true (List.all_eq_true.mp b9 y hy), fun T hT => of_decide_eq_true (List.all_eq_true.mp b10 T hT)⟩
/-- an answer: its class, its field -/
inductive Ans where
  | laid | full
  | striped (v : V) | short (v : V) | beyond (v : V) | twice (v : V) | bare (v : V)
def Ans.cl : Ans → Cl
  | .laid => .laid
  | .full => .full
  | .striped _ => .striped
  | .short _ => .short
  | .beyond _ => .beyond
  | .twice _ => .twice
  | .bare _ => .bare
def Ans.fs : Ans → List (Str × V)
  | .laid => []
  | .full => []
  | .striped v => [("which", v)]
  | .short v => [("which", v)]
  | .beyond v => [("count", v)]
  | .twice v => [("cell", v)]
  | .bare v => [("cell", v)]
def AnsAt (K : PySem.W.Frag) (H : Hp) (p : Addr) (a : Ans) : Prop := ∃ dx, H p = some (.ins (cl K a.cl) dx a.fs)
theorem AnsAt.mono {K : PySem.W.Frag} {H H' : Hp} {p : Addr} {a : Ans} (h : AnsAt K H p a) (sm : Same H H') : AnsAt K H' p a := let ⟨dx, e⟩ := h; ⟨dx, sm _ _ e⟩
theorem AnsAt.ty {K : PySem.W.Frag} {H : Hp} {p : Addr} {a : Ans} (h : AnsAt K H p a) (F : ClF K a.cl) : TyX K H (.ref p) (.ref (BF.cl K a.cl)) := let ⟨_, e⟩ := h; .base (.ins e F.c F.ha F.hn F.tk F.mr)
theorem mem_has (a : Ans) : a.cl ∈ Cl.has := by
  generalize a.cl = x
  cases x <;> decide
/-- isinstance(answer, Class) -/
theorem tyA {K : PySem.W.Frag} {mg : Str → Option Value} {H : Hp} {p : Addr} {a : Ans} (G : ClG K mg) (h : AnsAt K H p a) (ha : a.cl ∈ Cl.has := by exact mem_has _) : TyX K H (.ref p) (.ref (BF.cl K a.cl)) := h.ty (G.f _ ha)
theorem kitA {K : PySem.W.Frag} {mg : Str → Option Value} (G : ClG K mg) (a : Ans) (y : Cl) (ha : a.cl ∈ Cl.has := by exact mem_has _) (hy : y ∈ Cl.has := by decide) : PySem.W.kitOne K (.ref (BF.cl K a.cl)) (.ref (BF.cl K y)) = some (decide (y = a.cl) || decide (y = .answer)) := (G.f _ ha).kit y hy
/-- a method of a class -/
def PlM (K : PySem.W.Frag) (x : Cl) (m q : Str) (st : Stmt) : Prop := ∃ f fd, FnP K m q st f fd ∧ Meth K (cl K x) m f
def HasM (P : Program) (w : World) (K : PySem.W.Frag) (mg : Str → Option Value) (base : Heap) (C : CXT) (k : Nat) (x : Cl) (m : Str) (ps : List Str) (sp : Sp) : Prop :=
  ∃ f fd, FnOk P w K mg base C k f fd ps sp ∧ Meth K (cl K x) m f ∧ Binds K fd ps []
section
variable {P : Program} {w : World} {K : PySem.W.Frag} {mg : Str → Option Value} {base : Heap} {x : Cl} {m q : Str} {st : Stmt} {N ps : List Str} {k : Nat} {sp : Sp}
theorem PlM.mk0 (p : PlM K x m q st) (S : FnScope N ps (defScope st))
    (hb : ∀ (kV doc pm : Value) (an : Option Addr) (cdv ct : Value) (us : List Value), us.length = ps.length → bindArgs (PySem.W.fnOf m q (defArgs st) (defBody st) (defScope st) .none kV doc pm an cdv ct) ⟨us, []⟩ = pure (ps.zip us))
    (len : ∀ vs H Q E, sp vs H Q E → vs.length = ps.length)
    (body : ∀ (f : Addr) (cdv : Value) (A : Around) (outer : List Env) (s : Shared) (H : Hp) (vs : List V) (Q : VK) (E : XK), Room k (A.deeper (envOfC q (defScope st) s.heap.objs.size f cdv)) → sp vs H Q E →
      ∃ t, PSs (cxOf CX0 P w K mg base N q (defScope st) f cdv A outer s H E).nox (defBody st) t ∧ t { nx := fun _ H' => Q .non H', rt := Q } (start N vs) H) : HasM P w K mg base CX0 (k + 1) x m ps sp := by
  obtain ⟨f, fd, F, g⟩ := p
  exact ⟨f, fd, F.ok S len (fun cdv A outer s H vs Q E hr h => by
    obtain ⟨t, a, b⟩ := body f cdv A outer s H vs Q E hr h
    exact ⟨t, a.nox, b⟩), g, F.bindsN hb⟩
end
section
variable {X : Cx} {CX : CXT} {k : Nat} {C : Addr} {ps : List Str} {E : XK} {m : Str} {pos apos : Pos} {e o : Expr} {es : List Expr} {ta : TE} {t : TA} {x : Cl}
theorem pe_any {ι : Type} {e : Expr} {Ok : ι → Prop} {t : ι → TE} (h : ∀ i, Ok i → PE X e (t i)) : PE X e (fun σ H Q => ∃ i, Ok i ∧ t i σ H Q) := ⟨fun pins s σ H Q I ⟨i, hi, q⟩ => (h i hi).run pins s σ H Q I q⟩
/-- o.m(..), o an answer of one of several classes -/
def tMethA (K : PySem.W.Frag) (Ok : Cl → Prop) (m : Str) (sp : Cl → Sp) (E : XK) (ta : TE) (t : TA) : TE := fun σ H Q => ∃ x, Ok x ∧ tMeth (cl K x) m (sp x) [] E ta t σ H Q
theorem pe_methA {pl : Sem Bool} {Ok : Cl → Prop} {sp : Cl → Sp} (h : ∀ x, Ok x → HasM X.prog X.w X.K X.mg X.base CX k x m ps (sp x)) (c : ∀ x, Ok x → Cls X.K (cl X.K x)) (hr : Room k X.A) (hx : Passes CX X E) (he : PE X o ta) (ha : PA X (e :: es) t)
    (hst : starEach (e :: es) X.env = (false, eval e X.env) :: starEach es X.env := by rfl) (hpl : (backTo pos (starEach es X.env)).any (·.1) = false := by rfl)
    (ht : eval (.Call (.Attribute o m apos) (e :: es) [] pos) X.env = (do
      let ov ← eval o X.env
      standAt apos.atName
      let (f, first) ← holding [ov] (getMethod ov m pl)
      callWith pos f first (backTo pos (starEach (e :: es) X.env)) (backToKw pos (keywordEach [] X.env))) := by rfl) :
    PE X (.Call (.Attribute o m apos) (e :: es) [] pos) (tMethA X.K Ok m sp E ta t) :=
  pe_any (Ok := Ok) (t := fun x => tMeth (cl X.K x) m (sp x) [] E ta t) fun x hx' => by
    obtain ⟨f, fd, F, M, b⟩ := h x hx'
    exact pe_meth (pl := pl) he (c x hx') M F hr b .nil hx ha hst hpl ht
/-- __init__(self, v): self.f = v -/
inductive SpInit (K : PySem.W.Frag) (x : Cl) : Sp where
  | mk {p dx : Addr} {v : V} {H : Hp} {Q : VK} {E : XK} (h : H p = some (.ins (cl K x) dx [])) (q : Q .non (upd H p (.ins (cl K x) dx [(x.fld, v)]))) : SpInit K x [.ref p, v] H Q E
def Cl.of : Cl → V → Ans
  | .striped, v => .striped v
  | .short, v => .short v
  | .beyond, v => .beyond v
  | .twice, v => .twice v
  | .bare, v => .bare v
  | .full, _ => .full
  | _, _ => .laid
def Cl.has1 : Cl → Prop
  | .striped => True
  | .short => True
  | .beyond => True
  | .twice => True
  | .bare => True
  | _ => False
theorem Cl.of_cl {x : Cl} (h : x.has1) (v : V) : (x.of v).cl = x ∧ (x.of v).fs = [(x.fld, v)] := by
  cases x <;> first | exact ⟨rfl, rfl⟩ | exact h.elim
/-- Class(e) -/
def tMk1 (K : PySem.W.Frag) (x : Cl) (t : TA) : TE := fun σ H Q => t σ H fun vs H1 => ∃ v, vs = [v] ∧ ∀ p H2, H1 p = none → Same H1 H2 → AnsAt K H2 p (x.of v) → Q (.ref p) H2
theorem pe_mk1 (M : Mk X.K (cl X.K x) (He.ma X.K (cl X.K x) "__init__")) (h : HasM X.prog X.w X.K X.mg X.base CX0 k x "__init__" ps (SpInit X.K x)) (h1 : x.has1) (hr : Room (k + 1) X.A) {y : Str} {p : Pos} (hm : X.mg y = some (.ref (cl X.K x))) (ha : PA X (e :: es) t)
    (hg : Gl X y := by rfl) (hdb : (y == ("__debug__" : Str)) = false := by decide) (he : starEach (e :: es) X.env = (false, eval e X.env) :: starEach es X.env := by rfl) (hpl : (backTo pos (starEach es X.env)).any (·.1) = false := by rfl) :
    PE X (.Call (.Name y p) (e :: es) [] pos) (tMk1 X.K x t) := by
  obtain ⟨f, fd, F, m, b⟩ := h
  refine ⟨fun pins s σ H Q I hh => wpAny_Call_Name_kw (ld_glob I hg hm ?_ hdb)⟩
  refine PySem.W.callWith_K (h₀ := X.base) I.ok.mod.kin M.kp (thn (ha.run pos pins s σ H _ I hh) fun us s1 ⟨vs, H1, J, r, v, ev, z⟩ => ⟨J.kIn, ?_⟩) he hpl
  subst ev
  have M2 : Mk X.K (cl X.K x) f := ⟨M.makes, m.at_, m.fn, M.kp⟩
  refine run_make (dvs := []) (E := E0) M2 F hr b .nil pass0 J r fun q dx nq nd ne => .mk (dx := dx) upd_same ⟨rfl, z q _ nq (fun b o eb => ?_) ?_⟩
  · have b1 := ne_of_none eb nq
    have b2 := ne_of_none eb nd
    rw [upd_ne b1, upd_ne b1, upd_ne b2]
    exact eb
  · refine ⟨dx, ?_⟩
    rw [(Cl.of_cl h1 v).1, (Cl.of_cl h1 v).2]
    exact upd_same
/-- Class(), without an __init__ -/
def tMk0 (K : PySem.W.Frag) (x : Cl) : TE := fun σ H Q => ∀ p H2, H p = none → Same H H2 → (∃ dx, H2 p = some (.ins (cl K x) dx [])) → Q (.ref p) H2
theorem run_plain {pins : List (Addr × Obj)} {σ : L2.St} {H : Hp} {s : Shared} {Q : VK} (hm : PySem.W.makesIn X.K C = true) (hi : PySem.W.findIn X.K (.ref C) "__init__" = some (some (.builtin "object.__init__"))) (I : Inv X pins σ H s)
    (h : ∀ x dx, H x = none → H dx = none → dx ≠ x → Q (.ref x) (upd (upd H dx (.own x)) x (.ins C dx []))) : wpAny (model X.prog X.w) X.A (call (.ref C) []) (EP X pins σ Q) X.xe s := by
  have J := Inv.made (C := C) I
  have z := h (s.heap.objs.size + 1) s.heap.objs.size (I.hok.fresh (Nat.le_succ _)) (I.hok.fresh (Nat.le_refl _)) (Nat.ne_of_lt (Nat.lt_succ_self _))
  have Y := PySem.W.makes_of (M := model X.prog X.w) I.kIn hm
  refine wpAny_call (make_map0 (K := X.K) I.kIn hm hi (fun self => PySem.W.Looks.of_pure (PySem.W.oi_bind self)) ?_)
  have e2 : ((s.heap.push PySem.W.emptyDict).push (PySem.W.instObj C s.heap.objs.size)).get? (s.heap.objs.size + 1) = some (PySem.W.instObj C s.heap.objs.size) := by
    have := Heap.get?_push_size (s.heap.push PySem.W.emptyDict) (o := PySem.W.instObj C s.heap.objs.size) rfl
    rwa [Heap.size_push] at this
  have u1 : PySem.W.Looks (model X.prog X.w) ((s.heap.push PySem.W.emptyDict).push (PySem.W.instObj C s.heap.objs.size)) (typeOf (.ref (s.heap.objs.size + 1))) (.ref C) := (PySem.W.Looks.ld e2).andThen .now
  have u2 : PySem.W.Looks (model X.prog X.w) ((s.heap.push PySem.W.emptyDict).push (PySem.W.instObj C s.heap.objs.size)) (isInstance (.ref (s.heap.objs.size + 1)) (.type "object")) true :=
    u1.andThen (Y.top.keeps fun b o e => Heap.get?_push_of_some _ (Heap.get?_push_of_some _ e))
  refine codeAny_call_builtin PySem.W.oi_plain PySem.W.entry_oi (@PySem.W.check_slot (model X.prog X.w) _ _ _ "object.__init__" "object" "__init__" (.ref (s.heap.objs.size + 1)) [] [] _ PySem.W.oi_kind PySem.W.oi_split u2 (PySem.W.oi_args (.ref (s.heap.objs.size + 1))) ?_)
  rw [PySem.W.oi_run]
  exact wpAny_pure (And.intro rfl ⟨.ref (s.heap.objs.size + 1), _, J, rfl, z⟩)
theorem pe_mk0 (F : ClF X.K x) (hi : PySem.W.findIn X.K (.ref (cl X.K x)) "__init__" = some (some (.builtin "object.__init__"))) {y : Str} {p : Pos} (hm : X.mg y = some (.ref (cl X.K x))) (hg : Gl X y := by rfl) (hdb : (y == ("__debug__" : Str)) = false := by decide) :
    PE X (.Call (.Name y p) [] [] pos) (tMk0 X.K x) := by
  refine ⟨fun pins s σ H Q I h => wpAny_Call_Name_kw (ld_glob I hg hm ?_ hdb)⟩
  refine PySem.W.callWith_K0 I.kIn F.kp (run_plain F.made hi I fun q dx nq nd ne => h q _ nq (fun b o eb => ?_) ⟨dx, upd_same⟩)
  have b1 := ne_of_none eb nq
  have b2 := ne_of_none eb nd
  rw [upd_ne b1, upd_ne b2]
  exact eb
end
structure ClI (P : Program) (w : World) (K : PySem.W.Frag) (mg : Str → Option Value) (base : Heap) : Prop where
  mk1 : ∀ x ∈ Cl.has, x.has1 → Mk K (cl K x) (He.ma K (cl K x) "__init__")
  in1 : ∀ x ∈ Cl.has, x.has1 → HasM P w K mg base CX0 1 x "__init__" ["self", x.fld] (SpInit K x)
  in0 : ∀ x ∈ Cl.has, (x = .laid ∨ x = .full) → PySem.W.findIn K (.ref (cl K x)) "__init__" = some (some (.builtin "object.__init__"))
section
variable {X : Cx} {pos : Pos} {e : Expr} {es : List Expr} {t : TA} {x : Cl}
theorem pe_mkI (CI : ClI X.prog X.w X.K X.mg X.base) (G : ClG X.K X.mg) (hx : x ∈ Cl.has) (h1 : x.has1) (hr : Room 2 X.A) {y : Str} {p : Pos} (ha : PA X (e :: es) t) (hy : y = x.nm := by rfl) (hg : Gl X y := by rfl) (hdb : (y == ("__debug__" : Str)) = false := by decide)
    (he : starEach (e :: es) X.env = (false, eval e X.env) :: starEach es X.env := by rfl) (hpl : (backTo pos (starEach es X.env)).any (·.1) = false := by rfl) : PE X (.Call (.Name y p) (e :: es) [] pos) (tMk1 X.K x t) :=
  pe_mk1 (CI.mk1 x hx h1) (CI.in1 x hx h1) h1 hr (by rw [hy]; exact G.g x hx) ha hg hdb he hpl
theorem pe_mkN (CI : ClI X.prog X.w X.K X.mg X.base) (G : ClG X.K X.mg) (hx : x ∈ Cl.has) (h0 : x = .laid ∨ x = .full) {y : Str} {p : Pos} (hy : y = x.nm := by rfl) (hg : Gl X y := by rfl) (hdb : (y == ("__debug__" : Str)) = false := by decide) :
    PE X (.Call (.Name y p) [] [] pos) (tMk0 X.K x) := pe_mk0 (G.f x hx) (CI.in0 x hx h0) (by rw [hy]; exact G.g x hx) hg hdb
end
theorem HasM.mono {P : Program} {w : World} {K : PySem.W.Frag} {mg : Str → Option Value} {base : Heap} {C : CXT} {j k : Nat} {x : Cl} {m : Str} {ps : List Str} {sp : Sp} (h : HasM P w K mg base C j x m ps sp) (l : j ≤ k) : HasM P w K mg base C k x m ps sp :=
  let ⟨f, fd, F, r⟩ := h; ⟨f, fd, F.mono l, r⟩
def Ok4 (x : Cl) : Prop := x ∈ [Cl.laid, .striped, .short]
def Ok5 (x : Cl) : Prop := x ∈ [Cl.full, .beyond, .twice, .bare]
theorem ok4 {x : Cl} (h : Ok4 x) : x ∈ Cl.has := by
  unfold Ok4 at h
  cases x <;> first | decide | exact absurd h (by decide)
theorem ok5 {x : Cl} (h : Ok5 x) : x ∈ Cl.has := by
  unfold Ok5 at h
  cases x <;> first | decide | exact absurd h (by decide)
end BF

/-! ### data at any depth, in a heap that grows -/
namespace BF
open PySem PySem.Spec PyProof.Rows L2
theorem at0 {x : V} {xs : List V} : atI (x :: xs) 0 = some x := by
  show atI (x :: xs) ((0 : Nat) : Int) = some x
  exact atI_nat rfl
mutual
theorem dpS {K : PySem.W.Frag} {H H' : Hp} (sm : Same H H') : ∀ {d : PyData} {v : V}, Dp K H v d → Dp K H' v d
  | .none, _, h => by cases h; exact .non
  | .bool b, _, h => by cases h; exact .bl b
  | .int i, _, h => by cases h; exact .int i
  | .str x, _, h => by cases h; exact .str x
  | .list ds, _, h => by
    cases h with
    | lst hs ha => exact .lst (sm.seq hs) (dpsS sm ha)
  | .tuple ds, _, h => by
    cases h with
    | tup hs ha => exact .tup (Same.tup sm hs) (dpsS sm ha)
theorem dpsS {K : PySem.W.Frag} {H H' : Hp} (sm : Same H H') : ∀ {ds : List PyData} {vs : List V}, DpAll K H vs ds → DpAll K H' vs ds
  | [], _, h => by cases h; exact .nil
  | d :: ds, _, h => by
    cases h with
    | cons h1 h2 => exact .cons (dpS sm h1) (dpsS sm h2)
end
theorem dp_ints {K : PySem.W.Frag} {H : Hp} : ∀ xs : List Int, DpAll K H (xs.map V.int) (xs.map PyData.int)
  | [] => .nil
  | x :: xs => .cons (.int x) (dp_ints xs)
end BF

/-! ### enumerate(tuple) -/
namespace BF
open PySem PySem.Spec PyProof.Rows L2
open PySem.AutoSeq1 (wpAny_loadPart')
theorem enum_newT (l : Addr) (its : Array Value) (n : Nat) (dd : Option Addr) (sl : Array (Option Value)) :
    Meets (Builtin.«enumerate.__new__» ⟨[.type "enumerate", .ref l], []⟩) (fun _ R s => s.heap.get? l = some { cls := .type "tuple", dict := dd, data := .seq its n, slots := sl } ∧
      R (.ok (.ret (.ref (s.heap.push { cls := .type "tuple_iterator", data := .fields #[.ref l, .int 0 0] }).objs.size)))
        { s with heap := (s.heap.push { cls := .type "tuple_iterator", data := .fields #[.ref l, .int 0 0] }).push { cls := .type "enumerate", data := .fields #[.none, .bool false, .ref s.heap.objs.size, rawInt 0, .none, .none] } }) :=
  .of_wp fun prog w A R s h => by
    obtain ⟨hp, g, d, tk, os⟩ := s
    obtain ⟨hl, h⟩ := h
    have sub := sub_enumerate
    have tl : Heap.IsTuple (Shared.heap ⟨hp, g, d, tk, os⟩) l its := ⟨_, hl, rfl, n, rfl⟩
    wp_walk using wpAny_loadPart' hl
    refine wpAny_stack_any fun st => wpAny_pure ?_
    split
    · rename_i c _ _ _ _ _
      cases (c == Value.type "enumerate") <;> (wp_walk using wpAny_loadPart' hl, wpAny_pyIter_tuple tl; exact ⟨_, rfl, h⟩)
    · wp_walk using wpAny_loadPart' hl, wpAny_pyIter_tuple tl
      exact ⟨_, rfl, h⟩
theorem call_enumT {prog : Program} {w : World} {A : Around} {E : Value → Shared → Prop} {s : Shared} {l : Addr} {items : Array Value} {Q : Value → Shared → Prop} (hL : IsTup s.heap l items)
    (h : ∀ h', IsEnum h' (s.heap.objs.size + 1) s.heap.objs.size 0 .none → h'.IsTupleIter s.heap.objs.size l 0 → (∀ b o, s.heap.get? b = some o → h'.get? b = some o) → Q (.ref (s.heap.objs.size + 1)) { s with heap := h' }) :
    wpAny (model prog w) A (call (.type "enumerate") [.ref l]) Q E s := by
  obtain ⟨⟨c, dd, dt, sl⟩, hl, e1, n, e2⟩ := hL
  simp only at e1 e2
  subst e1 e2
  refine callType_new F.called_enumerate (by decide) (F.typeCall_enumerate_1 _) (F.newCall_enumerate_1 _) (fun obj => F.args_object_init_2 obj _) F.entry_enumerate_new (enum_newT l items n dd sl) ⟨hl, ?_⟩
  have hz : (s.heap.push { cls := .type "tuple_iterator", data := .fields #[.ref l, .int 0 0] }).objs.size = s.heap.objs.size + 1 := Heap.size_push ..
  show _ ∧ _
  rw [hz]
  have he : IsEnum ((s.heap.push { cls := .type "tuple_iterator", data := .fields #[.ref l, .int 0 0] }).push { cls := .type "enumerate", data := .fields #[.none, .bool false, .ref s.heap.objs.size, rawInt 0, .none, .none] }) (s.heap.objs.size + 1) s.heap.objs.size 0 .none := by
    have z := Heap.get?_push_size (s.heap.push { cls := .type "tuple_iterator", data := .fields #[.ref l, .int 0 0] }) (o := { cls := .type "enumerate", data := .fields #[.none, .bool false, .ref s.heap.objs.size, rawInt 0, .none, .none] }) rfl
    rw [hz] at z
    exact z
  exact ⟨⟨_, he, rfl⟩, h _ he ⟨_, Heap.get?_push_of_some _ (Heap.get?_push_size _ rfl), rfl, rfl⟩ fun b o x => Heap.get?_push_of_some _ (Heap.get?_push_of_some _ x)⟩
theorem enum_endT {prog : Program} {w : World} {A : Around} {E : Value → Shared → Prop} {s : Shared} {e it t : Addr} {j : Nat} {i : Int} {old : Value} {items : Array Value} {Q : Option Value → Shared → Prop} (hh : A.in1.handled = none) (he : IsEnum s.heap e it i old)
    (hit : s.heap.IsTupleIter it t j) (ht : s.heap.IsTuple t items) (hx : items[j]? = none) (hQ : ∀ h', Heap.ExtBut it s.heap h' → Q none { s with heap := h' }) : wpAny (model prog w) A (pyNext (.ref e)) Q E s := by
  have ty : s.TypeIs (.ref e) "enumerate" := ⟨_, he, rfl⟩
  unfold pyNext
  refine wpAny_bind (wpAny_attempt (wpAny_callSpecial?_slot (name := Str.ofString "__next__") ty F.slot_enumerate_next (wpAny_call_entry F.slot_enumerate_next ty F.entry_enumerate_next ?_ (F.args_enumerate_next_1 _))))
  show wpAny _ _ (field (.ref e) 2 >>= _) _ _ _
  refine wpAny_bind (wpAny_field he rfl (x := .ref it) rfl (wpAny_bind (wpAny_nextOf_tuple_end hh hit ht hx fun h' x he' ⟨o, ho, hc⟩ => ?_)))
  exact wpAny_bind (wpAny_isInstance (T := "StopIteration") (b := true) ⟨o, ho, hc⟩ isSubtype_stop (wpAny_pure (hQ _ he')))
/-- the tuple at a, each item in a new pair -/
def IteT (K : PySem.W.Frag) (a : Addr) : It :=
  ⟨fun i H => ∃ (xs : List V) (x : V), SqT K H a xs ∧ xs[i]? = some x, fun i H v H' => ∃ T x, v = .ref T ∧ H T = none ∧ H' = upd H T (.tup [.int (i : Nat), x]) ∧ ∀ xs, SqT K H a xs → xs[i]? = some x, fun i H => ∃ xs : List V, SqT K H a xs ∧ xs.length ≤ i⟩
theorem turn_enumT {P : Program} {w : World} {K : PySem.W.Frag} {elts : List Expr} {kk : Nat} {tpos : Pos} (a e it : Addr) :
    Turn P w K (.Tuple elts kk tpos) (IteT K a) [e, it] e (fun i h => (∃ old, IsEnum h e it ((i : Nat) : Int) old) ∧ h.IsTupleIter it a i ∧ e ≠ it ∧ a ≠ it ∧ e ≠ a) where
  mem := by simp
  obj := fun i h st b hb => by
    obtain ⟨⟨old, he⟩, ⟨o, ho, hc, hd⟩, _⟩ := st
    have z : b = e ∨ b = it := by simpa using hb
    rcases z with rfl | rfl
    · exact ⟨_, he, fun v q => nomatch q⟩
    · exact ⟨o, ho, fun v q => by rw [hd] at q; cases q⟩
  keep := fun i h h' st k => let ⟨⟨old, he⟩, hi, r⟩ := st; ⟨⟨old, k e (by simp) _ he⟩, hi.at fun o q => k it (by simp) o q, r⟩
  item := by
    intro X hP hw hK hc i pins s σ H E I hf st hg
    subst hP hw hK
    obtain ⟨⟨old, he⟩, hit, hne, hai, hea⟩ := st
    obtain ⟨xs, x, hq, hx⟩ := hg
    obtain ⟨its, rv, p, hz⟩ := I.tuple hq
    obtain ⟨u, hu, ru⟩ := rv.get hx
    have hel : e < s.heap.objs.size := Heap.lt_size he
    have hil : it < s.heap.objs.size := by obtain ⟨_, q, _⟩ := hit; exact Heap.lt_size q
    have hd : X.A.in1.handled = none := I.ok.hd hc
    have hlt : i < its.toArray.size := by
      have := (List.getElem?_eq_some_iff.mp hu).1
      simpa using this
    refine wpAny_pyNext_enum_itemD (Draws.tuple hd it a hai its.toArray) he ⟨hit, p⟩ hlt hne (by simp [hne, hea]) fun u' h' tk hu' ho hst hT hsz hk => ?_
    have eu : u' = u := by
      have hu2 : its[i]? = some u' := by simpa using hu'
      rw [hu] at hu2
      exact (Option.some.inj hu2).symm
    subst eu
    refine ⟨_, rfl, wpAny_letOwnedTupleGo_enum (s := { s with heap := h', toks := tk + 1 }) ho fun h'' he' sb => ?_⟩
    have hT2 : h''.get? s.heap.objs.size = some { cls := .type "tuple", data := .seq #[.int i tk, u'] } := (sb.2 _ (Nat.ne_of_gt hel)).trans hT
    have new : ObjOk X.prog X.w (upd H s.heap.objs.size (.tup [.int (i : Nat), x])) h'' s.heap.objs.size (.tup [.int (i : Nat), x]) := ⟨by show 2 ≤ sizeLine; decide, [.int i tk, u'], .cons ⟨_, rfl⟩ (.cons ru .nil), ⟨_, hT2, rfl, _, rfl⟩⟩
    have J : Inv X pins σ (upd H s.heap.objs.size (.tup [.int (i : Nat), x])) { s with heap := h'', toks := tk + 1 } := I.turnedNew (ch := [e, it]) (fun b ob hb q => (sb.2 b (fun z => hb (by simp [z]))).trans (hk b ob (fun z => hb (by simp [z])) (fun z => hb (by simp [z])) q)) hf (Nat.le_refl _) new
    refine ⟨.ref s.heap.objs.size, _, J, rfl, ⟨_, x, rfl, I.hok.fresh (Nat.le_refl _), rfl, fun ys hy => by rw [I.tuple_inj hy hq]; exact hx⟩, ⟨⟨u', ?_⟩, hst.1.at fun o q => (sb.2 it (Ne.symm hne)).trans q, hne, hai, hea⟩, fun b hb => ?_⟩
    · rw [show ((i + 1 : Nat) : Int) = (i : Int) + 1 by omega]
      exact he'
    · have hb' : b < s.heap.objs.size := by
        have z : b = e ∨ b = it := by simpa using hb
        rcases z with rfl | rfl
        · exact hel
        · exact hil
      rw [upd_ne (Nat.ne_of_lt hb')]
      exact (hf b hb).1
  done := by
    intro X hP hw hK hc i pins s σ H E I hf st hg
    subst hP hw hK
    obtain ⟨⟨old, he⟩, hit, hne, hai, hea⟩ := st
    obtain ⟨xs, hq, hx⟩ := hg
    obtain ⟨its, rv, p, hz⟩ := I.tuple hq
    obtain ⟨f0, f1, f2, f3, f4, f5⟩ := hf it (by simp)
    have hd : X.A.in1.handled = none := I.ok.hd hc
    have hl := rv.length
    exact enum_endT hd he hit p (by simp; omega) fun h' eb => ⟨rfl, I.turned (t' := s.toks) (fun b o hb q => eb b o hb q) f0 f1 f3 f4 f5⟩
  self := fun A i s Q E st h => let ⟨⟨_, he⟩, _⟩ := st; wpAny_pyIter_enum he h
def iEnumT (K : PySem.W.Frag) (ta : TA) : TI := fun σ H R => ta σ H fun vs H1 => ∃ a xs, vs = [.ref a] ∧ SqT K H1 a xs ∧ R (IteT K a) H1
theorem pi_enumT {X : Cx} {e : Expr} {ta : TA} {p pos tpos : Pos} {elts : List Expr} {kk : Nat} (hg : Gl X "enumerate") (hm : X.mg "enumerate" = none) (ha : PA X [e] ta) (hs : starEach [e] X.env = [(false, eval e X.env)] := by rfl) :
    PI X (.Tuple elts kk tpos) (.Call (.Name "enumerate" p) [e] [] pos) (iEnumT X.K ta) := by
  refine ⟨fun pins s σ H R I h => Call_ (ld_blt I hg hm boot_enumerate (PyProof.Rows.callWith_type1 (thn (ha.run pos pins s σ H _ I h) fun us s1 ⟨vs, H1, J, r1, q1⟩ => ?_) hs rfl))⟩
  obtain ⟨a, xs, ex, hq, q⟩ := q1
  subst ex
  cases r1 with
  | cons r rr =>
    cases rr
    cases r
    obtain ⟨its, rv, tp, hz⟩ := J.tuple hq
    have hal : a < s1.heap.objs.size := by
      obtain ⟨o, ho, _⟩ := tp
      exact Heap.lt_size ho
    refine call_enumT tp fun h' he hit hk => wpAny_pyIter_enum he ?_
    have J2 : Inv X pins σ H1 { s1 with heap := h' } := J.kept (t' := s1.toks) hk
    refine ⟨s1.heap.objs.size + 1, [s1.heap.objs.size + 1, s1.heap.objs.size], _, _, H1, rfl, J2, turn_enumT a (s1.heap.objs.size + 1) s1.heap.objs.size, ⟨⟨.none, he⟩, hit, Nat.succ_ne_self _, Nat.ne_of_lt hal, Nat.ne_of_gt (Nat.lt_succ_of_lt hal)⟩, fun b hb => ?_, q⟩
    have z : b = s1.heap.objs.size + 1 ∨ b = s1.heap.objs.size := by simpa using hb
    have hle : s1.heap.objs.size ≤ b := by
      rcases z with rfl | rfl
      · exact Nat.le_succ _
      · exact Nat.le_refl _
    exact J.fpOk hle (J.hok.fresh hle)
/-- a comprehension over enumerate(tuple) -/
theorem lc_enumT {K : PySem.W.Frag} {a : Addr} {xs : List V} {g : TG} {tt : TT} {te : TE} {vs : List Nat} {σ : L2.St} {H1 : Hp} {D : Addr} {Qd : Hp → Prop} (Pv : Nat → Hp → Prop) (h0 : Pv 0 (upd H1 D (.lst []))) (hl : ∀ i H, i ≤ xs.length → Pv i H → SqT K H a xs)
    (hs : ∀ i x T H, xs[i]? = some x → Pv i H → H T = none → g (.ref T) (wipe σ vs) (upd H T (.tup [.int (i : Nat), x])) fun σ2 H2 => wipe σ2 vs = wipe σ vs ∧ tt σ2 H2 fun b H3 =>
      if b = true then te σ2 H3 fun y H4 => ∃ acc, H4 D = some (.lst acc) ∧ acc.length < sizeLine ∧ Pv (i + 1) (upd H4 D (.lst (acc ++ [y]))) else Pv (i + 1) H3) (hd : ∀ H, Pv xs.length H → Qd H) :
    ∃ W : Nat → Nat → Hp → Prop, (∃ m, W 0 m (upd H1 D (.lst []))) ∧ ∀ i m H, W i m H →
      ((IteT K a).stop i H ∧ Qd H) ∨ ((IteT K a).go i H ∧ ∃ Nx : Hp → Prop, (∀ H', Nx H' → ∃ m', m' < m ∧ W (i + 1) m' H') ∧ ∀ x H', (IteT K a).yld i H x H' → g x (wipe σ vs) H' fun σ2 H2 => wipe σ2 vs = wipe σ vs ∧ tt σ2 H2 fun b H3 =>
        if b = true then te σ2 H3 fun y H4 => ∃ acc, H4 D = some (.lst acc) ∧ acc.length < sizeLine ∧ Nx (upd H4 D (.lst (acc ++ [y]))) else Nx H3) := by
  refine ⟨fun i m H => m = xs.length - i ∧ i ≤ xs.length ∧ Pv i H, ⟨_, rfl, Nat.zero_le _, h0⟩, ?_⟩
  rintro i m H ⟨rfl, hi, p⟩
  have sq := hl i H hi p
  by_cases c : i < xs.length
  · refine .inr ⟨⟨xs, xs[i], sq, by simp [c]⟩, Pv (i + 1), fun H' p' => ⟨xs.length - (i + 1), by omega, rfl, c, p'⟩, fun x H' y => ?_⟩
    obtain ⟨T, z, rfl, hT, rfl, hx⟩ := y
    exact hs i z T H (hx xs sq) p hT
  · have e : i = xs.length := by omega
    subst e
    exact .inl ⟨⟨xs, sq, Nat.le_refl _⟩, hd H p⟩
end BF

/-! ### xs.count(y), flat items -/
namespace BF
open PySem PySem.Spec PyProof.Rows L2
theorem count_eqU {x : V} : ∀ {xs : List V} {us : List Value}, Vals xs us → xs.all flatV = true → us.countP (eqU x) = xs.countP fun y => eqV y x
  | _, _, .nil, _ => rfl
  | y :: xs, u :: us, .cons r t, f => by
    rw [List.all_cons, Bool.and_eq_true] at f
    rw [List.countP_cons, List.countP_cons, count_eqU t f.2, eqU_of r f.1]
def rCntV (K : PySem.W.Frag) : V → List V → Hp → VK → Prop := fun x xs H Q => ∃ (p : Addr) (ys : List V) (y : V), x = .ref p ∧ xs = [y] ∧ SqL K H p ys ∧ flatV y = true ∧ ys.all flatV = true ∧ Q (.int (ys.countP (fun z => eqV z y) : Nat)) H
theorem mt_count {X : Cx} : MtR X "list.count" (rCntV X.K) := by
  intro pins s σ H x xs v us Q I rx rxs h
  obtain ⟨p, ys, y, rfl, rfl, hs, fy, fa, q⟩ := h
  cases rx
  obtain ⟨u, rfl, ru⟩ := rxs.one
  obtain ⟨its, rv, ⟨⟨cls, dd, data, sl⟩, n, ho, hc, hdn, hd⟩, hlen⟩ := I.list hs
  simp only at hc hd
  subst hc hd
  refine call_meets PySem.F.slot_list_count ⟨_, ho, rfl⟩ PySem.F.entry_list_count (PySem.F.args_list_count_2 _ _) (SeqAt.list_countAt p its.toArray n dd sl u (eqU y)) ⟨ho, fun z hz => mem_eqAt ru fy rv fa z (by simpa using hz), ?_⟩
  have ec : its.toArray.toList.countP (eqU y) = ys.countP (fun z => eqV z y) := count_eqU rv fa
  refine ⟨.int (ys.countP (fun z => eqV z y) : Nat), H, I.tok _, ⟨s.toks, ?_⟩, q⟩
  rw [ec]
end BF

/-! short words for readings: walk_at "rd" takes all steps that are plain -/
local macro_rules | `(tactic| walk_at "bn") => `(tactic| first | with_reducible assumption | exact BF.Sz.bn (by with_reducible assumption) | exact BF.bnl (n := 80) (by decide) | exact BF.Bn.mod (by walk_at "bn") (by walk_at "ps") | exact BF.Bn.div (by walk_at "bn") (by walk_at "ps") | exact BF.Bn.mul (by walk_at "bn") (by walk_at "bn") | exact BF.Bn.add (by walk_at "bn") (by walk_at "bn") | exact BF.Bn.sub (by walk_at "bn") (by walk_at "bn"))
local macro_rules | `(tactic| walk_at "ps") => `(tactic| first | with_reducible assumption | decide | exact BF.Sz.pos (by with_reducible assumption) | omega)
local macro_rules | `(tactic| walk_at "sd") => `(tactic| first | with_reducible assumption | ((with_reducible show L2.CPow _ _); exact ⟨by decide, by decide, by decide⟩) | ((with_reducible show L2.CDivW _ _); first | exact BF.divOk_lit (by decide) (by decide) | exact BF.Bn.divOk (by walk_at "bn") (by walk_at "ps") (by decide) (by decide)) | ((with_reducible show L2.CMulX _ _); exact BF.Bn.mulOk (by walk_at "bn") (by walk_at "bn") (by decide)) | ((with_reducible show _ ≤ PySem.sizeLine); exact BF.size4 (by simp)) | ((with_reducible show (0 : Int) < _); walk_at "ps") | ((with_reducible show (_ : Int) ≤ _); omega) | ((with_reducible show (_ : Int) < _); omega))
local macro_rules | `(tactic| walk_at "rd1") => `(tactic| first | refine And.intro (by walk_at "sd") ?_ | refine ⟨_, rfl, ?_⟩ | refine And.intro rfl ?_ | refine ⟨_, _, rfl, rfl, ?_⟩ | refine ⟨_, _, rfl, ?_⟩ | refine ⟨_, _, _, rfl, ?_⟩)
local macro_rules | `(tactic| walk_at "rd") => `(tactic| repeat walk_at "rd1")

/-! ### sums.py -/
namespace BF
open PySem PySem.Spec PyProof.Rows L2
/-- is_number(x): x of the built-in type T -/
inductive SpIsNumber (K : PySem.W.Frag) : Sp where
  | mk {x : V} {T : String} {i b : Bool} {H : Hp} {Q : VK} {E : XK} (ty : TyX K H x (.type T)) (hi : kitB T "int" = some i) (hb : kitB T "bool" = some b) (q : Q (.bl (i && !b)) H) : SpIsNumber K [x] H Q E
theorem num_int {K : PySem.W.Frag} {H : Hp} {Q : VK} {E : XK} {n : Int} (q : Q (.bl true) H) : SpIsNumber K [.int n] H Q E := .mk (T := "int") (i := true) (b := false) (.base (.int n)) (by decide +kernel) (by decide +kernel) q
/-- check_sizes(some), all of them sizes -/
inductive SpCheckSizes (K : PySem.W.Frag) : Sp where
  | mk {a : Addr} {ns : List Int} {H : Hp} {Q : VK} {E : XK} (hS : SqL K H a (ns.map V.int)) (hp : ∀ n ∈ ns, 0 < n) (q : Q .non H) : SpCheckSizes K [.ref a] H Q E
section
variable {P : Program} {w : World} {K : PySem.W.Frag} {mg : Str → Option Value} {base : Heap}
theorem H_is_number (p : Pl K mg "is_number" s_is_number) (B : Bi mg) : Has P w K mg base CX0 1 "is_number" ["thing"] (SpIsNumber K) := by
  refine p.mk0 sc_is_number (fun _ _ _ _ _ _ us hl => match us, hl with | [_], _ => rfl) (fun vs H Q E h => ?_) (fun f cdv A outer s H vs Q E hr h => ?_)
  · cases h; rfl
  · obtain @⟨x, T, i, b, _, _, _, hT, hi, hb, q⟩ := h
    refine ⟨_, (pss_one (ps_ret (pe_and (pe_callB call_isi (by rfl) B.isinstance (by decide +kernel) (pa_cons (pv 0) (pa_cons (pe_bltn (v := .ty "int") (by rfl) B.int (by decide +kernel) rfl) pa_nil))) (pe_one (pe_not (pe_callB call_isi (by rfl) B.isinstance (by decide +kernel) (pa_cons (pv 0) (pa_cons (pe_bltn (v := .ty "bool") (by rfl) B.bool (by decide +kernel) rfl) pa_nil)))))))), ?_⟩
    refine ⟨_, rfl, x, _, _, _, i, rfl, .ty "int", hT, kit_ty hi, i, rfl, ?_⟩
    cases i with
    | false => exact iteF q
    | true => exact iteT ⟨_, rfl, x, _, _, _, b, rfl, .ty "bool", hT, kit_ty hb, b, rfl, q⟩
theorem ints_at {ns : List Int} {i : Nat} {y : V} (h : (ns.map V.int)[i]? = some y) : ∃ n, ns[i]? = some n ∧ y = .int n := by
  rw [List.getElem?_map] at h
  cases e : ns[i]? with
  | none => rw [e] at h; cases h
  | some n =>
    rw [e] at h
    exact ⟨n, rfl, (Option.some.inj h).symm⟩
theorem H_check_sizes (p : Pl K mg "check_sizes" s_check_sizes) (h_is_number : Has P w K mg base CX0 1 "is_number" ["thing"] (SpIsNumber K)) : Has P w K mg base CX0 2 "check_sizes" ["some"] (SpCheckSizes K) := by
  refine p.mk0 sc_check_sizes (fun _ _ _ _ _ _ us hl => match us, hl with | [_], _ => rfl) (fun vs H Q E h => ?_) (fun f cdv A outer s H vs Q E hr h => ?_)
  · cases h; rfl
  · obtain @⟨a, ns, _, _, _, hS, hp, q⟩ := h
    refine ⟨_, (pss_one (ps_for PassesOwn.never (by rfl) (pi_list (pv 0)) (pg_name (i := 1) sc_check_sizes.nd rfl (Or.inl rfl)) (pss_one (ps_if (PW.pt (pw_or (pt_not (pt_val (pe_fn h_is_number (hr.mono (by decide)) pass0 (pa_cons (pv 1) pa_nil)))) (pw_or1 (pt_cmpR op_lt (pv 1) pe_int (nomark _))))) (pss_one ps_never) pss_nil)))), ?_⟩
    refine ⟨_, rfl, a, rfl, ⟨_, hS⟩, for_list (K := K) (a := a) (xs := ns.map V.int) (fun i σ H' => H' = H ∧ ∃ y, σ = [some (.ref a), y]) ⟨rfl, none, rfl⟩ (fun i σ H' _ ⟨e, _⟩ => by rw [e]; exact hS) ?_ ?_⟩
    · rintro i y σ H' hi ⟨rfl, z, rfl⟩
      obtain ⟨n, hn, rfl⟩ := ints_at hi
      have h0 := hp n (List.mem_of_getElem? hn)
      refine ⟨_, rfl, num_int ⟨true, rfl, iteF ⟨_, rfl, _, _, rfl, rfl, _, rfl, ?_⟩⟩⟩
      rw [decide_eq_false (by omega)]
      exact iteF ⟨rfl, _, rfl⟩
    · rintro σ H' ⟨rfl, z, rfl⟩
      exact q
end
end BF

namespace BF
open PySem PySem.Spec PyProof.Rows L2
inductive SpShared : Sp where
  | mk {a b : Int} {H : Hp} {Q : VK} {E : XK} (ha : Sz a) (hb : Sz b) (q : ∀ g t p H', Good a b g t → g ≤ b → 0 ≤ t → t < b → Same H H' → H' p = some (.tup [.int g, .int t]) → Q (.ref p) H') : SpShared [.int a, .int b] H Q E
/-- what parts_of hands back: None, or a new pair -/
def tellParts (x : Option (Int × Int)) (H : Hp) (Q : VK) : Prop := match x with
  | none => ∀ H', Same H H' → Q .non H'
  | some y => ∀ p H', Same H H' → H p = none → H' p = some (.tup [.int y.1, .int y.2]) → Q (.ref p) H'
theorem tellParts.mono {x : Option (Int × Int)} {H H' : Hp} {Q : VK} (q : tellParts x H Q) (sm : Same H H') : tellParts x H' Q := by
  cases x with
  | none => exact fun H2 s2 => q H2 (sm.trans s2)
  | some y => exact fun p H2 s2 hn hp => q p H2 (sm.trans s2) (sm.free hn) hp
/-- the value that tells x -/
def Told (x : Option (Int × Int)) (H : Hp) (v : V) : Prop := match x with
  | none => v = .non
  | some y => ∃ p, v = .ref p ∧ H p = some (.tup [.int y.1, .int y.2])
theorem Told.mono {x : Option (Int × Int)} {H H' : Hp} {v : V} (h : Told x H v) (sm : Same H H') : Told x H' v := by
  cases x with
  | none => exact h
  | some y =>
    obtain ⟨p, e, hp⟩ := h
    exact ⟨p, e, sm _ _ hp⟩
theorem tell_of {x : Option (Int × Int)} {H : Hp} {Q : VK} (q : ∀ v H', Same H H' → Told x H' v → Q v H') : tellParts x H Q := by
  cases x with
  | none => exact fun H' sm => q _ H' sm rfl
  | some y => exact fun p H' sm _ hp => q _ H' sm ⟨p, rfl, hp⟩
inductive SpParts : Sp where
  | mk {s a b : Int} {H : Hp} {Q : VK} {E : XK} (hs : Sz s) (ha : Sz a) (hb : Sz b) (q : tellParts (parts s a b) H Q) : SpParts [.int s, .int a, .int b] H Q E
section
variable {P : Program} {w : World} {K : PySem.W.Frag} {mg : Str → Option Value} {base : Heap}
theorem H_shared (p : Pl K mg "shared" s_shared) : Has P w K mg base CX0 1 "shared" ["one", "other"] SpShared := by
  refine p.mk0 sc_shared (fun _ _ _ _ _ _ us hl => match us, hl with | [_, _], _ => rfl) (fun vs H Q E h => ?_) (fun f cdv A outer s H vs Q E hr h => ?_)
  · cases h; rfl
  · obtain @⟨a, b, _, _, _, ha, hb, q⟩ := h
    refine ⟨_, (pss_cons (ps_asg (pe_tup (pa_cons pe_int (pa_cons pe_int pa_nil))) (pg_tup (by rfl) (pgs_cons (pg_name (i := 2) sc_shared.nd rfl (Or.inl rfl)) (pgs_cons (pg_name (i := 3) sc_shared.nd rfl (Or.inl rfl)) pgs_nil))))
      (pss_cons (ps_set (i := 4) sc_shared.nd rfl (Or.inl rfl) (pv 1))
      (pss_cons (ps_while PassesOwn.never (pt_cmpR op_gt (pv 1) pe_int (nomark _)) (pss_cons (ps_set (i := 5) sc_shared.nd rfl (Or.inl rfl) (pe_op op_fdivW (pv 0) (pv 1)))
      (pss_cons (ps_par (i := 0) (j := 1) (by rfl) sc_shared.nd rfl rfl (by decide) rfl rfl (pa_cons (pv 1) (pa_cons (pe_op op_sub (pv 0) (pe_op op_mulX (pv 5) (pv 1))) pa_nil)) (by rfl))
      (pss_one (ps_par (i := 2) (j := 3) (by rfl) sc_shared.nd rfl rfl (by decide) rfl rfl (pa_cons (pv 3) (pa_cons (pe_op op_sub (pv 2) (pe_op op_mulX (pv 5) (pv 3))) pa_nil)) (by rfl))))))
      (pss_one (ps_ret (pe_tup (pa_cons (pv 0) (pa_cons (pe_op op_mod (pv 2) (pv 4)) pa_nil)))))))), ?_⟩
    refine ⟨by show 2 ≤ sizeLine; decide, fun p0 hp0 => ⟨p0, _, rfl, sqT upd_same, rfl, _, _, rfl, _, _, rfl, rfl, ?_⟩⟩
    have sm0 : Same H (upd H p0 (.tup [.int 1, .int 0])) := same_upd hp0
    refine ⟨_, rfl, while_by (fun σ H' => Same H H' ∧ ∃ one other mine theirs y, σ = [some (.int one), some (.int other), some (.int mine), some (.int theirs), some (.int b), y] ∧ ShInv a b one other mine theirs)
      (fun σ _ => slotN σ 1) ⟨sm0, a, b, 1, 0, none, rfl, ShInv.start ha.pos hb.pos⟩ ?_ (fun σ H Q Q' hq h => ?_)⟩
    · rintro σ H' ⟨sm, one, other, mine, theirs, y, rfl, I⟩
      have b1 : Bn 2000 one := by
        rcases I.l1 with l | l
        · exact ha.bn.of_le (Int.le_of_lt I.o1) l
        · exact hb.bn.of_le (Int.le_of_lt I.o1) l
      have b2 : Bn 2000 other := hb.bn.of_le I.o2 I.l2
      have b3 : Bn 2000 theirs := hb.bn.le I.theirs_le.1
      refine ⟨_, rfl, _, _, rfl, rfl, _, rfl, iteD (fun ho => ?_) (fun ho' => ?_)⟩
      · have ho : 0 < other := ho
        have bq : Bn 2000 (one / other) := b1.div ho
        obtain ⟨t1, t2, t3⟩ := I.turn ho
        refine ⟨_, rfl, _, rfl, _, _, rfl, rfl, b2.divOk ho (by decide) (by decide), ?_⟩
        refine ⟨_, rfl, _, rfl, _, rfl, _, rfl, _, _, rfl, rfl, bq.mulOk b2 (by decide), _, _, rfl, rfl, _, _, rfl, ?_⟩
        refine ⟨_, rfl, _, rfl, _, rfl, _, rfl, _, _, rfl, rfl, bq.mulOk b3 (by decide), _, _, rfl, rfl, _, _, rfl, ?_⟩
        exact ⟨⟨sm, _, _, _, _, _, rfl, t1⟩, (show (one - one / other * other).toNat < other.toNat by omega)⟩
      · have ho : other = 0 := by
          have h1 : ¬ 0 < other := ho'
          have h2 := I.o2
          omega
        subst ho
        obtain ⟨G, l⟩ := I.done ha.pos hb.pos
        refine ⟨_, rfl, _, rfl, _, rfl, _, _, rfl, rfl, hb.pos, by show 2 ≤ sizeLine; decide, fun p hp => ?_⟩
        exact q _ _ p _ G l (Int.emod_nonneg _ (Int.ne_of_gt hb.pos)) (Int.emod_lt_of_pos _ hb.pos) (sm.trans (same_upd hp)) upd_same
    · obtain ⟨v, e, i, j, e1, e2, k, e3, q⟩ := h
      exact ⟨v, e, i, j, e1, e2, k, e3, hq _ _ q⟩
theorem H_parts_of (p : Pl K mg "parts_of" s_parts_of) (h_shared : Has P w K mg base CX0 1 "shared" ["one", "other"] SpShared) : Has P w K mg base CX0 2 "parts_of" ["size", "first", "second"] SpParts := by
  refine p.mk0 sc_parts_of (fun _ _ _ _ _ _ us hl => match us, hl with | [_, _, _], _ => rfl) (fun vs H Q E h => ?_) (fun f cdv A outer s H vs Q E hr h => ?_)
  · cases h; rfl
  · obtain @⟨sz, a, b, _, _, _, hs, ha, hb, q⟩ := h
    refine ⟨_, (pss_cons (ps_asg (pe_fn h_shared (hr.mono (by decide)) pass0 (pa_cons (pv 1) (pa_cons (pv 2) pa_nil))) (pg_tup (by rfl) (pgs_cons (pg_name (i := 3) sc_parts_of.nd rfl (Or.inl rfl)) (pgs_cons (pg_name (i := 4) sc_parts_of.nd rfl (Or.inl rfl)) pgs_nil))))
      (pss_cons (ps_if (pt_cmpR op_ne (pe_op op_mod (pv 0) (pv 3)) pe_int (nomark _)) (pss_one (ps_ret pe_non)) pss_nil)
      (pss_cons (ps_set (i := 5) sc_parts_of.nd rfl (Or.inl rfl) (pe_op op_mod (pe_op op_mulX (pe_op op_fdivW (pv 0) (pv 3)) (pv 4)) (pe_op op_fdivW (pv 2) (pv 3))))
      (pss_cons (ps_if (pt_cmpR op_gt (pe_op op_mulX (pv 5) (pv 1)) (pv 0) (nomark _)) (pss_one (ps_ret pe_non)) pss_nil)
      (pss_one (ps_ret (pe_tup (pa_cons (pv 5) (pa_cons (pe_op op_fdivW (pe_op op_sub (pv 0) (pe_op op_mulX (pv 5) (pv 1))) (pv 2)) pa_nil))))))))), ?_⟩
    refine ⟨_, rfl, _, rfl, .mk ha hb fun g t p H1 G lg t0 t1 sm hp => ?_⟩
    refine ⟨p, _, rfl, sqT hp, rfl, _, _, rfl, _, _, rfl, rfl, ?_⟩
    have e := parts_good (s := sz) ha.pos hb.pos G
    have bg : Bn 2000 g := hb.bn.of_le (Int.le_of_lt G.pos) lg
    have bt : Bn 2000 t := hb.bn.of_le t0 (Int.le_of_lt t1)
    have hbg : 0 < b / g := by
      obtain ⟨c, ec⟩ := G.gb
      have := hb.pos
      have e2 : b / g = c := by rw [ec]; exact Int.mul_ediv_cancel_left c (Int.ne_of_gt G.pos)
      rw [e2]
      rcases Int.lt_or_le 0 c with h | h
      · exact h
      · have h3 : g * c ≤ g * 0 := Int.mul_le_mul_of_nonneg_left h (Int.le_of_lt G.pos)
        omega
    refine ⟨_, rfl, _, rfl, _, _, rfl, rfl, G.pos, rfl, _, rfl, iteNe (fun c1 => ?_) (fun c2 => ?_)⟩
    · have c1 : sz % g ≠ 0 := c1
      rw [if_pos c1] at e
      rw [e] at q
      exact q _ sm
    · have c1 : ¬ sz % g ≠ 0 := fun z => z c2
      rw [if_neg c1] at e
      have bf : Bn 2000 (sz / g * t % (b / g)) := (hb.bn.div G.pos).mod hbg
      refine ⟨_, rfl, _, rfl, _, _, rfl, rfl, bg.divOk G.pos (by decide) (by decide), _, rfl, _, _, rfl, rfl, (hs.bn.div G.pos).mulOk bt (by decide), _, rfl, _, rfl, _, _, rfl, rfl, bg.divOk G.pos (by decide) (by decide), _, _, rfl, rfl, hbg, ?_⟩
      refine ⟨_, rfl, _, rfl, _, _, rfl, rfl, bf.mulOk ha.bn (by decide), _, rfl, _, _, rfl, rfl, _, rfl, iteD (fun d => ?_) (fun d => ?_)⟩
      · rw [if_pos d] at e
        rw [e] at q
        exact q _ sm
      · rw [if_neg d] at e
        rw [e] at q
        refine ⟨_, rfl, _, rfl, _, rfl, _, rfl, _, _, rfl, rfl, bf.mulOk ha.bn (by decide), _, _, rfl, rfl, _, rfl, _, _, rfl, rfl, hb.bn.divOk hb.pos (by decide) (by decide), by show 2 ≤ sizeLine; decide, fun p' hp' => ?_⟩
        exact q p' _ (sm.trans (same_upd hp')) (sm.free hp') upd_same
end
end BF

/-! ### the laws' own helpers: a drawn number, the fewest -/
namespace BF
open PySem PySem.Spec PyProof.Rows L2
/-- some number -/
inductive SpNumber : Sp where
  | mk {cell at_ whole : Int} {H : Hp} {Q : VK} {E : XK} (hc : Bn 1048577 cell) (ha : Bn 10 at_) (q : ∀ n, Q (.int n) H) : SpNumber [.int cell, .int at_, .int whole] H Q E
section
variable {P : Program} {w : World} {K : PySem.W.Frag} {mg : Str → Option Value} {base : Heap}
theorem H__law_number (p : Pl K mg "_law_number" s__law_number) : Has P w K mg base CX0 1 "_law_number" ["_law_cell", "_law_at", "_law_whole_here"] SpNumber := by
  refine p.mk0 sc__law_number (fun _ _ _ _ _ _ us hl => match us, hl with | [_, _, _], _ => rfl) (fun vs H Q E h => ?_) (fun f cdv A outer s H vs Q E hr h => ?_)
  · cases h; rfl
  · obtain @⟨cell, at_, whole, _, _, _, hc, ha, q⟩ := h
    refine ⟨_, (pss_cons (ps_if (pt_cmpR op_ge (pv 0) (pe_op op_pow pe_int pe_int) (nomark _)) (pss_one (ps_ret (pv 0))) pss_nil)
      (pss_cons (ps_set (i := 3) sc__law_number.nd rfl (Or.inl rfl) (pe_op op_mod (pe_op op_add (pe_op op_mulX (pe_op op_add (pv 0) (pe_op op_mulX pe_int (pv 1))) pe_int) (pv 2)) pe_int))
      (pss_cons (ps_set (i := 4) sc__law_number.nd rfl (Or.inl rfl) (pe_op op_mulX (pe_op op_mulX (pv 3) (pe_op op_add (pe_op op_add (pv 3) (pe_op op_mulX pe_int (pv 1))) pe_int)) (pe_op op_add (pe_op op_add (pv 3) (pv 0)) pe_int)))
      (pss_one (ps_ret (pe_op op_fdivW (pe_op op_mulX (pv 4) (pe_op op_add (pv 4) pe_int)) pe_int)))))), ?_⟩
    refine ⟨_, rfl, _, _, rfl, rfl, ⟨by decide, by decide, by decide⟩, _, _, rfl, rfl, _, rfl, iteD (fun _ => ⟨_, rfl, q _⟩) (fun _ => ?_)⟩
    have b1 : Bn 20 (977 * at_) := ((bnl (n := 10) (x := 977) (by decide)).mul ha).mono (by decide)
    have b2 : Bn 1048598 (cell + 977 * at_) := (hc.add b1).mono (by decide)
    refine ⟨_, rfl, _, rfl, _, _, rfl, rfl, (bnl (n := 10) (by decide)).mulOk ha (by decide), _, _, rfl, rfl, _, _, rfl, rfl, b2.mulOk (bnl (n := 16) (by decide)) (by decide), _, rfl, _, _, rfl, rfl, _, _, rfl, rfl, by show (0 : Int) < 2147483647; decide, ?_⟩
    dsimp only
    generalize hm : ((cell + 977 * at_) * 48271 + whole) % 2147483647 = m
    have b3 : Bn 31 m := by
      rw [← hm]
      exact Bn.mod (bnl (by decide)) (by decide)
    have b4 : Bn 17 (31 * at_) := ((bnl (n := 5) (x := 31) (by decide)).mul ha).mono (by decide)
    have b5 : Bn 60 (m + 31 * at_ + 7) := ((b3.add b4).add (bnl (n := 3) (x := 7) (by decide))).mono (by decide)
    have b6 : Bn 1048700 (m + cell + 5) := ((b3.add hc).add (bnl (n := 3) (x := 5) (by decide))).mono (by decide)
    have b7 : Bn 91 (m * (m + 31 * at_ + 7)) := (b3.mul b5).mono (by decide)
    refine ⟨_, rfl, _, rfl, _, rfl, _, _, rfl, rfl, (bnl (n := 5) (by decide)).mulOk ha (by decide), _, _, rfl, rfl, _, _, rfl, rfl, _, _, rfl, rfl, b3.mulOk b5 (by decide), _, rfl, _, rfl, _, _, rfl, rfl, _, _, rfl, rfl, _, _, rfl, rfl, b7.mulOk b6 (by decide), ?_⟩
    have b8 : Bn 1048791 (m * (m + 31 * at_ + 7) * (m + cell + 5)) := (b7.mul b6).mono (by decide)
    dsimp only
    generalize m * (m + 31 * at_ + 7) * (m + cell + 5) = x at b8 ⊢
    have b9 : Bn 1048900 (x + 48271) := (b8.add (bnl (n := 16) (x := 48271) (by decide))).mono (by decide)
    exact ⟨_, rfl, _, rfl, _, _, rfl, rfl, _, _, rfl, rfl, b8.mulOk b9 (by decide), _, _, rfl, rfl, divOk_lit (by decide) (by decide), q _⟩
theorem H__law_whole (p : Pl K mg "_law_whole" s__law_whole) (B : Bi mg) : Has P w K mg base CX0 1 "_law_whole" ["_law_found"] (SpIsNumber K) := by
  refine p.mk0 sc__law_whole (fun _ _ _ _ _ _ us hl => match us, hl with | [_], _ => rfl) (fun vs H Q E h => ?_) (fun f cdv A outer s H vs Q E hr h => ?_)
  · cases h; rfl
  · obtain @⟨x, T, i, b, _, _, _, hT, hi, hb, q⟩ := h
    refine ⟨_, (pss_one (ps_ret (pe_and (pe_callB call_isi (by rfl) B.isinstance (by decide +kernel) (pa_cons (pv 0) (pa_cons (pe_bltn (v := .ty "int") (by rfl) B.int (by decide +kernel) rfl) pa_nil))) (pe_one (pe_not (pe_callB call_isi (by rfl) B.isinstance (by decide +kernel) (pa_cons (pv 0) (pa_cons (pe_bltn (v := .ty "bool") (by rfl) B.bool (by decide +kernel) rfl) pa_nil)))))))), ?_⟩
    refine ⟨_, rfl, x, _, _, _, i, rfl, .ty "int", hT, kit_ty hi, i, rfl, ?_⟩
    cases i with
    | false => exact iteF q
    | true => exact iteT ⟨_, rfl, x, _, _, _, b, rfl, .ty "bool", hT, kit_ty hb, b, rfl, q⟩
end
end BF

/-! ### what bars, in plain words -/
namespace BF
open PySem L2
def strB (L W d : Int) : Bool := !decide (L % d = 0) && !decide (W % d = 0)
noncomputable def shoB (x f s : Int) : Bool := (parts x f s).isNone
/-- those of 0, 1 that are so -/
def two (a b : Bool) : List Int := (if a then [0] else []) ++ (if b then [1] else [])
def strL (L W f s : Int) : List Int := two (strB L W f) (strB L W s)
noncomputable def shoL (L W f s : Int) : List Int := two (shoB L f s) (shoB W f s)
/-- whether a side bars: 0, 1 of the brick, 2, 3 of the floor -/
noncomputable def barB (L W f s : Int) (k : Int) : Bool := if k < 2 then strB L W (if k = 0 then f else s) else shoB (if k = 2 then L else W) f s
end BF
namespace BF
theorem sho_no {x f s m n : Int} (hf : 0 < f) (hs : 0 < s) (h : Rep x f s m n) : shoB x f s = false := by
  have p := parts_is (s := x) hf hs
  unfold shoB
  cases e : parts x f s with
  | none =>
    rw [e] at p
    exact absurd h (p m n)
  | some y => rfl
theorem sho_yes {x f s : Int} (hs : 0 < s) (h : ∀ m n, ¬ Rep x f s m n) : shoB x f s = true := by
  have p := parts_eq (s := x) (a := f) (b := s) (x := none) hs h
  unfold shoB
  rw [p]
  rfl
end BF

/-! ### answers.py: what bars -/
namespace BF
open PySem PySem.Spec PyProof.Rows L2
inductive SpStriped : Sp where
  | mk {L W d : Int} {H : Hp} {Q : VK} {E : XK} (hd : 0 < d) (q : Q (.bl (strB L W d)) H) : SpStriped [.int L, .int W, .int d] H Q E
inductive SpBars : Sp where
  | mk {L W f s : Int} {H : Hp} {Q : VK} {E : XK} (hL : Sz L) (hW : Sz W) (hf : Sz f) (hs : Sz s)
      (q : ∀ p p1 p2 H', Same H H' → H' p = some (.tup [.ref p1, .ref p2]) → H' p1 = some (.lst ((strL L W f s).map V.int)) → H' p2 = some (.lst ((shoL L W f s).map V.int)) → Q (.ref p) H') : SpBars [.int L, .int W, .int f, .int s] H Q E
/-- what two tests have picked behind i turns -/
def twoN (a b : Bool) : Nat → List Int
  | 0 => []
  | 1 => if a then [0] else []
  | _ => two a b
section
variable {P : Program} {w : World} {K : PySem.W.Frag} {mg : Str → Option Value} {base : Heap}
theorem H_is_striped (p : Pl K mg "is_striped" s_is_striped) : Has P w K mg base CX0 1 "is_striped" ["length", "width", "side"] SpStriped := by
  refine p.mk0 sc_is_striped (fun _ _ _ _ _ _ us hl => match us, hl with | [_, _, _], _ => rfl) (fun vs H Q E h => ?_) (fun f cdv A outer s H vs Q E hr h => ?_)
  · cases h; rfl
  · obtain @⟨L, W, d, _, _, _, hd, q⟩ := h
    refine ⟨_, (pss_one (ps_ret (pe_and (pe_cmpR op_ne (pe_op op_mod (pv 0) (pv 2)) pe_int (nomark _)) (pe_one (pe_cmpR op_ne (pe_op op_mod (pv 1) (pv 2)) pe_int (nomark _)))))), ?_⟩
    unfold strB at q
    walk_at "rd"
    refine iteNe (fun c => ?_) (fun c => ?_)
    · rw [decide_eq_false c] at q
      walk_at "rd"
      have e : decide (V.int (W % d) = V.int 0) = decide (W % d = 0) := decide_eq_decide.mpr ⟨fun z => V.int.inj z, fun z => congrArg V.int z⟩
      rw [show (!decide (V.int (W % d) = V.int 0)) = (!false && !decide (W % d = 0)) by rw [e]; rfl]
      exact q
    · rw [decide_eq_true c] at q
      exact q
theorem H_what_bars (p : Pl K mg "what_bars" s_what_bars) (B : Bi mg) (h_is_striped : Has P w K mg base CX0 1 "is_striped" ["length", "width", "side"] SpStriped) (h_parts_of : Has P w K mg base CX0 2 "parts_of" ["size", "first", "second"] SpParts) :
    Has P w K mg base CX0 3 "what_bars" ["length", "width", "first", "second"] SpBars := by
  refine p.mk0 sc_what_bars (fun _ _ _ _ _ _ us hl => match us, hl with | [_, _, _, _], _ => rfl) (fun vs H Q E h => ?_) (fun f cdv A outer s H vs Q E hr h => ?_)
  · cases h; rfl
  · obtain @⟨L, W, fi, se, _, _, _, hL, hW, hf, hs, q⟩ := h
    refine ⟨_, (pss_cons (ps_setLc (i := 4) (own := [("which", 6), ("side", 7)]) (g := (gTup K 2 (gCons (gName 6) (gCons (gName 7) gNil)))) (by rfl) sc_what_bars.nd rfl rfl (sw_true rfl rfl rfl (by decide +kernel)) (pi_enumT (by rfl) B.enumerate (pa_cons (pe_tup (pa_cons (pv 2) (pa_cons (pv 3) pa_nil))) pa_nil)) (blkOk_by (own := [("which", 6), ("side", 7)]) (N := ["length", "width", "first", "second", "striped", "short", "which", "side"]) (sc := defScope s_what_bars) (by decide +kernel)) (fun _ _ _ _ _ => (pg_tup (by rfl) (pgs_cons (pg_name (i := 6) sc_what_bars.nd rfl (Or.inl rfl)) (pgs_cons (pg_name (i := 7) sc_what_bars.nd rfl (Or.inl rfl)) pgs_nil)))) (fun _ _ _ _ _ => pts_one (pt_val (pe_fn h_is_striped (hr.mono (by decide)) pass0 (pa_cons (pv 0) (pa_cons (pv 1) (pa_cons (pv 7) pa_nil)))))) (fun _ _ _ _ _ => (pv 6)))
      (pss_cons (ps_setLc (i := 5) (own := [("which", 6), ("side", 7)]) (g := (gTup K 2 (gCons (gName 6) (gCons (gName 7) gNil)))) (by rfl) sc_what_bars.nd rfl rfl (sw_true rfl rfl rfl (by decide +kernel)) (pi_enumT (by rfl) B.enumerate (pa_cons (pe_tup (pa_cons (pv 0) (pa_cons (pv 1) pa_nil))) pa_nil)) (blkOk_by (own := [("which", 6), ("side", 7)]) (N := ["length", "width", "first", "second", "striped", "short", "which", "side"]) (sc := defScope s_what_bars) (by decide +kernel)) (fun _ _ _ _ _ => (pg_tup (by rfl) (pgs_cons (pg_name (i := 6) sc_what_bars.nd rfl (Or.inl rfl)) (pgs_cons (pg_name (i := 7) sc_what_bars.nd rfl (Or.inl rfl)) pgs_nil)))) (fun _ _ _ _ _ => pts_one (pt_cmpR op_isN (pe_fn h_parts_of (hr.mono (by decide)) pass0 (pa_cons (pv 7) (pa_cons (pv 2) (pa_cons (pv 3) pa_nil)))) pe_non (nomark _))) (fun _ _ _ _ _ => (pv 6)))
      (pss_one (ps_ret (pe_tup (pa_cons (pv 4) (pa_cons (pv 5) pa_nil))))))), ?_⟩
    walk_at "rd"
    intro t1 ht1
    generalize hH1 : upd H t1 _ = H1
    obtain ⟨sm1, up1⟩ : Same H H1 ∧ H1 t1 = some (.tup [.int fi, .int se]) := newH hH1 ht1
    clear hH1
    refine ⟨t1, _, rfl, sqT up1, fun D1 hD1 => lc_enumT (K := K) (a := t1) (xs := [.int fi, .int se]) (fun i H' => Same H1 H' ∧ H' D1 = some (.lst ((twoN (strB L W fi) (strB L W se) i).map V.int))) ⟨same_upd hD1, upd_same⟩ (fun i H' _ ⟨sm, _⟩ => sqT (sm _ _ up1)) ?_ ?_⟩
    · rintro i x T H' hx ⟨sm, eD⟩ hT
      obtain ⟨d, rfl, hd⟩ : ∃ d : Int, x = .int d ∧ ((i = 0 ∧ d = fi) ∨ (i = 1 ∧ d = se)) := by
        match i, hx with
        | 0, e => cases e; exact ⟨_, rfl, .inl ⟨rfl, rfl⟩⟩
        | 1, e => cases e; exact ⟨_, rfl, .inr ⟨rfl, rfl⟩⟩
        | n + 2, e => cases e
      have hdp : 0 < d := by
        rcases hd with ⟨_, rfl⟩ | ⟨_, rfl⟩
        · exact hf.pos
        · exact hs.pos
      have eD2 := same_upd (o := .tup [.int (i : Nat), .int d]) hT _ _ eD
      refine ⟨T, _, rfl, sqT upd_same, rfl, ?_⟩
      have sm2 : Same H1 (upd H' T (.tup [.int (i : Nat), .int d])) := sm.trans (same_upd hT)
      generalize upd H' T (.tup [.int (i : Nat), .int d]) = H2 at eD2 sm2 ⊢
      walk_at "rd"
      refine .mk hdp ⟨_, rfl, iteB (fun c => ?_) (fun c => ?_)⟩
      · refine ⟨_, rfl, _, eD2, ?_, ?_, ?_⟩
        · rw [List.length_map]
          refine Nat.lt_of_le_of_lt (m := 2) ?_ (by decide)
          rcases hd with ⟨rfl, _⟩ | ⟨rfl, _⟩
          · exact Nat.zero_le _
          · show (if strB L W fi then [(0 : Int)] else []).length ≤ 2; split <;> decide
        · exact fun b o e => by rw [upd_ne (ne_of_none e hD1)]; exact sm2 b o e
        · rw [upd_same]
          rcases hd with ⟨rfl, rfl⟩ | ⟨rfl, rfl⟩
          · show some (HO.lst ([] ++ [V.int 0])) = some (HO.lst ((if strB L W d then [0] else []).map V.int))
            rw [c]
            rfl
          · show some (HO.lst ((if strB L W fi then [0] else []).map V.int ++ [V.int 1])) = some (HO.lst ((two (strB L W fi) (strB L W d)).map V.int))
            unfold two
            rw [c, List.map_append]
            rfl
      · refine ⟨sm2, ?_⟩
        rw [eD2]
        rcases hd with ⟨rfl, rfl⟩ | ⟨rfl, rfl⟩
        · show some (HO.lst []) = some (HO.lst ((if strB L W d then [0] else []).map V.int))
          rw [c]
          rfl
        · show some (HO.lst ((if strB L W fi then [0] else []).map V.int)) = some (HO.lst ((two (strB L W fi) (strB L W d)).map V.int))
          unfold two
          rw [c]
          simp
    · rintro H2 ⟨sm2, eD1⟩
      walk_at "rd"
      intro t2 ht2
      generalize hH3 : upd H2 t2 _ = H3
      obtain ⟨sm3, up3⟩ : Same H2 H3 ∧ H3 t2 = some (.tup [.int L, .int W]) := newH hH3 ht2
      clear hH3
      refine ⟨t2, _, rfl, sqT up3, fun D2 hD2 => lc_enumT (K := K) (a := t2) (xs := [.int L, .int W]) (fun i H' => Same H3 H' ∧ H' D2 = some (.lst ((twoN (shoB L fi se) (shoB W fi se) i).map V.int))) ⟨same_upd hD2, upd_same⟩ (fun i H' _ ⟨sm, _⟩ => sqT (sm _ _ up3)) ?_ ?_⟩
      · rintro i x T H' hx ⟨sm, eD⟩ hT
        obtain ⟨d, rfl, hd⟩ : ∃ d : Int, x = .int d ∧ ((i = 0 ∧ d = L) ∨ (i = 1 ∧ d = W)) := by
          match i, hx with
          | 0, e => cases e; exact ⟨_, rfl, .inl ⟨rfl, rfl⟩⟩
          | 1, e => cases e; exact ⟨_, rfl, .inr ⟨rfl, rfl⟩⟩
          | n + 2, e => cases e
        have hdp : Sz d := by
          rcases hd with ⟨_, rfl⟩ | ⟨_, rfl⟩
          · exact hL
          · exact hW
        have eD2 := same_upd (o := .tup [.int (i : Nat), .int d]) hT _ _ eD
        refine ⟨T, _, rfl, sqT upd_same, rfl, ?_⟩
        have sm4 : Same H3 (upd H' T (.tup [.int (i : Nat), .int d])) := sm.trans (same_upd hT)
        generalize upd H' T (.tup [.int (i : Nat), .int d]) = H4 at eD2 sm4 ⊢
        walk_at "rd"
        refine .mk hdp hf hs (tell_of fun v H5 sm5 tv => ?_)
        have ev : (decide (v = .non)) = shoB d fi se := by
          unfold shoB
          cases hp : parts d fi se with
          | none =>
            rw [hp] at tv
            obtain rfl : v = .non := tv
            rfl
          | some y =>
            rw [hp] at tv
            obtain ⟨p5, rfl, _⟩ := tv
            rfl
        refine ⟨rfl, _, rfl, ?_⟩
        rw [ev]
        replace eD2 := sm5 _ _ eD2
        replace sm4 := sm4.trans sm5
        refine iteB (fun c => ?_) (fun c => ?_)
        · refine ⟨_, rfl, _, eD2, ?_, ?_, ?_⟩
          · rw [List.length_map]
            refine Nat.lt_of_le_of_lt (m := 2) ?_ (by decide)
            rcases hd with ⟨rfl, _⟩ | ⟨rfl, _⟩
            · exact Nat.zero_le _
            · show (if shoB L fi se then [(0 : Int)] else []).length ≤ 2; split <;> decide
          · exact fun b o e => by rw [upd_ne (ne_of_none e hD2)]; exact sm4 b o e
          · rw [upd_same]
            rcases hd with ⟨rfl, rfl⟩ | ⟨rfl, rfl⟩
            · show some (HO.lst ([] ++ [V.int 0])) = some (HO.lst ((if shoB d fi se then [0] else []).map V.int))
              rw [c]
              rfl
            · show some (HO.lst ((if shoB L fi se then [0] else []).map V.int ++ [V.int 1])) = some (HO.lst ((two (shoB L fi se) (shoB d fi se)).map V.int))
              unfold two
              rw [c, List.map_append]
              rfl
        · refine ⟨sm4, ?_⟩
          rw [eD2]
          rcases hd with ⟨rfl, rfl⟩ | ⟨rfl, rfl⟩
          · show some (HO.lst []) = some (HO.lst ((if shoB d fi se then [0] else []).map V.int))
            rw [c]
            rfl
          · show some (HO.lst ((if shoB L fi se then [0] else []).map V.int)) = some (HO.lst ((two (shoB L fi se) (shoB d fi se)).map V.int))
            unfold two
            rw [c]
            simp
      · rintro H4 ⟨sm4, eD2⟩
        walk_at "rd"
        intro t3 ht3
        have e1 : H4 D1 = _ := sm4 _ _ (sm3 _ _ eD1)
        exact q t3 D1 D2 _ (sm1.trans (sm2.trans (sm3.trans (sm4.trans (same_upd ht3))))) upd_same (same_upd ht3 _ _ e1) (same_upd ht3 _ _ eD2)
end
end BF

/-! ### Laid, Striped, Short: what they show -/
namespace BF
open PySem PySem.Spec PyProof.Rows L2
/-- whether an answer is as told -/
noncomputable def due4 (L W f s : Int) : Ans → Bool
  | .laid => (strL L W f s).isEmpty && (shoL L W f s).isEmpty
  | .striped (.int i) => if i = 0 then strB L W f else if i = 1 then strB L W s else false
  | .short (.int i) => if i = 0 then shoB L f s else if i = 1 then shoB W f s else false
  | _ => false
/-- answers of these classes -/
inductive A4 : Ans → Prop where
  | laid : A4 .laid
  | striped (i : Int) : A4 (.striped (.int i))
  | short (i : Int) : A4 (.short (.int i))
inductive SpShows4 (K : PySem.W.Frag) (x : Cl) : Sp where
  | mk {p : Addr} {a : Ans} {L W f s : Int} {H : Hp} {Q : VK} {E : XK} (ha : AnsAt K H p a) (hx : a.cl = x) (h4 : A4 a) (hL : Sz L) (hW : Sz W) (hf : Sz f) (hs : Sz s) (q : ∀ H', Same H H' → Q (.bl (due4 L W f s a)) H') :
    SpShows4 K x [.ref p, .int L, .int W, .int f, .int s] H Q E
theorem two_eqv (a b c d : Bool) : PyData.eqv (.tuple [.list ((two a b).map .int), .list ((two c d).map .int)]) (.tuple [.list [], .list []]) = ((two a b).isEmpty && (two c d).isEmpty) := by
  cases a <;> cases b <;> cases c <;> cases d <;> rfl
theorem two_shaped (a b c d : Bool) : SeqAt.shaped (.tuple [.list ((two a b).map .int), .list ((two c d).map .int)]) = true := by
  cases a <;> cases b <;> cases c <;> cases d <;> rfl
theorem in01 (i : Int) : inV (.int i) [.int 0, .int 1] = (decide (i = 0) || decide (i = 1)) := by
  by_cases h0 : i = 0
  · subst h0; rfl
  · by_cases h1 : i = 1
    · subst h1; rfl
    · rw [decide_eq_false h0, decide_eq_false h1]
      have e0 : ((0 : Int) == i) = false := beq_eq_false_iff_ne.mpr (Ne.symm h0)
      have e1 : ((1 : Int) == i) = false := beq_eq_false_iff_ne.mpr (Ne.symm h1)
      show (((0 : Int) == i) || (((1 : Int) == i) || false)) = (false || false)
      rw [e0, e1]
      rfl
section
variable {P : Program} {w : World} {K : PySem.W.Frag} {mg : Str → Option Value} {base : Heap}
theorem H_Laid_shows (p : PlM K .laid "shows" "Laid.shows" s_Laid_shows) (h_what_bars : Has P w K mg base CX0 3 "what_bars" ["length", "width", "first", "second"] SpBars) :
    HasM P w K mg base CX0 4 .laid "shows" ["self", "length", "width", "first", "second"] (SpShows4 K .laid) := by
  refine p.mk0 sc_Laid_shows (fun _ _ _ _ _ _ us hl => match us, hl with | [_, _, _, _, _], _ => rfl) (fun vs H Q E h => ?_) (fun f cdv A outer s H vs Q E hr h => ?_)
  · cases h; rfl
  · obtain @⟨p, a, L, W, fi, se, _, _, _, ha, hx, h4, hL, hW, hf, hs, q⟩ := h
    refine ⟨_, (pss_one (ps_ret (pe_cmpR (op_eqD hr.units) (pe_fn h_what_bars (hr.mono (by decide)) pass0 (pa_cons (pv 1) (pa_cons (pv 2) (pa_cons (pv 3) (pa_cons (pv 4) pa_nil))))) (pe_tup (pa_cons (pe_lst pa_nil) (pa_cons (pe_lst pa_nil) pa_nil))) (nomark _)))), ?_⟩
    cases h4 with
    | striped i => cases hx
    | short i => cases hx
    | laid =>
      walk_at "rd"
      refine .mk hL hW hf hs fun t p1 p2 H1 sm1 ht hp1 hp2 => ?_
      walk_at "rd"
      intro l1 hl1
      generalize hH2 : upd H1 l1 _ = H2
      obtain ⟨sm2, up2⟩ : Same H1 H2 ∧ H2 l1 = some (.lst []) := newH hH2 hl1
      clear hH2
      walk_at "rd"
      intro l2 hl2
      generalize hH3 : upd H2 l2 _ = H3
      obtain ⟨sm3, up3⟩ : Same H2 H3 ∧ H3 l2 = some (.lst []) := newH hH3 hl2
      clear hH3
      walk_at "rd"
      intro l3 hl3
      generalize hH4 : upd H3 l3 _ = H4
      obtain ⟨sm4, up4⟩ : Same H3 H4 ∧ H4 l3 = some (.tup [.ref l1, .ref l2]) := newH hH4 hl3
      clear hH4
      have smA : Same H1 H4 := sm2.trans (sm3.trans sm4)
      refine ⟨.tuple [.list ((strL L W fi se).map .int), .list ((shoL L W fi se).map .int)], .tuple [.list [], .list []],
        .tup (sqT (smA _ _ ht)) (.cons (.lst (sqL (smA _ _ hp1)) (dp_ints _)) (.cons (.lst (sqL (smA _ _ hp2)) (dp_ints _)) .nil)), .tup (sqT up4) (.cons (.lst (sqL (sm4 _ _ (sm3 _ _ up2))) .nil) (.cons (.lst (sqL (sm4 _ _ up3)) .nil) .nil)), two_shaped _ _ _ _, rfl, ?_⟩
      have e : PyData.eqv (.tuple [.list ((strL L W fi se).map .int), .list ((shoL L W fi se).map .int)]) (.tuple [.list [], .list []]) = due4 L W fi se .laid := two_eqv _ _ _ _
      rw [e]
      exact q _ (sm1.trans smA)
theorem H_Striped_shows (p : PlM K .striped "shows" "Striped.shows" s_Striped_shows) (G : ClG K mg) (h_is_striped : Has P w K mg base CX0 1 "is_striped" ["length", "width", "side"] SpStriped) :
    HasM P w K mg base CX0 2 .striped "shows" ["self", "length", "width", "first", "second"] (SpShows4 K .striped) := by
  refine p.mk0 sc_Striped_shows (fun _ _ _ _ _ _ us hl => match us, hl with | [_, _, _, _, _], _ => rfl) (fun vs H Q E h => ?_) (fun f cdv A outer s H vs Q E hr h => ?_)
  · cases h; rfl
  · obtain @⟨p, a, L, W, fi, se, _, _, _, ha, hx, h4, hL, hW, hf, hs, q⟩ := h
    refine ⟨_, (pss_one (ps_ret (pe_and (pe_cmpR op_in_seq (pe_fld (pv 0) rfl) (pe_tup (pa_cons pe_int (pa_cons pe_int pa_nil))) (by rfl)) (pe_one (pe_fn h_is_striped (hr.mono (by decide)) pass0 (pa_cons (pv 1) (pa_cons (pv 2) (pa_cons (pe_ix ix_tup (pe_tup (pa_cons (pv 3) (pa_cons (pv 4) pa_nil))) (pe_fld (pv 0) rfl) (fun _ _ => rfl)) pa_nil)))))))), ?_⟩
    cases h4 with
    | laid => cases hx
    | short i => cases hx
    | striped i =>
      obtain ⟨dx, hp⟩ := ha
      have F := G.f .striped (by decide)
      refine ⟨_, rfl, p, _, dx, _, _, rfl, hp, F.c, F.no, rfl, ?_⟩
      walk_at "rd"
      intro l1 hl1
      generalize hH1 : upd H l1 _ = H1
      obtain ⟨sm1, up1⟩ : Same H H1 ∧ H1 l1 = some (.tup [.int 0, .int 1]) := newH hH1 hl1
      clear hH1
      refine ⟨l1, _, rfl, .inr (sqT up1), rfl, rfl, _, rfl, ?_⟩
      rw [show (if false = true then !inV (.int i) [.int 0, .int 1] else inV (.int i) [.int 0, .int 1]) = (decide (i = 0) || decide (i = 1)) from in01 i]
      refine iteB (fun c => ?_) (fun c => ?_)
      · walk_at "rd"
        intro l2 hl2
        generalize hH2 : upd H1 l2 _ = H2
        obtain ⟨sm2, up2⟩ : Same H1 H2 ∧ H2 l2 = some (.tup [.int fi, .int se]) := newH hH2 hl2
        clear hH2
        have c2 : i = 0 ∨ i = 1 := by simpa using c
        refine ⟨_, rfl, p, _, dx, _, _, rfl, sm2 _ _ (sm1 _ _ hp), F.c, F.no, rfl, ?_⟩
        rcases c2 with rfl | rfl
        · exact ⟨l2, _, 0, .int fi, rfl, rfl, sqT up2, rfl, .mk hf.pos (q _ (sm1.trans sm2))⟩
        · exact ⟨l2, _, 1, .int se, rfl, rfl, sqT up2, rfl, .mk hs.pos (q _ (sm1.trans sm2))⟩
      · have c2 : ¬ i = 0 ∧ ¬ i = 1 := by simpa using c
        have e : due4 L W fi se (.striped (.int i)) = false := by
          show (if i = 0 then strB L W fi else if i = 1 then strB L W se else false) = false
          rw [if_neg c2.1, if_neg c2.2]
        rw [e] at q
        exact q _ sm1
theorem H_Short_shows (p : PlM K .short "shows" "Short.shows" s_Short_shows) (G : ClG K mg) (h_parts_of : Has P w K mg base CX0 2 "parts_of" ["size", "first", "second"] SpParts) :
    HasM P w K mg base CX0 3 .short "shows" ["self", "length", "width", "first", "second"] (SpShows4 K .short) := by
  refine p.mk0 sc_Short_shows (fun _ _ _ _ _ _ us hl => match us, hl with | [_, _, _, _, _], _ => rfl) (fun vs H Q E h => ?_) (fun f cdv A outer s H vs Q E hr h => ?_)
  · cases h; rfl
  · obtain @⟨p, a, L, W, fi, se, _, _, _, ha, hx, h4, hL, hW, hf, hs, q⟩ := h
    refine ⟨_, (pss_one (ps_ret (pe_and (pe_cmpR op_in_seq (pe_fld (pv 0) rfl) (pe_tup (pa_cons pe_int (pa_cons pe_int pa_nil))) (by rfl)) (pe_one (pe_cmpR op_isN (pe_fn h_parts_of (hr.mono (by decide)) pass0 (pa_cons (pe_ix ix_tup (pe_tup (pa_cons (pv 1) (pa_cons (pv 2) pa_nil))) (pe_fld (pv 0) rfl) (fun _ _ => rfl)) (pa_cons (pv 3) (pa_cons (pv 4) pa_nil)))) pe_non (nomark _)))))), ?_⟩
    cases h4 with
    | laid => cases hx
    | striped i => cases hx
    | short i =>
      obtain ⟨dx, hp⟩ := ha
      have F := G.f .short (by decide)
      have ev : ∀ (d : Int) (v : V) (H' : Hp), Told (parts d fi se) H' v → (decide (v = .non)) = shoB d fi se := fun d v H' tv => by
        unfold shoB
        cases hp : parts d fi se with
        | none =>
          rw [hp] at tv
          obtain rfl : v = .non := tv
          rfl
        | some y =>
          rw [hp] at tv
          obtain ⟨p5, rfl, _⟩ := tv
          rfl
      refine ⟨_, rfl, p, _, dx, _, _, rfl, hp, F.c, F.no, rfl, ?_⟩
      walk_at "rd"
      intro l1 hl1
      generalize hH1 : upd H l1 _ = H1
      obtain ⟨sm1, up1⟩ : Same H H1 ∧ H1 l1 = some (.tup [.int 0, .int 1]) := newH hH1 hl1
      clear hH1
      refine ⟨l1, _, rfl, .inr (sqT up1), rfl, rfl, _, rfl, ?_⟩
      rw [show (if false = true then !inV (.int i) [.int 0, .int 1] else inV (.int i) [.int 0, .int 1]) = (decide (i = 0) || decide (i = 1)) from in01 i]
      refine iteB (fun c => ?_) (fun c => ?_)
      · walk_at "rd"
        intro l2 hl2
        generalize hH2 : upd H1 l2 _ = H2
        obtain ⟨sm2, up2⟩ : Same H1 H2 ∧ H2 l2 = some (.tup [.int L, .int W]) := newH hH2 hl2
        clear hH2
        have c2 : i = 0 ∨ i = 1 := by simpa using c
        refine ⟨_, rfl, p, _, dx, _, _, rfl, sm2 _ _ (sm1 _ _ hp), F.c, F.no, rfl, ?_⟩
        rcases c2 with rfl | rfl
        · refine ⟨l2, _, 0, .int L, rfl, rfl, sqT up2, rfl, _, rfl, _, rfl, .mk hL hf hs (tell_of fun v H5 sm5 tv => ⟨rfl, ?_⟩)⟩
          rw [ev L v H5 tv]
          exact q _ (sm1.trans (sm2.trans sm5))
        · refine ⟨l2, _, 1, .int W, rfl, rfl, sqT up2, rfl, _, rfl, _, rfl, .mk hW hf hs (tell_of fun v H5 sm5 tv => ⟨rfl, ?_⟩)⟩
          rw [ev W v H5 tv]
          exact q _ (sm1.trans (sm2.trans sm5))
      · have c2 : ¬ i = 0 ∧ ¬ i = 1 := by simpa using c
        have e : due4 L W fi se (.short (.int i)) = false := by
          show (if i = 0 then shoB L fi se else if i = 1 then shoB W fi se else false) = false
          rw [if_neg c2.1, if_neg c2.2]
        rw [e] at q
        exact q _ sm1
theorem H_shows4 (G : ClG K mg) (p1 : PlM K .laid "shows" "Laid.shows" s_Laid_shows) (p2 : PlM K .striped "shows" "Striped.shows" s_Striped_shows) (p3 : PlM K .short "shows" "Short.shows" s_Short_shows)
    (h_what_bars : Has P w K mg base CX0 3 "what_bars" ["length", "width", "first", "second"] SpBars) (h_is_striped : Has P w K mg base CX0 1 "is_striped" ["length", "width", "side"] SpStriped)
    (h_parts_of : Has P w K mg base CX0 2 "parts_of" ["size", "first", "second"] SpParts) : ∀ x, Ok4 x → HasM P w K mg base CX0 4 x "shows" ["self", "length", "width", "first", "second"] (SpShows4 K x) := by
  intro x hx
  have e : x = .laid ∨ x = .striped ∨ x = .short := by simpa [Ok4] using hx
  rcases e with rfl | rfl | rfl
  · exact H_Laid_shows p1 h_what_bars
  · exact (H_Striped_shows p2 G h_is_striped).mono (by decide)
  · exact (H_Short_shows p3 G h_parts_of).mono (by decide)
end
end BF

/-! ### the answers' own __init__ -/
namespace BF
open PySem PySem.Spec PyProof.Rows L2
section
variable {P : Program} {w : World} {K : PySem.W.Frag} {mg : Str → Option Value} {base : Heap}
theorem H_Striped___init__ (p : PlM K .striped "__init__" "Striped.__init__" s_Striped___init__) (G : ClG K mg) : HasM P w K mg base CX0 1 .striped "__init__" ["self", "which"] (SpInit K .striped) := by
  refine p.mk0 sc_Striped___init__ (fun _ _ _ _ _ _ us hl => match us, hl with | [_, _], _ => rfl) (fun vs H Q E h => ?_) (fun f cdv A outer s H vs Q E hr h => ?_)
  · cases h; rfl
  · obtain @⟨p, dx, v, _, _, _, hp, q⟩ := h
    have F := G.f .striped (by decide)
    exact ⟨_, (pss_one (ps_fld (pv 0) (pv 1) rfl)), ⟨_, rfl, _, rfl, p, _, dx, [], rfl, hp, F.c, F.no, by decide, q⟩⟩
theorem H_Short___init__ (p : PlM K .short "__init__" "Short.__init__" s_Short___init__) (G : ClG K mg) : HasM P w K mg base CX0 1 .short "__init__" ["self", "which"] (SpInit K .short) := by
  refine p.mk0 sc_Short___init__ (fun _ _ _ _ _ _ us hl => match us, hl with | [_, _], _ => rfl) (fun vs H Q E h => ?_) (fun f cdv A outer s H vs Q E hr h => ?_)
  · cases h; rfl
  · obtain @⟨p, dx, v, _, _, _, hp, q⟩ := h
    have F := G.f .short (by decide)
    exact ⟨_, (pss_one (ps_fld (pv 0) (pv 1) rfl)), ⟨_, rfl, _, rfl, p, _, dx, [], rfl, hp, F.c, F.no, by decide, q⟩⟩
theorem H_Beyond___init__ (p : PlM K .beyond "__init__" "Beyond.__init__" s_Beyond___init__) (G : ClG K mg) : HasM P w K mg base CX0 1 .beyond "__init__" ["self", "count"] (SpInit K .beyond) := by
  refine p.mk0 sc_Beyond___init__ (fun _ _ _ _ _ _ us hl => match us, hl with | [_, _], _ => rfl) (fun vs H Q E h => ?_) (fun f cdv A outer s H vs Q E hr h => ?_)
  · cases h; rfl
  · obtain @⟨p, dx, v, _, _, _, hp, q⟩ := h
    have F := G.f .beyond (by decide)
    exact ⟨_, (pss_one (ps_fld (pv 0) (pv 1) rfl)), ⟨_, rfl, _, rfl, p, _, dx, [], rfl, hp, F.c, F.no, by decide, q⟩⟩
theorem H_Twice___init__ (p : PlM K .twice "__init__" "Twice.__init__" s_Twice___init__) (G : ClG K mg) : HasM P w K mg base CX0 1 .twice "__init__" ["self", "cell"] (SpInit K .twice) := by
  refine p.mk0 sc_Twice___init__ (fun _ _ _ _ _ _ us hl => match us, hl with | [_, _], _ => rfl) (fun vs H Q E h => ?_) (fun f cdv A outer s H vs Q E hr h => ?_)
  · cases h; rfl
  · obtain @⟨p, dx, v, _, _, _, hp, q⟩ := h
    have F := G.f .twice (by decide)
    exact ⟨_, (pss_one (ps_fld (pv 0) (pv 1) rfl)), ⟨_, rfl, _, rfl, p, _, dx, [], rfl, hp, F.c, F.no, by decide, q⟩⟩
theorem H_Bare___init__ (p : PlM K .bare "__init__" "Bare.__init__" s_Bare___init__) (G : ClG K mg) : HasM P w K mg base CX0 1 .bare "__init__" ["self", "cell"] (SpInit K .bare) := by
  refine p.mk0 sc_Bare___init__ (fun _ _ _ _ _ _ us hl => match us, hl with | [_, _], _ => rfl) (fun vs H Q E h => ?_) (fun f cdv A outer s H vs Q E hr h => ?_)
  · cases h; rfl
  · obtain @⟨p, dx, v, _, _, _, hp, q⟩ := h
    have F := G.f .bare (by decide)
    exact ⟨_, (pss_one (ps_fld (pv 0) (pv 1) rfl)), ⟨_, rfl, _, rfl, p, _, dx, [], rfl, hp, F.c, F.no, by decide, q⟩⟩
end
end BF

/-! ### laying.py: told -/
namespace BF
open PySem PySem.Spec PyProof.Rows L2
noncomputable def tellA (L W f s : Int) : Ans := match strL L W f s with
  | i :: _ => .striped (.int i)
  | [] => match shoL L W f s with
    | i :: _ => .short (.int i)
    | [] => .laid
theorem tellA_4 (L W f s : Int) : A4 (tellA L W f s) := by
  unfold tellA
  cases strL L W f s with
  | cons i r => exact .striped i
  | nil =>
    show A4 (match shoL L W f s with | i :: _ => Ans.short (.int i) | [] => .laid)
    cases shoL L W f s with
    | cons i r => exact .short i
    | nil => exact .laid
inductive SpTold (K : PySem.W.Frag) : Sp where
  | mk {L W f s : Int} {H : Hp} {Q : VK} {E : XK} (hL : Sz L) (hW : Sz W) (hf : Sz f) (hs : Sz s) (q : ∀ p H', Same H H' → AnsAt K H' p (tellA L W f s) → Q (.ref p) H') : SpTold K [.int L, .int W, .int f, .int s] H Q E
theorem two_ne (a b : Bool) : (!PyData.eqv (.list ((two a b).map .int)) (.list [])) = !(two a b).isEmpty := by
  cases a <;> cases b <;> rfl
theorem two_sh (a b : Bool) : SeqAt.shaped (.list ((two a b).map .int)) = true := by
  cases a <;> cases b <;> rfl
section
variable {P : Program} {w : World} {K : PySem.W.Frag} {mg : Str → Option Value} {base : Heap}
theorem H_told (p : Pl K mg "told" s_told) (G : ClG K mg) (CI : ClI P w K mg base) (h_check_sizes : Has P w K mg base CX0 2 "check_sizes" ["some"] (SpCheckSizes K))
    (h_what_bars : Has P w K mg base CX0 3 "what_bars" ["length", "width", "first", "second"] SpBars) : Has P w K mg base CX0 4 "told" ["length", "width", "first", "second"] (SpTold K) := by
  refine p.mk0 sc_told (fun _ _ _ _ _ _ us hl => match us, hl with | [_, _, _, _], _ => rfl) (fun vs H Q E h => ?_) (fun f cdv A outer s H vs Q E hr h => ?_)
  · cases h; rfl
  · obtain @⟨L, W, fi, se, _, _, _, hL, hW, hf, hs, q⟩ := h
    refine ⟨_, (pss_cons (ps_expr (pe_fn h_check_sizes (hr.mono (by decide)) pass0 (pa_cons (pe_lst (pa_cons (pv 0) (pa_cons (pv 1) (pa_cons (pv 2) (pa_cons (pv 3) pa_nil))))) pa_nil)))
      (pss_cons (ps_asg (pe_fn h_what_bars (hr.mono (by decide)) pass0 (pa_cons (pv 0) (pa_cons (pv 1) (pa_cons (pv 2) (pa_cons (pv 3) pa_nil))))) (pg_tup (by rfl) (pgs_cons (pg_name (i := 4) sc_told.nd rfl (Or.inl rfl)) (pgs_cons (pg_name (i := 5) sc_told.nd rfl (Or.inl rfl)) pgs_nil))))
      (pss_cons (ps_if (pt_cmpR (op_neD hr.units) (pv 4) (pe_lst pa_nil) (nomark _)) (pss_one (ps_ret (pe_mkI (x := .striped) CI G (by decide) trivial (hr.mono (by decide)) (pa_cons (pe_ix ix_list (pv 4) pe_int (fun _ _ => rfl)) pa_nil)))) pss_nil)
      (pss_one (ps_ret (pe_ifExp (pt_cmpR (op_neD hr.units) (pv 5) (pe_lst pa_nil) (nomark _)) (pe_mkI (x := .short) CI G (by decide) trivial (hr.mono (by decide)) (pa_cons (pe_ix ix_list (pv 5) pe_int (fun _ _ => rfl)) pa_nil)) (pe_mkN (x := .laid) CI G (by decide) (by decide)))))))), ?_⟩
    walk_at "rd"
    intro l1 hl1
    generalize hH1 : upd H l1 _ = H1
    obtain ⟨sm1, up1⟩ : Same H H1 ∧ H1 l1 = some (.lst ([L, W, fi, se].map V.int)) := newH hH1 hl1
    clear hH1
    refine .mk (ns := [L, W, fi, se]) (sqL up1) ?_ ?_
    · intro n hn
      have e : n = L ∨ n = W ∨ n = fi ∨ n = se := by simpa using hn
      rcases e with rfl | rfl | rfl | rfl
      · exact hL.pos
      · exact hW.pos
      · exact hf.pos
      · exact hs.pos
    walk_at "rd"
    refine .mk hL hW hf hs fun t p1 p2 H2 sm2 ht hp1 hp2 => ?_
    refine ⟨t, _, rfl, sqT ht, rfl, ?_⟩
    walk_at "rd"
    intro l3 hl3
    generalize hH3 : upd H2 l3 _ = H3
    obtain ⟨sm3, up3⟩ : Same H2 H3 ∧ H3 l3 = some (.lst []) := newH hH3 hl3
    clear hH3
    replace hp1 := sm3 _ _ hp1
    replace hp2 := sm3 _ _ hp2
    refine ⟨.list ((strL L W fi se).map .int), .list [], .lst (sqL hp1) (dp_ints _), .lst (sqL up3) .nil, two_sh _ _, rfl, _, rfl, ?_⟩
    have smA := sm1.trans (sm2.trans sm3)
    unfold tellA at q
    rw [show (!PyData.eqv (.list ((strL L W fi se).map .int)) (.list [])) = !(strL L W fi se).isEmpty from two_ne _ _]
    cases hst : strL L W fi se with
    | cons i r =>
      rw [hst] at q hp1
      refine iteT ?_
      refine ⟨_, rfl, p1, _, 0, .int i, rfl, rfl, sqL hp1, at0, ?_⟩
      exact ⟨_, rfl, fun p H4 hp sm4 ha => q p H4 (smA.trans sm4) ha⟩
    | nil =>
      rw [hst] at q
      refine iteF ?_
      walk_at "rd"
      intro l4 hl4
      generalize hH4 : upd H3 l4 _ = H4
      obtain ⟨sm4, up4⟩ : Same H3 H4 ∧ H4 l4 = some (.lst []) := newH hH4 hl4
      clear hH4
      replace hp2 := sm4 _ _ hp2
      refine ⟨.list ((shoL L W fi se).map .int), .list [], .lst (sqL hp2) (dp_ints _), .lst (sqL up4) .nil, two_sh _ _, rfl, _, rfl, ?_⟩
      rw [show (!PyData.eqv (.list ((shoL L W fi se).map .int)) (.list [])) = !(shoL L W fi se).isEmpty from two_ne _ _]
      replace smA := smA.trans sm4
      cases hsh : shoL L W fi se with
      | cons i r =>
        rw [hsh] at q hp2
        refine iteT ?_
        refine ⟨_, rfl, p2, _, 0, .int i, rfl, rfl, sqL hp2, at0, ?_⟩
        exact ⟨_, rfl, fun p H5 hp sm5 ha => q p H5 (smA.trans sm5) ha⟩
      | nil =>
        rw [hsh] at q
        refine iteF ?_
        exact fun p H5 hp sm5 ha => q p H5 (smA.trans sm5) ha
end
end BF

namespace BF
open PySem PySem.Spec PyProof.Rows L2
/-- the greatest that goes into both -/
inductive SpCommon : Sp where
  | mk {a b : Int} {H : Hp} {Q : VK} {E : XK} (ha : 0 < a) (hb : 0 < b) (q : ∀ g : Int, 0 < g → (∀ d : Int, d ∣ g ↔ d ∣ a ∧ d ∣ b) → Q (.int g) H) : SpCommon [.int a, .int b] H Q E
inductive SpFew : Sp where
  | mk {s a b : Int} {H : Hp} {Q : VK} {E : XK} (hs : Sz s) (ha : Sz a) (hb : Sz b) (q : ∀ H', Same H H' → Q (.int (fewI (parts s a b))) H') : SpFew [.int s, .int a, .int b] H Q E
section
variable {P : Program} {w : World} {K : PySem.W.Frag} {mg : Str → Option Value} {base : Heap}
structure CmInv (a b one other : Int) : Prop where
  o1 : 0 < one
  o2 : 0 ≤ other
  dv : ∀ d : Int, (d ∣ one ∧ d ∣ other) ↔ (d ∣ a ∧ d ∣ b)
theorem CmInv.turn {a b one other : Int} (h : CmInv a b one other) (ho : 0 < other) : CmInv a b other (one % other) := by
  have hm := Int.emod_add_mul_ediv one other
  refine ⟨ho, Int.emod_nonneg _ (Int.ne_of_gt ho), fun d => ?_⟩
  rw [← h.dv d]
  constructor
  · rintro ⟨a1, a2⟩
    refine ⟨?_, a1⟩
    rw [← hm]
    exact Int.dvd_add a2 (Int.dvd_trans a1 (Int.dvd_mul_right _ _))
  · rintro ⟨a1, a2⟩
    refine ⟨a2, ?_⟩
    have : one % other = one - other * (one / other) := by omega
    rw [this]
    exact Int.dvd_sub a1 (Int.dvd_trans a2 (Int.dvd_mul_right _ _))
theorem H__law_common (p : Pl K mg "_law_common" s__law_common) : Has P w K mg base CX0 1 "_law_common" ["_law_one", "_law_other"] SpCommon := by
  refine p.mk0 sc__law_common (fun _ _ _ _ _ _ us hl => match us, hl with | [_, _], _ => rfl) (fun vs H Q E h => ?_) (fun f cdv A outer s H vs Q E hr h => ?_)
  · cases h; rfl
  · obtain @⟨a, b, _, _, _, ha, hb, q⟩ := h
    refine ⟨_, (pss_cons (ps_while PassesOwn.never (pt_cmpR op_gt (pv 1) pe_int (nomark _)) (pss_one (ps_par (i := 0) (j := 1) (by rfl) sc__law_common.nd rfl rfl (by decide) rfl rfl (pa_cons (pv 1) (pa_cons (pe_op op_mod (pv 0) (pv 1)) pa_nil)) (by rfl))))
      (pss_one (ps_ret (pv 0)))), ?_⟩
    refine while_by (fun σ H' => H' = H ∧ ∃ one other, σ = [some (.int one), some (.int other)] ∧ CmInv a b one other) (fun σ _ => slotN σ 1) ⟨rfl, a, b, rfl, ha, Int.le_of_lt hb, fun d => Iff.rfl⟩ ?_ (fun σ H Q Q' hq h => ?_)
    · rintro σ H' ⟨rfl, one, other, rfl, I⟩
      refine ⟨_, rfl, _, _, rfl, rfl, _, rfl, iteD (fun ho => ?_) (fun ho => ?_)⟩
      · have ho : 0 < other := ho
        refine ⟨_, rfl, _, rfl, _, rfl, _, _, rfl, rfl, ho, _, _, rfl, ⟨rfl, _, _, rfl, I.turn ho⟩, ?_⟩
        have h0 : 0 ≤ one % other := Int.emod_nonneg _ (Int.ne_of_gt ho)
        have h1 : one % other < other := Int.emod_lt_of_pos _ ho
        show (one % other).toNat < other.toNat
        omega
      · have h0 := I.o2
        have ho : ¬ 0 < other := ho
        have e : other = 0 := by omega
        subst e
        refine ⟨_, rfl, q one I.o1 fun d => ?_⟩
        rw [← I.dv d]
        exact ⟨fun z => ⟨z, Int.dvd_zero d⟩, fun z => z.1⟩
    · obtain ⟨v, e, i, j, e1, e2, k, e3, q⟩ := h
      exact ⟨v, e, i, j, e1, e2, k, e3, hq _ _ q⟩
theorem div_pos_of_dvd {g b : Int} (hg : 0 < g) (hb : 0 < b) (d : g ∣ b) : 0 < b / g := by
  obtain ⟨c, ec⟩ := d
  have e2 : b / g = c := by rw [ec]; exact Int.mul_ediv_cancel_left c (Int.ne_of_gt hg)
  rw [e2]
  rcases Int.lt_or_le 0 c with h | h
  · exact h
  · have h3 : g * c ≤ g * 0 := Int.mul_le_mul_of_nonneg_left h (Int.le_of_lt hg)
    omega
theorem H__law_few (p : Pl K mg "_law_few" s__law_few) (h__law_common : Has P w K mg base CX0 1 "_law_common" ["_law_one", "_law_other"] SpCommon) : Has P w K mg base CX0 2 "_law_few" ["_law_size", "_law_first", "_law_second"] SpFew := by
  refine p.mk0 sc__law_few (fun _ _ _ _ _ _ us hl => match us, hl with | [_, _, _], _ => rfl) (fun vs H Q E h => ?_) (fun f cdv A outer s H vs Q E hr h => ?_)
  · cases h; rfl
  · obtain @⟨sz, a, b, _, _, _, hs, ha, hb, q⟩ := h
    refine ⟨_, (pss_cons (ps_set (i := 3) sc__law_few.nd rfl (Or.inl rfl) (pe_fn h__law_common (hr.mono (by decide)) pass0 (pa_cons (pv 1) (pa_cons (pv 2) pa_nil))))
      (pss_cons (ps_if (pt_cmpR op_gt (pe_op op_mod (pv 0) (pv 3)) pe_int (nomark _)) (pss_one (ps_ret (pe_un un_neg pe_int))) pss_nil)
      (pss_cons (ps_par3 (i := 0) (j := 1) (l := 2) (by rfl) sc__law_few.nd rfl rfl rfl (by decide) (by decide) (by decide) rfl rfl rfl (pa_cons (pe_op op_fdivW (pv 0) (pv 3)) (pa_cons (pe_op op_fdivW (pv 1) (pv 3)) (pa_cons (pe_op op_fdivW (pv 2) (pv 3)) pa_nil))) (by rfl))
      (pss_cons (ps_par3 (i := 4) (j := 5) (l := 6) (by rfl) sc__law_few.nd rfl rfl rfl (by decide) (by decide) (by decide) rfl rfl rfl (pa_cons (pe_lst pa_nil) (pa_cons (pv 1) (pa_cons (pv 2) pa_nil))) (by rfl))
      (pss_cons (ps_while PassesOwn.never (pt_cmpR op_gt (pv 6) pe_int (nomark _)) (pss_cons (ps_expr (pe_bm PySem.F.plainAttrs_list PySem.F.slot_list_append PySem.F.type_list_append mt_append (pv 4) (pa_cons (pe_op op_fdivW (pv 5) (pv 6)) pa_nil)))
      (pss_one (ps_par (i := 5) (j := 6) (by rfl) sc__law_few.nd rfl rfl (by decide) rfl rfl (pa_cons (pv 6) (pa_cons (pe_op op_mod (pv 5) (pv 6)) pa_nil)) (by rfl)))))
      (pss_cons (ps_asg (pe_tup (pa_cons pe_int (pa_cons pe_int pa_nil))) (pg_tup (by rfl) (pgs_cons (pg_name (i := 7) sc__law_few.nd rfl (Or.inl rfl)) (pgs_cons (pg_name (i := 8) sc__law_few.nd rfl (Or.inl rfl)) pgs_nil))))
      (pss_cons (ps_for PassesOwn.never (by rfl) (pi_list (pe_revL (pv 4))) (pg_name (i := 9) sc__law_few.nd rfl (Or.inl rfl)) (pss_one (ps_par (i := 7) (j := 8) (by rfl) sc__law_few.nd rfl rfl (by decide) rfl rfl (pa_cons (pv 8) (pa_cons (pe_op op_sub (pv 7) (pe_op op_mulX (pv 9) (pv 8))) pa_nil)) (by rfl))))
      (pss_cons (ps_set (i := 10) sc__law_few.nd rfl (Or.inl rfl) (pe_op op_mod (pe_op op_mulX (pv 0) (pv 7)) (pv 2)))
      (pss_one (ps_ret (pe_ifExp (pt_cmpR op_le (pe_op op_mulX (pv 10) (pv 1)) (pv 0) (nomark _)) (pv 10) (pe_un un_neg pe_int)))))))))))), ?_⟩
    refine ⟨_, rfl, _, rfl, .mk ha.pos hb.pos fun g hg dg => ?_⟩
    obtain ⟨da, db⟩ := (dg g).mp (Int.dvd_refl g)
    have bg : Bn 2000 g := hb.bn.of_le (Int.le_of_lt hg) (Int.le_of_dvd hb.pos db)
    refine ⟨_, rfl, _, rfl, _, _, rfl, rfl, hg, _, _, rfl, rfl, _, rfl, iteD (fun c => ?_) (fun c => ?_)⟩
    · have c : 0 < sz % g := c
      have e := few_none (s := sz) hb.pos dg (by omega)
      rw [e] at q
      exact ⟨_, rfl, q _ (Same.refl H)⟩
    · have c0 : 0 ≤ sz % g := Int.emod_nonneg _ (Int.ne_of_gt hg)
      have c : ¬ 0 < sz % g := c
      have hz : sz % g = 0 := by omega
      have p1 : 0 < sz / g := div_pos_of_dvd hg hs.pos (Int.dvd_of_emod_eq_zero hz)
      have p2 : 0 < a / g := div_pos_of_dvd hg ha.pos da
      have p3 : 0 < b / g := div_pos_of_dvd hg hb.pos db
      have n1 : Bn 2000 (sz / g) := hs.bn.div hg
      have n2 : Bn 2000 (a / g) := ha.bn.div hg
      have n3 : Bn 2000 (b / g) := hb.bn.div hg
      have key : ∀ rows : List Int, Eu (a / g) (b / g) rows → fewI (parts sz a b) = if sz / g * (back rows).1 % (b / g) * (a / g) ≤ sz / g then sz / g * (back rows).1 % (b / g) else -1 := fun rows E => few_back (g2 := 0) hs.pos ha.pos hb.pos hg dg E hz
      refine ⟨_, rfl, _, rfl, _, _, rfl, rfl, bg.divOk hg (by decide) (by decide), _, rfl, _, rfl, _, _, rfl, rfl, bg.divOk hg (by decide) (by decide), _, rfl, _, rfl, _, _, rfl, rfl, bg.divOk hg (by decide) (by decide), _, _, _, rfl, ?_⟩
      -- the rows
      refine ⟨Nat.zero_le _, fun R hR => ⟨_, rfl, _, rfl, _, _, _, rfl, ?_⟩⟩
      refine while_by (fun σ H' => ∃ one other rows, σ = [some (.int (sz / g)), some (.int (a / g)), some (.int (b / g)), some (.int g), some (.ref R), some (.int one), some (.int other), none, none, none, none] ∧ FwInv (a / g) (b / g) rows one other ∧ Same H H' ∧ H' R = some (.lst (rows.map V.int)))
        (fun σ _ => slotN σ 6) ⟨(a / g), (b / g), [], rfl, FwInv.start p2 p3, same_upd hR, upd_same⟩ ?_ (fun σ H Q Q' hq h => ?_)
      · rintro σ H1 ⟨one, other, rows, rfl, I, sm, eR⟩
        have m1 : Bn 2000 one := by
          rcases I.l1 with l | l
          · exact n2.of_le (Int.le_of_lt I.o1) l
          · exact n3.of_le (Int.le_of_lt I.o1) l
        have m2 : Bn 2000 other := n3.of_le I.o2 I.l2
        refine ⟨_, rfl, _, _, rfl, rfl, _, rfl, iteD (fun ho => ?_) (fun ho => ?_)⟩
        · have ho : 0 < other := ho
          have hl := I.few ho n2.lt n3.lt
          refine ⟨_, rfl, .inl ⟨rfl, _, sqL eR⟩, _, rfl, _, rfl, _, _, rfl, rfl, m2.divOk ho (by decide) (by decide), R, _, _, rfl, rfl, eR, ?_, ?_⟩
          · rw [List.length_map]
            exact Nat.lt_of_le_of_lt hl (by decide)
          · refine ⟨_, rfl, _, rfl, _, rfl, _, _, rfl, rfl, ho, _, _, rfl, ⟨_, _, rows ++ [one / other], rfl, I.turn ho, fun b o e => ?_, ?_⟩, ?_⟩
            · rw [upd_ne (ne_of_none e hR)]
              exact sm b o e
            · rw [upd_same, List.map_append]
              rfl
            · have h0 : 0 ≤ one % other := Int.emod_nonneg _ (Int.ne_of_gt ho)
              have h1 : one % other < other := Int.emod_lt_of_pos _ ho
              show (one % other).toNat < other.toNat
              omega
        · have h0 := I.o2
          have ho : ¬ 0 < other := ho
          have e0 : other = 0 := by omega
          subst e0
          have E : Eu (a / g) (b / g) rows := by
            have := I.go [] (.nil I.o1)
            rw [List.append_nil] at this
            exact this
          -- mine, theirs = 1, 0
          refine ⟨by show 2 ≤ sizeLine; decide, fun p0 hp0 => ⟨p0, _, rfl, sqT upd_same, rfl, _, _, rfl, _, _, rfl, rfl, ?_⟩⟩
          have sm1 : Same H1 (upd H1 p0 (.tup [.int 1, .int 0])) := same_upd hp0
          generalize upd H1 p0 (.tup [.int 1, .int 0]) = H2 at sm1 ⊢
          -- the way back
          refine ⟨_, rfl, R, _, rfl, sqL (sm1 _ _ eR), fun V1 hV => ?_⟩
          have sm2 : Same H2 (upd H2 V1 (.lst (rows.map V.int).reverse)) := same_upd hV
          have hVS : (upd H2 V1 (.lst (rows.map V.int).reverse)) V1 = some (.lst (rows.map V.int).reverse) := upd_same
          generalize upd H2 V1 (.lst (rows.map V.int).reverse) = H3 at sm2 hVS ⊢
          refine ⟨V1, rfl, ⟨_, sqL hVS⟩, for_list (K := K) (a := V1) (xs := (rows.map V.int).reverse) (fun i σ H' => H' = H3 ∧ ∃ y, σ = [some (.int (sz / g)), some (.int (a / g)), some (.int (b / g)), some (.int g), some (.ref R), some (.int one), some (.int 0), some (.int (back (rows.drop (rows.length - i))).1), some (.int (back (rows.drop (rows.length - i))).2), y, none])
            ⟨rfl, none, ?_⟩ (fun i σ H' _ ⟨e, _⟩ => by rw [e]; exact sqL hVS) ?_ ?_⟩
          · rw [Nat.sub_zero, List.drop_length]
            rfl
          · rintro i y σ H' hi ⟨rfl, z, rfl⟩
            rw [← List.map_reverse] at hi
            obtain ⟨n, hn, rfl⟩ := ints_at hi
            have il : i < rows.length := by
              have := (List.getElem?_eq_some_iff.mp hn).1
              rw [List.length_reverse] at this
              exact this
            rw [List.getElem?_reverse il] at hn
            have ed : rows.drop (rows.length - (i + 1)) = n :: rows.drop (rows.length - i) := by
              have l2 : rows.length - 1 - i < rows.length := by omega
              obtain ⟨hx, ex⟩ := List.getElem?_eq_some_iff.mp hn
              rw [show rows.length - (i + 1) = rows.length - 1 - i by omega, List.drop_eq_getElem_cons hx, ex, show rows.length - 1 - i + 1 = rows.length - i by omega]
            obtain ⟨x, yy, E1, lx, ly⟩ := E.drop (B := (a / g) + (b / g)) (by omega) (by omega) (rows.length - (i + 1)) (by omega)
            rw [ed] at E1
            have nab : Bn 4001 ((a / g) + (b / g)) := (n2.add n3).mono (by decide)
            cases E1 with
            | cons h1 h2 E2 =>
              have bnq : Bn 4001 (x / yy) := (nab.of_le (Int.le_of_lt h1) lx).div h2
              have bnt : Bn 4001 (back (rows.drop (rows.length - i))).2 := by
                obtain ⟨_, _, _, _, bd⟩ := E2.back
                by_cases hr : rows.drop (rows.length - i) = []
                · rw [hr]
                  exact bn0
                · exact (nab.of_le (Int.le_of_lt h2) ly).le (bd hr).2
              refine ⟨_, rfl, _, rfl, _, rfl, _, rfl, _, _, rfl, rfl, bnq.mulOk bnt (by decide), _, _, rfl, rfl, _, _, rfl, ?_⟩
              refine ⟨rfl, some (.int (x / yy)), ?_⟩
              rw [ed]
              rfl
          · rintro σ H' ⟨rfl, y, rfl⟩
            rw [List.length_reverse, List.length_map, Nat.sub_self, List.drop_zero]
            have bm : Bn 4001 (back rows).1 := by
              obtain ⟨_, _, _, _, bd⟩ := E.back
              by_cases hr : rows = []
              · rw [hr]
                exact (bnl (n := 1) (by decide)).mono (by decide)
              · exact (n3.le (bd hr).1).mono (by decide)
            have bf : Bn 2000 ((sz / g) * (back rows).1 % (b / g)) := n3.mod p3
            refine ⟨_, rfl, _, rfl, _, _, rfl, rfl, n1.mulOk bm (by decide), _, rfl, _, _, rfl, rfl, p3, ?_⟩
            refine ⟨_, rfl, _, rfl, _, _, rfl, rfl, bf.mulOk n2 (by decide), _, rfl, _, _, rfl, rfl, _, rfl, iteD (fun c => ?_) (fun c => ?_)⟩
            · have e := key rows E
              rw [if_pos c] at e
              rw [e] at q
              exact ⟨_, rfl, q _ (sm.trans (sm1.trans sm2))⟩
            · have e := key rows E
              rw [if_neg c] at e
              rw [e] at q
              exact ⟨_, rfl, q _ (sm.trans (sm1.trans sm2))⟩
      · obtain ⟨v, e, i, j, e1, e2, k, e3, q⟩ := h
        exact ⟨v, e, i, j, e1, e2, k, e3, hq _ _ q⟩
end
end BF

/-! ### the laws' own word of what bars -/
namespace BF
open PySem PySem.Spec PyProof.Rows L2
inductive SpLBars (K : PySem.W.Frag) : Sp where
  | mk {t : Addr} {L W f s k : Int} {H : Hp} {Q : VK} {E : XK} (ht : SqT K H t [.int L, .int W, .int f, .int s]) (hL : Sz L) (hW : Sz W) (hf : Sz f) (hs : Sz s) (q : ∀ H', Same H H' → Q (.bl (barB L W f s k)) H') : SpLBars K [.ref t, .int k] H Q E
theorem str_pos {L W d : Int} (hd : 0 < d) : strB L W d = (decide (0 < L % d) && decide (0 < W % d)) := by
  have h1 := Int.emod_nonneg L (Int.ne_of_gt hd)
  have h2 := Int.emod_nonneg W (Int.ne_of_gt hd)
  unfold strB
  have e1 : (!decide (L % d = 0)) = decide (0 < L % d) := by
    by_cases c : L % d = 0
    · rw [decide_eq_true c, decide_eq_false (by omega)]; rfl
    · rw [decide_eq_false c, decide_eq_true (by omega)]; rfl
  have e2 : (!decide (W % d = 0)) = decide (0 < W % d) := by
    by_cases c : W % d = 0
    · rw [decide_eq_true c, decide_eq_false (by omega)]; rfl
    · rw [decide_eq_false c, decide_eq_true (by omega)]; rfl
  rw [e1, e2]
theorem sho_neg {x f s : Int} (hf : 0 < f) (hs : 0 < s) : decide (fewI (parts x f s) < 0) = shoB x f s := by
  have n := few_neg (s := x) hf hs
  unfold shoB
  cases h : parts x f s with
  | none => rw [h] at n; exact decide_eq_true (n.mpr rfl)
  | some y =>
    rw [h] at n
    exact decide_eq_false fun z => nomatch n.mp z
section
variable {P : Program} {w : World} {K : PySem.W.Frag} {mg : Str → Option Value} {base : Heap}
theorem H__law_bars (p : Pl K mg "_law_bars" s__law_bars) (h__law_few : Has P w K mg base CX0 2 "_law_few" ["_law_size", "_law_first", "_law_second"] SpFew) :
    Has P w K mg base CX0 3 "_law_bars" ["_law_four_here", "_law_which"] (SpLBars K) := by
  refine p.mk0 sc__law_bars (fun _ _ _ _ _ _ us hl => match us, hl with | [_, _], _ => rfl) (fun vs H Q E h => ?_) (fun f cdv A outer s H vs Q E hr h => ?_)
  · cases h; rfl
  · obtain @⟨t, L, W, fi, se, k, _, _, _, ht, hL, hW, hf, hs, q⟩ := h
    refine ⟨_, (pss_cons (ps_asg (pv 0) (pg_tup (by rfl) (pgs_cons (pg_name (i := 2) sc__law_bars.nd rfl (Or.inl rfl)) (pgs_cons (pg_name (i := 3) sc__law_bars.nd rfl (Or.inl rfl)) (pgs_cons (pg_name (i := 4) sc__law_bars.nd rfl (Or.inl rfl)) (pgs_cons (pg_name (i := 5) sc__law_bars.nd rfl (Or.inl rfl)) pgs_nil))))))
      (pss_cons (ps_if (pt_cmpR op_lt (pv 1) pe_int (nomark _)) (pss_cons (ps_set (i := 6) sc__law_bars.nd rfl (Or.inl rfl) (pe_ifExp (pt_cmpR op_eq (pv 1) pe_int (nomark _)) (pv 4) (pv 5)))
      (pss_one (ps_ret (pe_and (pe_cmpR op_gt (pe_op op_mod (pv 2) (pv 6)) pe_int (nomark _)) (pe_one (pe_cmpR op_gt (pe_op op_mod (pv 3) (pv 6)) pe_int (nomark _))))))) pss_nil)
      (pss_one (ps_ret (pe_cmpR op_lt (pe_fn h__law_few (hr.mono (by decide)) pass0 (pa_cons (pe_ifExp (pt_cmpR op_eq (pv 1) pe_int (nomark _)) (pv 2) (pv 3)) (pa_cons (pv 4) (pa_cons (pv 5) pa_nil)))) pe_int (nomark _)))))), ?_⟩
    unfold barB at q
    refine ⟨_, rfl, t, _, rfl, ht, rfl, ?_⟩
    walk_at "rd"
    refine iteD (fun c => ?_) (fun c => ?_)
    · have c : k < 2 := c
      rw [if_pos c] at q
      have side : ∀ d : Int, 0 < d → (∀ H', Same H H' → Q (.bl (strB L W d)) H') → Q (.bl (decide (0 < L % d) && decide (0 < W % d))) H := fun d hd q => by
        rw [← str_pos hd]
        exact q _ (Same.refl _)
      walk_at "rd"
      refine iteEq (fun d => ?_) (fun d => ?_)
      · rw [if_pos d] at q
        have z := side fi hf.pos q
        have p0 := hf.pos
        walk_at "rd"
        refine iteD (fun e => ?_) (fun e => ?_)
        · have e : 0 < L % fi := e
          rw [decide_eq_true e] at z
          walk_at "rd"
          exact z
        · have e : ¬ 0 < L % fi := e
          rw [decide_eq_false e] at z
          exact z
      · rw [if_neg d] at q
        have z := side se hs.pos q
        have p0 := hs.pos
        walk_at "rd"
        refine iteD (fun e => ?_) (fun e => ?_)
        · have e : 0 < L % se := e
          rw [decide_eq_true e] at z
          walk_at "rd"
          exact z
        · have e : ¬ 0 < L % se := e
          rw [decide_eq_false e] at z
          exact z
    · have c : ¬ k < 2 := c
      rw [if_neg c] at q
      walk_at "rd"
      refine iteEq (fun d => ?_) (fun d => ?_)
      · rw [if_pos d] at q
        walk_at "rd"
        refine .mk hL hf hs fun H1 sm1 => ?_
        walk_at "rd"
        show Q (.bl (decide (fewI (parts L fi se) < 0))) H1
        rw [show decide (fewI (parts L fi se) < 0) = shoB L fi se from sho_neg hf.pos hs.pos]
        exact q _ sm1
      · rw [if_neg d] at q
        walk_at "rd"
        refine .mk hW hf hs fun H1 sm1 => ?_
        walk_at "rd"
        show Q (.bl (decide (fewI (parts W fi se) < 0))) H1
        rw [show decide (fewI (parts W fi se) < 0) = shoB W fi se from sho_neg hf.pos hs.pos]
        exact q _ sm1
end
end BF

/-! ### a drawn floor and brick -/
namespace BF
open PySem PySem.Spec PyProof.Rows L2
/-- a drawn size -/
structure Sd (x : Int) : Prop where
  pos : 0 < x
  lt : x < 10 ^ 60
theorem Sd.sz {x : Int} (h : Sd x) : Sz x := sz_of_lt h.pos h.lt
theorem Sd.bn {x : Int} (h : Sd x) : Bn 200 x := bn_of_lt (Int.le_of_lt h.pos) h.lt
inductive SpFour (K : PySem.W.Frag) : Sp where
  | mk {a : Addr} {ns : List Int} {at_ most : Int} {H : Hp} {Q : VK} {E : XK} (hb : ∀ z ∈ ns, Builtin.Int.intBits z ≤ 1048576) (hl : ns.length ≤ 63) (hS : SqL K H a (ns.map V.int)) (h0 : 0 ≤ at_) (h1 : at_ < ns.length) (m1 : 0 < most) (m2 : most ≤ 10 ^ 20)
      (q : ∀ L W f s p H', Sd L → Sd W → Sd f → Sd s → Same H H' → H' p = some (.tup [.int L, .int W, .int f, .int s]) → Q (.ref p) H') : SpFour K [.ref a, .int at_, .int most] H Q E
/-- what is between -/
structure Md (b x : Int) : Prop where
  lo : -b ≤ x
  hi : x ≤ b
theorem Md.wide {x : Int} (h : Md (10 ^ 50) x) : Md (10 ^ 51) x := ⟨by have := h.lo; omega, by have := h.hi; omega⟩
theorem mul_in {x y A B : Int} (hx : 0 ≤ x) (ha : x ≤ A) (hy : 0 ≤ y) (hb : y ≤ B) : 0 ≤ x * y ∧ x * y ≤ A * B :=
  ⟨Int.mul_nonneg hx hy, Int.le_trans (Int.mul_le_mul_of_nonneg_left hb hx) (Int.mul_le_mul_of_nonneg_right ha (Int.le_trans hy hb))⟩
inductive FourI (b : Int) (a : Addr) (at_ most wh num oth : Int) (H : Hp) : L2.St → Hp → Prop where
  | mk {H' : Hp} {f s fe mo le ki L W : Int} (sm : Same H H') (hf : 0 < f ∧ f ≤ 10 ^ 20) (hs : 0 < s ∧ s ≤ 10 ^ 20) (hfe : 0 < fe ∧ fe ≤ 5) (hmo : 0 ≤ mo ∧ mo ≤ 3) (hle : 0 < le ∧ le ≤ 3) (hL : Md b L) (hW : Md b W) :
    FourI b a at_ most wh num oth H [some (.ref a), some (.int at_), some (.int most), some (.int wh), some (.int num), some (.int oth), some (.int f), some (.int s), some (.int fe), some (.int mo), some (.int le), some (.int ki), some (.int L), some (.int W)] H'
section
variable {P : Program} {w : World} {K : PySem.W.Frag} {mg : Str → Option Value} {base : Heap}
theorem H__law_four (p : Pl K mg "_law_four" s__law_four) (B : Bi mg) (h__law_number : Has P w K mg base CX0 1 "_law_number" ["_law_cell", "_law_at", "_law_whole_here"] SpNumber) :
    Has P w K mg base CX0 2 "_law_four" ["_law_script", "_law_at", "_law_most"] (SpFour K) := by
  refine p.mk0 sc__law_four (fun _ _ _ _ _ _ us hl => match us, hl with | [_, _, _], _ => rfl) (fun vs H Q E h => ?_) (fun f cdv A outer s H vs Q E hr h => ?_)
  · cases h; rfl
  · obtain @⟨a, ns, at_, most, _, _, _, hbits, hl, hS, h0, h1, m1, m2, q⟩ := h
    refine ⟨_, (pss_cons (ps_set (i := 3) sc__law_four.nd rfl (Or.inl rfl) (pe_callB (cr_sum rfl) (by rfl) B.sum (by decide +kernel) (pa_cons (pe_slice sl_list (pv 0) po_none (po_some pe_int)) pa_nil)))
      (pss_cons (ps_set (i := 4) sc__law_four.nd rfl (Or.inl rfl) (pe_fn h__law_number (hr.mono (by decide)) pass0 (pa_cons (pe_ix ix_list (pv 0) (pv 1) (fun _ _ => rfl)) (pa_cons (pv 1) (pa_cons (pv 3) pa_nil)))))
      (pss_cons (ps_set (i := 5) sc__law_four.nd rfl (Or.inl rfl) (pe_fn h__law_number (hr.mono (by decide)) pass0 (pa_cons (pe_ix ix_list (pv 0) (pe_op op_sub (pv 1) pe_int) (fun _ _ => rfl)) (pa_cons (pe_op op_add (pv 1) pe_int) (pa_cons (pv 3) pa_nil)))))
      (pss_cons (ps_par (i := 6) (j := 7) (by rfl) sc__law_four.nd rfl rfl (by decide) rfl rfl (pa_cons (pe_op op_add pe_int (pe_op op_mod (pe_op op_fdivW (pv 4) pe_int) (pv 2))) (pa_cons (pe_op op_add pe_int (pe_op op_mod (pe_op op_fdivW (pe_op op_fdivW (pv 4) pe_int) (pv 2)) (pv 2))) pa_nil)) (by rfl))
      (pss_cons (ps_par3 (i := 8) (j := 9) (l := 10) (by rfl) sc__law_four.nd rfl rfl rfl (by decide) (by decide) (by decide) rfl rfl rfl (pa_cons (pe_op op_add pe_int (pe_op op_mod (pv 5) pe_int)) (pa_cons (pe_op op_mod (pe_op op_fdivW (pv 5) pe_int) pe_int) (pa_cons (pe_op op_add pe_int (pe_op op_mod (pe_op op_fdivW (pv 5) pe_int) pe_int)) pa_nil))) (by rfl))
      (pss_cons (ps_set (i := 11) sc__law_four.nd rfl (Or.inl rfl) (pe_op op_mod (pe_op op_add (pv 4) (pe_op op_fdivW (pv 5) pe_int)) pe_int))
      (pss_cons (ps_par (i := 12) (j := 13) (by rfl) sc__law_four.nd rfl rfl (by decide) rfl rfl (pa_cons (pe_op op_mulX (pv 6) (pv 8)) (pa_cons (pe_op op_mulX (pv 7) (pv 10)) pa_nil)) (by rfl))
      (Evl.pss_cut (ps_if (pt_cmpR op_in_seq (pv 11) (pe_lst (pa_cons pe_int (pa_cons pe_int (pa_cons pe_int pa_nil)))) (by rfl)) (pss_cons (ps_set (i := 12) sc__law_four.nd rfl (Or.inl rfl) (pe_op op_mulX (pe_op op_mulX (pv 6) (pv 7)) (pv 10)))
      (pss_one (ps_set (i := 13) sc__law_four.nd rfl (Or.inl rfl) (pe_op op_add (pe_op op_mulX (pv 6) (pv 8)) (pe_op op_mulX (pv 7) (pv 9)))))) pss_nil)
      (Evl.pss_cut (ps_if (pt_cmpR op_eq (pv 11) pe_int (nomark _)) (pss_one (ps_set (i := 13) sc__law_four.nd rfl (Or.inl rfl) (pe_op op_sub (pe_op op_add (pv 13) pe_int) (pe_op op_mod (pe_op op_fdivW (pv 5) pe_int) pe_int)))) pss_nil)
      (Evl.pss_cut (ps_if (pt_cmpR op_eq (pv 11) pe_int (nomark _)) (pss_one (ps_par (i := 12) (j := 13) (by rfl) sc__law_four.nd rfl rfl (by decide) rfl rfl (pa_cons (pe_op op_add pe_int (pe_op op_mod (pe_op op_fdivW (pv 4) pe_int) (pe_op op_mulX pe_int (pv 2)))) (pa_cons (pe_op op_add pe_int (pe_op op_mod (pe_op op_fdivW (pv 5) pe_int) (pe_op op_mulX pe_int (pv 2)))) pa_nil)) (by rfl))) pss_nil)
      (Evl.pss_cut (ps_if (pt_cmpR op_eq (pv 11) pe_int (nomark _)) (pss_one (ps_par (i := 12) (j := 13) (by rfl) sc__law_four.nd rfl rfl (by decide) rfl rfl (pa_cons (pe_op op_mulX (pv 6) (pv 8)) (pa_cons (pe_op op_add (pe_op op_mulX (pv 6) (pv 10)) (pv 9)) pa_nil)) (by rfl))) pss_nil)
      (Evl.pss_cut (ps_if (pt_cmpR op_eq (pe_op op_mod (pe_op op_add (pe_op op_fdivW (pv 4) pe_int) (pv 1)) pe_int) pe_int (nomark _)) (pss_one (ps_par (i := 12) (j := 13) (by rfl) sc__law_four.nd rfl rfl (by decide) rfl rfl (pa_cons (pv 13) (pa_cons (pv 12) pa_nil)) (by rfl))) pss_nil)
      (pss_one (ps_ret (pe_tup (pa_cons (pe_callB (call_max2 rfl) (by rfl) B.max (by decide +kernel) (pa_cons pe_int (pa_cons (pv 12) pa_nil))) (pa_cons (pe_callB (call_max2 rfl) (by rfl) B.max (by decide +kernel) (pa_cons pe_int (pa_cons (pv 13) pa_nil))) (pa_cons (pv 6) (pa_cons (pv 7) pa_nil))))))))))))))))))), ?_⟩
    have bmo : Bn 200 most := bn_of_lt (by omega) (by omega)
    obtain ⟨ms, ems⟩ := cut_ints ns none (some 63)
    refine ⟨_, rfl, 63, rfl, a, _, rfl, hS, fun p1 hp1 => ⟨p1, ms, rfl, sqL (by rw [← ems]; exact upd_same), ?_⟩⟩
    have sm1 : Same H (upd H p1 (.lst (cutV (ns.map V.int) none (some 63)))) := same_upd hp1
    generalize upd H p1 (.lst (cutV (ns.map V.int) none (some 63))) = H1 at sm1 ⊢
    generalize hwh : ms.sum = wh
    obtain ⟨c1, hc1, ec1⟩ := at_cell (ns := ns) (k := at_) (by omega) (by omega)
    refine ⟨_, rfl, _, rfl, a, _, _, _, rfl, rfl, sm1.seq hS, ec1, _, rfl, _, rfl, .mk (bn_bits (hbits _ hc1)) (bnl (n := 10) (by omega)) fun num => ?_⟩
    obtain ⟨c2, hc2, ec2⟩ := at_cell (ns := ns) (k := at_ - 1) (by omega) (by omega)
    refine ⟨_, rfl, _, rfl, _, _, rfl, rfl, a, _, _, _, rfl, rfl, sm1.seq hS, ec2, _, rfl, _, _, rfl, rfl, _, rfl, .mk (bn_bits (hbits _ hc2)) (bnl (n := 10) (by omega)) fun oth => ?_⟩
    have n1 : 0 ≤ num / 7 % most ∧ num / 7 % most < most := ⟨Int.emod_nonneg _ (by omega), Int.emod_lt_of_pos _ m1⟩
    have n2 : 0 ≤ num / 7 / most % most ∧ num / 7 / most % most < most := ⟨Int.emod_nonneg _ (by omega), Int.emod_lt_of_pos _ m1⟩
    walk_at "rd"
    refine enter (FourI (10 ^ 50) a at_ most wh num oth H) ?_ ?_
    · refine .mk sm1 ⟨by omega, by omega⟩ ⟨by omega, by omega⟩ ⟨by omega, by omega⟩ ⟨by omega, by omega⟩ ⟨by omega, by omega⟩ ?_ ?_
      · have := mul_in (A := 10 ^ 20) (B := 5) (x := 1 + num / 7 % most) (y := 1 + oth % 5) (by omega) (by omega) (by omega) (by omega)
        exact ⟨by omega, by omega⟩
      · have := mul_in (A := 10 ^ 20) (B := 3) (x := 1 + num / 7 / most % most) (y := 1 + oth / 20 % 3) (by omega) (by omega) (by omega) (by omega)
        exact ⟨by omega, by omega⟩
    rintro _ _ @⟨H2, f, s, fe, mo, le, ki, L, W, sm2, hf, hs, hfe, hmo, hle, hL, hW⟩
    have bf : Bn 200 f := bn_of_lt (by omega) (by omega)
    have bs : Bn 200 s := bn_of_lt (by omega) (by omega)
    have bfe : Bn 200 fe := bn_of_lt (by omega) (by omega)
    have bmo' : Bn 200 mo := bn_of_lt (by omega) (by omega)
    have ble : Bn 200 le := bn_of_lt (by omega) (by omega)
    -- sides that go in, sums
    refine ⟨FourI (10 ^ 50) a at_ most wh num oth H, ?_, ?_⟩
    · walk_at "rd"
      refine fun pl hpl => ⟨pl, _, rfl, .inl (sqL upd_same), rfl, rfl, _, rfl, iteB (fun c => ?_) (fun c => ?_)⟩
      · walk_at "rd"
        have k1 := mul_in (A := 10 ^ 20) (B := 10 ^ 20) (x := f) (y := s) (by omega) (by omega) (by omega) (by omega)
        have k2 := mul_in (A := 10 ^ 40) (B := 3) (x := f * s) (y := le) (by omega) (by omega) (by omega) (by omega)
        have k3 := mul_in (A := 10 ^ 20) (B := 5) (x := f) (y := fe) (by omega) (by omega) (by omega) (by omega)
        have k4 := mul_in (A := 10 ^ 20) (B := 3) (x := s) (y := mo) (by omega) (by omega) (by omega) (by omega)
        exact .mk (sm2.trans (same_upd hpl)) hf hs hfe hmo hle ⟨by omega, by omega⟩ ⟨by omega, by omega⟩
      · exact .mk (sm2.trans (same_upd hpl)) hf hs hfe hmo hle hL hW
    · clear sm2 hf hs hfe hmo hle hL hW bf bs bfe bmo' ble
      rintro _ _ @⟨H2, f, s, fe, mo, le, ki, L, W, sm2, hf, hs, hfe, hmo, hle, hL, hW⟩
      refine ⟨FourI (10 ^ 51) a at_ most wh num oth H, ?_, ?_⟩
      · walk_at "rd"
        refine iteEq (fun c => ?_) (fun c => ?_)
        · walk_at "rd"
          exact .mk sm2 hf hs hfe hmo hle hL.wide ⟨by have := hW.lo; omega, by have := hW.hi; omega⟩
        · exact .mk sm2 hf hs hfe hmo hle hL.wide hW.wide
      · clear sm2 hf hs hfe hmo hle hL hW
        rintro _ _ @⟨H2, f, s, fe, mo, le, ki, L, W, sm2, hf, hs, hfe, hmo, hle, hL, hW⟩
        refine ⟨FourI (10 ^ 51) a at_ most wh num oth H, ?_, ?_⟩
        · walk_at "rd"
          refine iteEq (fun c => ?_) (fun c => ?_)
          · have q1 : 0 ≤ num / 11 % (3 * most) ∧ num / 11 % (3 * most) < 3 * most := ⟨Int.emod_nonneg _ (by omega), Int.emod_lt_of_pos _ (by omega)⟩
            have q2 : 0 ≤ oth / 3 % (3 * most) ∧ oth / 3 % (3 * most) < 3 * most := ⟨Int.emod_nonneg _ (by omega), Int.emod_lt_of_pos _ (by omega)⟩
            walk_at "rd"
            exact .mk sm2 hf hs hfe hmo hle ⟨by omega, by omega⟩ ⟨by omega, by omega⟩
          · exact .mk sm2 hf hs hfe hmo hle hL hW
        · clear sm2 hf hs hfe hmo hle hL hW
          rintro _ _ @⟨H2, f, s, fe, mo, le, ki, L, W, sm2, hf, hs, hfe, hmo, hle, hL, hW⟩
          have bf : Bn 200 f := bn_of_lt (by omega) (by omega)
          have bfe : Bn 200 fe := bn_of_lt (by omega) (by omega)
          have ble : Bn 200 le := bn_of_lt (by omega) (by omega)
          refine ⟨FourI (10 ^ 51) a at_ most wh num oth H, ?_, ?_⟩
          · walk_at "rd"
            refine iteEq (fun c => ?_) (fun c => ?_)
            · have k3 := mul_in (A := 10 ^ 20) (B := 5) (x := f) (y := fe) (by omega) (by omega) (by omega) (by omega)
              have k4 := mul_in (A := 10 ^ 20) (B := 3) (x := f) (y := le) (by omega) (by omega) (by omega) (by omega)
              walk_at "rd"
              exact .mk sm2 hf hs hfe hmo hle ⟨by omega, by omega⟩ ⟨by omega, by omega⟩
            · exact .mk sm2 hf hs hfe hmo hle hL hW
          · clear sm2 hf hs hfe hmo hle hL hW bf bfe ble
            rintro _ _ @⟨H2, f, s, fe, mo, le, ki, L, W, sm2, hf, hs, hfe, hmo, hle, hL, hW⟩
            refine ⟨FourI (10 ^ 51) a at_ most wh num oth H, ?_, ?_⟩
            · walk_at "rd"
              refine iteEq (fun c => ?_) (fun c => ?_)
              · walk_at "rd"
                exact .mk sm2 hf hs hfe hmo hle hW hL
              · exact .mk sm2 hf hs hfe hmo hle hL hW
            · clear sm2 hf hs hfe hmo hle hL hW
              rintro _ _ @⟨H2, f, s, fe, mo, le, ki, L, W, sm2, hf, hs, hfe, hmo, hle, hL, hW⟩
              walk_at "rd"
              have mx : ∀ x : Int, Md (10 ^ 51) x → Sd (if x > 1 then x else 1) := fun x hx => by
                have := hx.hi
                split
                · exact ⟨by omega, by omega⟩
                · exact ⟨by omega, by omega⟩
              exact fun p hp => q _ _ _ _ p _ (mx L hL) (mx W hW) ⟨by omega, by omega⟩ ⟨by omega, by omega⟩ (sm2.trans (same_upd hp)) upd_same
end
end BF

/-! ### the law k01 -/
namespace BF
open PySem PySem.Spec PyProof.Rows L2
inductive SpDue (K : PySem.W.Frag) : Sp where
  | mk {t p : Addr} {a : Ans} {L W f s : Int} {H : Hp} {Q : VK} {E : XK} (ht : SqT K H t [.int L, .int W, .int f, .int s]) (ha : AnsAt K H p a) (h4 : A4 a) (hL : Sz L) (hW : Sz W) (hf : Sz f) (hs : Sz s) (q : ∀ H', Same H H' → Q (.bl (due4 L W f s a)) H') : SpDue K [.ref t, .ref p] H Q E
noncomputable def barsL (L W f s : Int) (n : Nat) : List Bool := (List.range n).map fun k : Nat => barB L W f s (k : Int)
theorem bars_succ (L W f s : Int) (n : Nat) : barsL L W f s (n + 1) = barsL L W f s n ++ [barB L W f s (n : Int)] := by
  unfold barsL
  rw [List.range_succ, List.map_append]
  rfl
theorem bars_len (L W f s : Int) (n : Nat) : (barsL L W f s n).length = n := by
  unfold barsL
  rw [List.length_map, List.length_range]
theorem two_em (a b : Bool) : (two a b).isEmpty = (!a && !b) := by cases a <;> cases b <;> rfl
theorem bars_due (L W f s : Int) : (!(barsL L W f s 4).any id) = due4 L W f s .laid := by
  show (!(barB L W f s 0 || (barB L W f s 1 || (barB L W f s 2 || (barB L W f s 3 || false))))) = ((two (strB L W f) (strB L W s)).isEmpty && (two (shoB L f s) (shoB W f s)).isEmpty)
  rw [two_em, two_em]
  show (!(strB L W f || (strB L W s || (shoB L f s || (shoB W f s || false))))) = _
  cases strB L W f <;> cases strB L W s <;> cases shoB L f s <;> cases shoB W f s <;> rfl
theorem told_due (L W f s : Int) : due4 L W f s (tellA L W f s) = true := by
  unfold tellA strL shoL
  cases h1 : strB L W f <;> cases h2 : strB L W s <;> cases h3 : shoB L f s <;> cases h4 : shoB W f s <;> simp [two, due4, h1, h2, h3, h4, strL, shoL]
theorem told_laid (L W f s : Int) : decide ((tellA L W f s).cl = .laid) = !(barsL L W f s 4).any id := by
  rw [bars_due]
  unfold tellA due4 strL shoL
  cases h1 : strB L W f <;> cases h2 : strB L W s <;> cases h3 : shoB L f s <;> cases h4 : shoB W f s <;> simp [two, Ans.cl]
section
variable {P : Program} {w : World} {K : PySem.W.Frag} {mg : Str → Option Value} {base : Heap}
theorem H__law_due (p : Pl K mg "_law_due" s__law_due) (B : Bi mg) (G : ClG K mg) (h__law_bars : Has P w K mg base CX0 3 "_law_bars" ["_law_four_here", "_law_which"] (SpLBars K)) :
    Has P w K mg base CX0 4 "_law_due" ["_law_four_here", "_law_found"] (SpDue K) := by
  refine p.mk0 sc__law_due (fun _ _ _ _ _ _ us hl => match us, hl with | [_, _], _ => rfl) (fun vs H Q E h => ?_) (fun f cdv A outer s H vs Q E hr h => ?_)
  · cases h; rfl
  · obtain @⟨t, p, a, L, W, fi, se, _, _, _, ht, ha, h4, hL, hW, hf, hs, q⟩ := h
    refine ⟨_, (pss_cons (ps_if (pt_val (pe_callB call_isi (by rfl) B.isinstance (by decide +kernel) (pa_cons (pv 1) (pa_cons (pe_glob (v := .ref (cl _ .laid)) (by rfl) (G.g .laid (by decide)) rfl) pa_nil)))) (pss_one (ps_ret (pe_not (pe_callB (cr_any rfl) (by rfl) B.any (by decide +kernel) (pa_cons (pe_lc (own := [("_law_which", 2)]) (by rfl) sc__law_due.nd (pi_range1 (by rfl) B.range (pa_cons pe_int pa_nil)) (blkOk_by (own := [("_law_which", 2)]) (N := ["_law_four_here", "_law_found", "_law_which"]) (sc := defScope s__law_due) (by decide +kernel)) (fun _ _ _ _ _ => (pg_name (i := 2) sc__law_due.nd rfl (Or.inl rfl))) (fun _ _ _ _ _ => pts_nil) (fun _ _ _ _ _ => (pe_fn h__law_bars (hr.mono (by decide)) pass0 (pa_cons (pv 0) (pa_cons (pv 2) pa_nil))))) pa_nil))))) pss_nil)
      (pss_cons (ps_if (pt_cmpR op_notIn_seq (pe_fld (pv 1) rfl) (pe_lst (pa_cons pe_int (pa_cons pe_int pa_nil))) (by rfl)) (pss_one (ps_ret pe_bl)) pss_nil)
      (pss_one (ps_ret (pe_fn h__law_bars (hr.mono (by decide)) pass0 (pa_cons (pv 0) (pa_cons (pe_op op_add (pe_fld (pv 1) rfl) (pe_ifExp (pt_val (pe_callB call_isi (by rfl) B.isinstance (by decide +kernel) (pa_cons (pv 1) (pa_cons (pe_glob (v := .ref (cl _ .striped)) (by rfl) (G.g .striped (by decide)) rfl) pa_nil)))) pe_int pe_int)) pa_nil))))))), ?_⟩
    cases h4 with
    | laid =>
      refine ⟨_, rfl, _, _, _, _, _, rfl, .own _, tyA G ha, kitA G .laid .laid, _, rfl, iteT ?_⟩
      walk_at "rd"
      intro D hD
      refine lc_range (lo := 0) (n := 4) (fun i H' => Same H H' ∧ H' D = some (.lst ((barsL L W fi se i).map V.bl))) ⟨same_upd hD, upd_same⟩ ?_ ?_
      · rintro i H' hi ⟨sm, eD⟩
        have e0 : (0 : Int) + (i : Int) = i := by omega
        refine ⟨rfl, lc_yes ?_⟩
        walk_at "rd"
        refine .mk (Same.tup sm ht) hL hW hf hs fun H3 sm3 => ⟨_, sm3 _ _ eD, ?_, ?_, ?_⟩
        · rw [List.length_map, bars_len]
          exact Nat.lt_of_lt_of_le hi (size4 (by omega))
        · exact fun b1 o e => by rw [upd_ne (ne_of_none e hD)]; exact sm3 _ _ (sm b1 o e)
        · rw [upd_same, bars_succ, List.map_append, e0]
          rfl
      · rintro H' ⟨sm, eD⟩
        refine ⟨D, _, rfl, sqL eD, _, rfl, ?_⟩
        rw [bars_due]
        exact q _ sm
    | striped i =>
      refine ⟨_, rfl, _, _, _, _, _, rfl, .own _, tyA G ha, kitA G (.striped _) .laid, _, rfl, iteF ?_⟩
      have F := G.f .striped (by decide)
      obtain ⟨dx, hp⟩ := id ha
      refine ⟨_, rfl, p, _, dx, _, _, rfl, hp, F.c, F.no, rfl, ?_⟩
      walk_at "rd"
      intro l1 hl1
      generalize hH1 : upd H l1 _ = H1
      obtain ⟨sm1, up1⟩ : Same H H1 ∧ H1 l1 = some (.lst [.int 0, .int 1]) := newH hH1 hl1
      clear hH1
      refine ⟨l1, _, rfl, .inl (sqL up1), rfl, rfl, _, rfl, ?_⟩
      rw [show (if true = true then !inV (.int i) [.int 0, .int 1] else inV (.int i) [.int 0, .int 1]) = !(decide (i = 0) || decide (i = 1)) from congrArg Bool.not (in01 i)]
      refine iteB (fun c => ?_) (fun c => ?_)
      · have c2 : ¬ i = 0 ∧ ¬ i = 1 := by simpa using c
        have e : due4 L W fi se (.striped (.int i)) = false := by
          show (if i = 0 then strB L W fi else if i = 1 then strB L W se else false) = false
          rw [if_neg c2.1, if_neg c2.2]
        rw [e] at q
        exact q _ sm1
      · have c2 : i = 0 ∨ i = 1 := by
          rcases Int.lt_trichotomy i 0 with h | h | h
          · simp [show ¬ i = 0 by omega, show ¬ i = 1 by omega] at c
          · exact .inl h
          · by_cases h1 : i = 1
            · exact .inr h1
            · simp [show ¬ i = 0 by omega, h1] at c
        refine ⟨_, rfl, _, rfl, p, _, dx, _, _, rfl, sm1 _ _ hp, F.c, F.no, rfl, ?_⟩
        refine ⟨_, rfl, _, _, _, _, _, rfl, .own _, tyA G (ha.mono sm1), kitA G (.striped _) .striped, _, rfl, iteT ?_⟩
        walk_at "rd"
        refine .mk (Same.tup sm1 ht) hL hW hf hs fun H3 sm3 => ?_
        rw [show barB L W fi se (i + 0) = due4 L W fi se (.striped (.int i)) by
          rcases c2 with rfl | rfl <;> rfl]
        exact q _ (sm1.trans sm3)
    | short i =>
      refine ⟨_, rfl, _, _, _, _, _, rfl, .own _, tyA G ha, kitA G (.short _) .laid, _, rfl, iteF ?_⟩
      have F := G.f .short (by decide)
      obtain ⟨dx, hp⟩ := id ha
      refine ⟨_, rfl, p, _, dx, _, _, rfl, hp, F.c, F.no, rfl, ?_⟩
      walk_at "rd"
      intro l1 hl1
      generalize hH1 : upd H l1 _ = H1
      obtain ⟨sm1, up1⟩ : Same H H1 ∧ H1 l1 = some (.lst [.int 0, .int 1]) := newH hH1 hl1
      clear hH1
      refine ⟨l1, _, rfl, .inl (sqL up1), rfl, rfl, _, rfl, ?_⟩
      rw [show (if true = true then !inV (.int i) [.int 0, .int 1] else inV (.int i) [.int 0, .int 1]) = !(decide (i = 0) || decide (i = 1)) from congrArg Bool.not (in01 i)]
      refine iteB (fun c => ?_) (fun c => ?_)
      · have c2 : ¬ i = 0 ∧ ¬ i = 1 := by simpa using c
        have e : due4 L W fi se (.short (.int i)) = false := by
          show (if i = 0 then shoB L fi se else if i = 1 then shoB W fi se else false) = false
          rw [if_neg c2.1, if_neg c2.2]
        rw [e] at q
        exact q _ sm1
      · have c2 : i = 0 ∨ i = 1 := by
          rcases Int.lt_trichotomy i 0 with h | h | h
          · simp [show ¬ i = 0 by omega, show ¬ i = 1 by omega] at c
          · exact .inl h
          · by_cases h1 : i = 1
            · exact .inr h1
            · simp [show ¬ i = 0 by omega, h1] at c
        refine ⟨_, rfl, _, rfl, p, _, dx, _, _, rfl, sm1 _ _ hp, F.c, F.no, rfl, ?_⟩
        refine ⟨_, rfl, _, _, _, _, _, rfl, .own _, tyA G (ha.mono sm1), kitA G (.short _) .striped, _, rfl, iteF ?_⟩
        walk_at "rd"
        refine .mk (Same.tup sm1 ht) hL hW hf hs fun H3 sm3 => ?_
        rw [show barB L W fi se (i + 2) = due4 L W fi se (.short (.int i)) by
          rcases c2 with rfl | rfl <;> rfl]
        exact q _ (sm1.trans sm3)
/-- a floor and a brick in a tuple -/
def FourAt (K : PySem.W.Frag) (H : Hp) (v : V) : Prop := ∃ o L W f s, v = .ref o ∧ SqT K H o [.int L, .int W, .int f, .int s] ∧ Sz L ∧ Sz W ∧ Sz f ∧ Sz s
inductive SpRight (K : PySem.W.Frag) : Sp where
  | mk {t ol : Addr} {L W f s : Int} {os : List V} {H : Hp} {Q : VK} {E : XK} (ht : SqT K H t [.int L, .int W, .int f, .int s]) (hL : Sz L) (hW : Sz W) (hf : Sz f) (hs : Sz s) (ho : SqL K H ol os) (hos : ∀ v ∈ os, FourAt K H v) (q : ∀ H', Same H H' → Q (.bl true) H') :
    SpRight K [.ref t, .ref ol] H Q E
inductive RightI (t ol p1 p2 D kl wl : Addr) (H : Hp) : L2.St → Hp → Prop where
  | mk {H' : Hp} {y7 y8 : Option V} (sm : Same H H') : RightI t ol p1 p2 D kl wl H [some (.ref t), some (.ref ol), some (.ref D), some (.ref p1), some (.ref p2), some (.ref kl), some (.ref wl), y7, y8] H'
theorem four_at {x0 x1 x2 x3 : V} : atI [x0, x1, x2, x3] 0 = some x0 ∧ atI [x0, x1, x2, x3] 1 = some x1 ∧ atI [x0, x1, x2, x3] 2 = some x2 ∧ atI [x0, x1, x2, x3] 3 = some x3 := ⟨rfl, rfl, rfl, rfl⟩
theorem H__law_right (p : Pl K mg "_law_right" s__law_right) (B : Bi mg) (G : ClG K mg) (h__law_bars : Has P w K mg base CX0 3 "_law_bars" ["_law_four_here", "_law_which"] (SpLBars K))
    (h_told : Has P w K mg base CX0 4 "told" ["length", "width", "first", "second"] (SpTold K)) (h__law_whole : Has P w K mg base CX0 1 "_law_whole" ["_law_found"] (SpIsNumber K))
    (h__law_due : Has P w K mg base CX0 4 "_law_due" ["_law_four_here", "_law_found"] (SpDue K)) (h_shows4 : ∀ x, Ok4 x → HasM P w K mg base CX0 4 x "shows" ["self", "length", "width", "first", "second"] (SpShows4 K x)) :
    Has P w K mg base CX0 5 "_law_right" ["_law_four_here", "_law_others"] (SpRight K) := by
  refine p.mk0 sc__law_right (fun _ _ _ _ _ _ us hl => match us, hl with | [_, _], _ => rfl) (fun vs H Q E h => ?_) (fun f cdv A outer s H vs Q E hr h => ?_)
  · cases h; rfl
  · obtain @⟨t, ol, L, W, fi, se, os, _, _, _, ht, hL, hW, hf, hs, ho, hos, q⟩ := h
    refine ⟨_, (pss_cons (ps_setLc (i := 2) (own := [("_law_which", 8)]) (by rfl) sc__law_right.nd rfl rfl (sw_true rfl rfl rfl (by decide +kernel)) (pi_range1 (by rfl) B.range (pa_cons pe_int pa_nil)) (blkOk_by (own := [("_law_which", 8)]) (N := ["_law_four_here", "_law_others", "_law_bars_here", "_law_found", "_law_again", "_law_kinds", "_law_wrong", "_law_other", "_law_which"]) (sc := defScope s__law_right) (by decide +kernel)) (fun _ _ _ _ _ => (pg_name (i := 8) sc__law_right.nd rfl (Or.inl rfl))) (fun _ _ _ _ _ => pts_nil) (fun _ _ _ _ _ => (pe_fn h__law_bars (hr.mono (by decide)) pass0 (pa_cons (pv 0) (pa_cons (pv 8) pa_nil)))))
      (pss_cons (ps_par (i := 3) (j := 4) (by rfl) sc__law_right.nd rfl rfl (by decide) rfl rfl (pa_cons (pe_fn h_told (hr.mono (by decide)) pass0 (pa_cons (pe_ix ix_tup (pv 0) pe_int (fun _ _ => rfl)) (pa_cons (pe_ix ix_tup (pv 0) pe_int (fun _ _ => rfl)) (pa_cons (pe_ix ix_tup (pv 0) pe_int (fun _ _ => rfl)) (pa_cons (pe_ix ix_tup (pv 0) pe_int (fun _ _ => rfl)) pa_nil))))) (pa_cons (pe_fn h_told (hr.mono (by decide)) pass0 (pa_cons (pe_ix ix_tup (pv 0) pe_int (fun _ _ => rfl)) (pa_cons (pe_ix ix_tup (pv 0) pe_int (fun _ _ => rfl)) (pa_cons (pe_ix ix_tup (pv 0) pe_int (fun _ _ => rfl)) (pa_cons (pe_ix ix_tup (pv 0) pe_int (fun _ _ => rfl)) pa_nil))))) pa_nil)) (by rfl))
      (pss_cons (ps_set (i := 5) sc__law_right.nd rfl (Or.inl rfl) (pe_lst (pa_cons (pe_callB call_isi (by rfl) B.isinstance (by decide +kernel) (pa_cons (pv 3) (pa_cons (pe_glob (v := .ref (cl _ .laid)) (by rfl) (G.g .laid (by decide)) rfl) pa_nil))) (pa_cons (pe_callB call_isi (by rfl) B.isinstance (by decide +kernel) (pa_cons (pv 3) (pa_cons (pe_glob (v := .ref (cl _ .striped)) (by rfl) (G.g .striped (by decide)) rfl) pa_nil))) (pa_cons (pe_callB call_isi (by rfl) B.isinstance (by decide +kernel) (pa_cons (pv 3) (pa_cons (pe_glob (v := .ref (cl _ .short)) (by rfl) (G.g .short (by decide)) rfl) pa_nil))) pa_nil)))))
      (pss_cons (ps_set (i := 6) sc__law_right.nd rfl (Or.inl rfl) (pe_lst (pa_cons (pe_callB call_isi (by rfl) B.isinstance (by decide +kernel) (pa_cons (pv 3) (pa_cons (pe_glob (v := .ref (cl _ .full)) (by rfl) (G.g .full (by decide)) rfl) pa_nil))) (pa_cons (pe_callB call_isi (by rfl) B.isinstance (by decide +kernel) (pa_cons (pv 3) (pa_cons (pe_glob (v := .ref (cl _ .beyond)) (by rfl) (G.g .beyond (by decide)) rfl) pa_nil))) (pa_cons (pe_callB call_isi (by rfl) B.isinstance (by decide +kernel) (pa_cons (pv 3) (pa_cons (pe_glob (v := .ref (cl _ .twice)) (by rfl) (G.g .twice (by decide)) rfl) pa_nil))) (pa_cons (pe_callB call_isi (by rfl) B.isinstance (by decide +kernel) (pa_cons (pv 3) (pa_cons (pe_glob (v := .ref (cl _ .bare)) (by rfl) (G.g .bare (by decide)) rfl) pa_nil))) pa_nil))))))
      (pss_cons (ps_if (PW.pt (pw_or (pt_not (pt_val (pe_callB call_isi (by rfl) B.isinstance (by decide +kernel) (pa_cons (pv 3) (pa_cons (pe_glob (v := .ref (cl _ .answer)) (by rfl) (G.g .answer (by decide)) rfl) pa_nil))))) (pw_or (pt_cmpR op_ne (pe_bm PySem.F.plainAttrs_list PySem.F.slot_list_count PySem.F.type_list_count mt_count (pv 5) (pa_cons pe_bl pa_nil)) pe_int (nomark _)) (pw_or (pt_val (pe_callB (cr_any rfl) (by rfl) B.any (by decide +kernel) (pa_cons (pv 6) pa_nil))) (pw_or1 (pt_cmpR op_eq (pe_ix ix_list (pv 5) pe_int (fun _ _ => rfl)) (pe_callB (cr_any rfl) (by rfl) B.any (by decide +kernel) (pa_cons (pv 2) pa_nil)) (nomark _))))))) (pss_one (ps_ret pe_bl)) pss_nil)
      (pss_cons (ps_if (PW.pt (pw_and (pt_not (pt_val (pe_ix ix_list (pv 5) pe_int (fun _ _ => rfl)))) (pw_and1 (pt_not (pt_val (pe_fn h__law_whole (hr.mono (by decide)) pass0 (pa_cons (pe_fld (pv 3) rfl) pa_nil))))))) (pss_one (ps_ret pe_bl)) pss_nil)
      (pss_cons (ps_if (PW.pt (pw_or (pt_not (pt_val (pe_fn h__law_due (hr.mono (by decide)) pass0 (pa_cons (pv 0) (pa_cons (pv 3) pa_nil))))) (pw_or1 (pt_not (pt_val (pe_fn h__law_due (hr.mono (by decide)) pass0 (pa_cons (pv 0) (pa_cons (pv 4) pa_nil)))))))) (pss_one (ps_ret pe_bl)) pss_nil)
      (pss_cons (ps_if (pt_cmpR op_notBl (pe_methA h_shows4 (fun x hx => (G.f x (ok4 hx)).c) (hr.mono (by decide)) pass0 (pv 3) (pa_cons (pe_ix ix_tup (pv 0) pe_int (fun _ _ => rfl)) (pa_cons (pe_ix ix_tup (pv 0) pe_int (fun _ _ => rfl)) (pa_cons (pe_ix ix_tup (pv 0) pe_int (fun _ _ => rfl)) (pa_cons (pe_ix ix_tup (pv 0) pe_int (fun _ _ => rfl)) pa_nil))))) pe_bl (nomark _)) (pss_one (ps_ret pe_bl)) pss_nil)
      (pss_cons (ps_for PassesOwn.never (by rfl) (pi_list (pv 1)) (pg_name (i := 7) sc__law_right.nd rfl (Or.inl rfl)) (pss_one (ps_if (pt_cmpR op_ne (pe_methA h_shows4 (fun x hx => (G.f x (ok4 hx)).c) (hr.mono (by decide)) pass0 (pv 3) (pa_cons (pe_ix ix_tup (pv 7) pe_int (fun _ _ => rfl)) (pa_cons (pe_ix ix_tup (pv 7) pe_int (fun _ _ => rfl)) (pa_cons (pe_ix ix_tup (pv 7) pe_int (fun _ _ => rfl)) (pa_cons (pe_ix ix_tup (pv 7) pe_int (fun _ _ => rfl)) pa_nil))))) (pe_fn h__law_due (hr.mono (by decide)) pass0 (pa_cons (pv 7) (pa_cons (pv 3) pa_nil))) (nomark _)) (pss_one (ps_ret pe_bl)) pss_nil)))
      (pss_one (ps_ret pe_bl))))))))))), ?_⟩
    walk_at "rd"
    intro D hD
    refine lc_range (lo := 0) (n := 4) (fun i H' => Same H H' ∧ H' D = some (.lst ((barsL L W fi se i).map V.bl))) ⟨same_upd hD, upd_same⟩ ?_ ?_
    · rintro i H' hi ⟨sm, eD⟩
      have e0 : (0 : Int) + (i : Int) = i := by omega
      refine ⟨rfl, lc_yes ?_⟩
      walk_at "rd"
      refine .mk (Same.tup sm ht) hL hW hf hs fun H3 sm3 => ⟨_, sm3 _ _ eD, ?_, ?_, ?_⟩
      · rw [List.length_map, bars_len]
        exact Nat.lt_of_lt_of_le hi (size4 (by omega))
      · exact fun b1 o e => by rw [upd_ne (ne_of_none e hD)]; exact sm3 _ _ (sm b1 o e)
      · rw [upd_same, bars_succ, List.map_append, e0]
        rfl
    · rintro H1 ⟨sm1, eD⟩
      have ht1 := Same.tup sm1 ht
      refine ⟨_, rfl, t, _, 0, _, rfl, rfl, ht1, rfl, _, rfl, t, _, 1, _, rfl, rfl, ht1, rfl, _, rfl, t, _, 2, _, rfl, rfl, ht1, rfl, _, rfl, t, _, 3, _, rfl, rfl, ht1, rfl, ?_⟩
      refine .mk hL hW hf hs fun p1 H2 sm2 ha1 => ?_
      have ht2 := Same.tup sm2 ht1
      refine ⟨_, rfl, t, _, 0, _, rfl, rfl, ht2, rfl, _, rfl, t, _, 1, _, rfl, rfl, ht2, rfl, _, rfl, t, _, 2, _, rfl, rfl, ht2, rfl, _, rfl, t, _, 3, _, rfl, rfl, ht2, rfl, ?_⟩
      refine .mk hL hW hf hs fun p2 H3 sm3 ha2 => ⟨_, _, rfl, ?_⟩
      replace ha1 := ha1.mono sm3
      have smA : Same H H3 := sm1.trans (sm2.trans sm3)
      replace eD := sm3 _ _ (sm2 _ _ eD)
      have ht3 := Same.tup smA ht
      have h4 := tellA_4 L W fi se
      have hlaid := told_laid L W fi se
      have hdue := told_due L W fi se
      generalize tellA L W fi se = a at ha1 ha2 h4 hlaid hdue
      -- kinds
      refine ⟨_, rfl, _, _, _, _, _, rfl, .own _, tyA G ha1, kitA G a .laid, _, rfl, _, _, _, _, _, rfl, .own _, tyA G ha1, kitA G a .striped, _, rfl, _, _, _, _, _, rfl, .own _, tyA G ha1, kitA G a .short, ?_⟩
      walk_at "rd"
      intro kl hkl
      generalize hH4 : upd H3 kl _ = H4
      obtain ⟨sm4, up4⟩ : Same H3 H4 ∧ H4 kl = some (.lst [.bl (decide (Cl.laid = a.cl) || false), .bl (decide (Cl.striped = a.cl) || false), .bl (decide (Cl.short = a.cl) || false)]) := newH hH4 hkl
      clear hH4
      replace ha1 := ha1.mono sm4
      refine ⟨_, rfl, _, _, _, _, _, rfl, .own _, tyA G ha1, kitA G a .full, _, rfl, _, _, _, _, _, rfl, .own _, tyA G ha1, kitA G a .beyond, _, rfl, _, _, _, _, _, rfl, .own _, tyA G ha1, kitA G a .twice, _, rfl, _, _, _, _, _, rfl, .own _, tyA G ha1, kitA G a .bare, ?_⟩
      walk_at "rd"
      intro wl hwl
      generalize hH5 : upd H4 wl _ = H5
      obtain ⟨sm5, up5⟩ : Same H4 H5 ∧ H5 wl = some (.lst ([decide (Cl.full = a.cl) || false, decide (Cl.beyond = a.cl) || false, decide (Cl.twice = a.cl) || false, decide (Cl.bare = a.cl) || false].map V.bl)) := newH hH5 hwl
      clear hH5
      replace ha1 := ha1.mono sm5
      replace up4 := sm5 _ _ up4
      replace eD := sm5 _ _ (sm4 _ _ eD)
      refine ⟨_, rfl, _, _, _, _, _, rfl, .own _, tyA G ha1, kitA G a .answer, _, rfl, ?_⟩
      rw [show (decide (Cl.answer = a.cl) || decide (Cl.answer = Cl.answer)) = true by rw [decide_eq_true (rfl : Cl.answer = Cl.answer), Bool.or_true]]
      refine iteF ?_
      refine ⟨_, rfl, .inl ⟨rfl, _, sqL up4⟩, kl, _, _, rfl, rfl, sqL up4, rfl, rfl, ?_⟩
      have cnt : [V.bl (decide (Cl.laid = a.cl) || false), V.bl (decide (Cl.striped = a.cl) || false), V.bl (decide (Cl.short = a.cl) || false)].countP (fun z => eqV z (V.bl true)) = 1 := by cases h4 <;> rfl
      rw [cnt]
      refine ⟨rfl, _, rfl, iteNe (fun z => absurd rfl z) (fun _ => ?_)⟩
      have wr : [decide (Cl.full = a.cl) || false, decide (Cl.beyond = a.cl) || false, decide (Cl.twice = a.cl) || false, decide (Cl.bare = a.cl) || false].any id = false := by cases h4 <;> rfl
      refine ⟨_, rfl, wl, _, rfl, sqL up5, ?_⟩
      rw [wr]
      refine ⟨_, rfl, iteF ?_⟩
      refine ⟨_, rfl, kl, _, 0, _, rfl, rfl, sqL up4, rfl, _, rfl, D, _, rfl, sqL eD, rfl, _, rfl, ?_⟩
      have kd : ¬ (V.bl (decide (Cl.laid = a.cl) || false) = V.bl ((barsL L W fi se 4).any id)) := by
        intro z
        have z := V.bl.inj z
        rw [Bool.or_false, show decide (Cl.laid = a.cl) = decide (a.cl = Cl.laid) from decide_eq_decide.mpr ⟨Eq.symm, Eq.symm⟩, hlaid] at z
        generalize (barsL L W fi se 4).any id = b at z
        cases b <;> cases z
      refine iteN kd (tn ?_)
      dsimp only
      -- not kinds[0] and not whole
      have ht5 := Same.tup (sm4.trans sm5) ht3
      have smB : Same H H5 := smA.trans (sm4.trans sm5)
      replace ha2 := ha2.mono (sm4.trans sm5)
      clear wr cnt hlaid kd
      have okx : Ok4 a.cl := by
        unfold Ok4
        cases h4 <;> simp [Ans.cl]
      have nosh : a.fs.lookup ("shows" : Str) = none := by cases h4 <;> rfl
      refine if_no (H' := H5) (fun r hr0 => ?_) ?_
      · refine ⟨_, rfl, kl, _, 0, _, rfl, rfl, sqL up4, rfl, ?_⟩
        cases h4 with
        | laid => exact ⟨_, rfl, iteF hr0⟩
        | striped i =>
          obtain ⟨dx, hp⟩ := ha1
          have F := G.f .striped (by decide)
          exact ⟨_, rfl, iteT ⟨_, rfl, p1, _, dx, _, _, rfl, hp, F.c, F.no, rfl, num_int ⟨_, rfl, hr0⟩⟩⟩
        | short i =>
          obtain ⟨dx, hp⟩ := ha1
          have F := G.f .short (by decide)
          exact ⟨_, rfl, iteT ⟨_, rfl, p1, _, dx, _, _, rfl, hp, F.c, F.no, rfl, num_int ⟨_, rfl, hr0⟩⟩⟩
      -- due, twice
      walk_at "rd"
      refine .mk ht5 ha1 h4 hL hW hf hs fun H6 sm6 => ?_
      rw [hdue]
      refine ⟨_, rfl, iteF ?_⟩
      walk_at "rd"
      refine .mk (Same.tup sm6 ht5) (ha2.mono sm6) h4 hL hW hf hs fun H7 sm7 => ?_
      rw [hdue]
      refine ⟨_, rfl, iteF ?_⟩
      have sm67 := sm6.trans sm7
      replace ha1 := ha1.mono sm67
      replace ht5 := Same.tup sm67 ht5
      replace smB := smB.trans sm67
      -- shows
      obtain ⟨dx, hp⟩ := id ha1
      refine ⟨a.cl, okx, _, rfl, p1, dx, _, rfl, hp, nosh, ?_⟩
      refine ⟨_, rfl, t, _, 0, _, rfl, rfl, ht5, rfl, _, rfl, t, _, 1, _, rfl, rfl, ht5, rfl, _, rfl, t, _, 2, _, rfl, rfl, ht5, rfl, _, rfl, t, _, 3, _, rfl, rfl, ht5, rfl, ?_⟩
      refine .mk ha1 rfl h4 hL hW hf hs fun H8 sm8 => ?_
      rw [hdue]
      refine ⟨_, _, rfl, rfl, _, rfl, iteF ?_⟩
      replace ha1 := ha1.mono sm8
      replace smB := smB.trans sm8
      clear hdue hp
      refine ⟨_, rfl, ol, rfl, ⟨_, smB.seq ho⟩, for_list (K := K) (a := ol) (xs := os) (fun j σ H' => RightI t ol p1 p2 D kl wl H8 σ H') (.mk (Same.refl _)) ?_ ?_ ?_⟩
      · rintro _ _ _ _ ⟨sm⟩
        exact sm.seq (smB.seq ho)
      · rintro j v _ H9 hj @⟨_, _, _, sm9⟩
        obtain ⟨o, L2, W2, f2, s2, rfl, ho2, z1, z2, z3, z4⟩ := hos v (List.mem_of_getElem? hj)
        replace ho2 := Same.tup (smB.trans sm9) ho2
        have ha9 := ha1.mono sm9
        obtain ⟨dx, hp⟩ := id ha9
        refine ⟨a.cl, okx, _, rfl, p1, dx, _, rfl, hp, nosh, ?_⟩
        refine ⟨_, rfl, o, _, 0, _, rfl, rfl, ho2, rfl, _, rfl, o, _, 1, _, rfl, rfl, ho2, rfl, _, rfl, o, _, 2, _, rfl, rfl, ho2, rfl, _, rfl, o, _, 3, _, rfl, rfl, ho2, rfl, ?_⟩
        refine .mk ha9 rfl h4 z1 z2 z3 z4 fun H10 sm10 => ?_
        walk_at "rd"
        refine .mk (Same.tup sm10 ho2) (ha9.mono sm10) h4 z1 z2 z3 z4 fun H11 sm11 => ?_
        refine ⟨rfl, _, rfl, iteNP rfl (.mk (sm9.trans (sm10.trans sm11)))⟩
      · rintro _ H9 @⟨_, _, _, sm9⟩
        exact q _ (smB.trans sm9)
end
end BF

namespace BF
open PySem PySem.Spec PyProof.Rows L2
inductive LoopA (a : Addr) (wh : Int) (H : Hp) : L2.St → Hp → Prop where
  | mk {H' : Hp} {y2 y3 y4 : Option V} (sm : Same H H') : LoopA a wh H [some (.ref a), some (.int wh), y2, y3, y4] H'
theorem sd_add {x : Int} (h : Sd x) : Sz (x + 1) := ⟨by have := h.pos; omega, (h.bn.add (bnl (n := 1) (x := 1) (by decide))).mono (by decide)⟩
theorem tell1 : tellA 10 10 1 4 = .striped (.int 1) := by
  have e : strL 10 10 1 4 = [1] := by decide
  unfold tellA
  rw [e]
theorem tell2 : tellA 6 1 2 3 = .short (.int 1) := by
  have e : strL 6 1 2 3 = [] := by decide
  have s1 : shoB 6 2 3 = false := sho_no (m := 3) (n := 0) (by decide) (by decide) ⟨by decide, by decide, by decide⟩
  have s2 : shoB 1 2 3 = true := sho_yes (by decide) (by rintro m n ⟨h1, h2, h3⟩; omega)
  unfold tellA shoL
  rw [e, s1, s2]
  rfl
theorem tell3 : tellA 1 6 2 3 = .short (.int 0) := by
  have e : strL 1 6 2 3 = [] := by decide
  have s1 : shoB 6 2 3 = false := sho_no (m := 3) (n := 0) (by decide) (by decide) ⟨by decide, by decide, by decide⟩
  have s2 : shoB 1 2 3 = true := sho_yes (by decide) (by rintro m n ⟨h1, h2, h3⟩; omega)
  unfold tellA shoL
  rw [e, s1, s2]
  rfl
theorem tell4 : tellA 5 6 2 3 = .laid := by
  have e : strL 5 6 2 3 = [] := by decide
  have s1 : shoB 5 2 3 = false := sho_no (m := 1) (n := 1) (by decide) (by decide) ⟨by decide, by decide, by decide⟩
  have s2 : shoB 6 2 3 = false := sho_no (m := 3) (n := 0) (by decide) (by decide) ⟨by decide, by decide, by decide⟩
  unfold tellA shoL
  rw [e, s1, s2]
  rfl
theorem tell5 : tellA 7 15 3 5 = .short (.int 0) := by
  have e : strL 7 15 3 5 = [] := by decide
  have s1 : shoB 7 3 5 = true := sho_yes (by decide) (by rintro m n ⟨h1, h2, h3⟩; omega)
  have s2 : shoB 15 3 5 = false := sho_no (m := 5) (n := 0) (by decide) (by decide) ⟨by decide, by decide, by decide⟩
  unfold tellA shoL
  rw [e, s1, s2]
  rfl
theorem tell6 : tellA 9 15 3 5 = .laid := by
  have e : strL 9 15 3 5 = [] := by decide
  have s1 : shoB 9 3 5 = false := sho_no (m := 3) (n := 0) (by decide) (by decide) ⟨by decide, by decide, by decide⟩
  have s2 : shoB 15 3 5 = false := sho_no (m := 5) (n := 0) (by decide) (by decide) ⟨by decide, by decide, by decide⟩
  unfold tellA shoL
  rw [e, s1, s2]
  rfl
section
variable {P : Program} {w : World} {K : PySem.W.Frag} {mg : Str → Option Value} {base : Heap}
theorem H_law (p : Pl K mg "law" s_law) (B : Bi mg) (G : ClG K mg) (h__law_four : Has P w K mg base CX0 2 "_law_four" ["_law_script", "_law_at", "_law_most"] (SpFour K))
    (h__law_right : Has P w K mg base CX0 5 "_law_right" ["_law_four_here", "_law_others"] (SpRight K)) (h_told : Has P w K mg base CX0 4 "told" ["length", "width", "first", "second"] (SpTold K)) :
    Has P w K mg base CX0 6 "law" ["_law_script"] (SpLaw K) := by
  refine p.mk0 sc_law (fun _ _ _ _ _ _ us hl => match us, hl with | [_], _ => rfl) (fun vs H Q E h => ?_) (fun f cdv A outer s H vs Q E hr h => ?_)
  · cases h; rfl
  · obtain @⟨a, ns, _, _, _, hl, hbits, hS, q⟩ := h
    refine ⟨_, (pss_cons (ps_set (i := 1) sc_law.nd rfl (Or.inl rfl) (pe_callB (cr_sum rfl) (by rfl) B.sum (by decide +kernel) (pa_cons (pe_slice sl_list (pv 0) po_none (po_some pe_int)) pa_nil)))
      (pss_cons (ps_for PassesOwn.never (by rfl) (pi_range1 (by rfl) B.range (pa_cons (pe_callB (call_min2 rfl) (by rfl) B.min (by decide +kernel) (pa_cons pe_int (pa_cons (pe_callB call_len_seq (by rfl) B.len PySem.boot_len (pa_cons (pv 0) pa_nil)) pa_nil))) pa_nil)) (pg_name (i := 2) sc_law.nd rfl (Or.inl rfl)) (pss_cons (ps_set (i := 3) sc_law.nd rfl (Or.inl rfl) (pe_fn h__law_four (hr.mono (by decide)) pass0 (pa_cons (pv 0) (pa_cons (pv 2) (pa_cons (pe_ix ix_tup (pe_tup (pa_cons pe_int (pa_cons pe_int (pa_cons (pe_op op_pow pe_int pe_int) (pa_cons (pe_op op_pow pe_int pe_int) pa_nil))))) (pe_op op_mod (pe_op op_add (pv 1) (pv 2)) pe_int) (fun _ _ => rfl)) pa_nil)))))
      (pss_cons (ps_set (i := 4) sc_law.nd rfl (Or.inl rfl) (pe_tup (pa_cons (pe_ix ix_tup (pv 3) pe_int (fun _ _ => rfl)) (pa_cons (pe_ix ix_tup (pv 3) pe_int (fun _ _ => rfl)) (pa_cons (pe_ix ix_tup (pv 3) pe_int (fun _ _ => rfl)) (pa_cons (pe_ix ix_tup (pv 3) pe_int (fun _ _ => rfl)) pa_nil))))))
      (pss_one (ps_if (pt_not (pt_val (pe_fn h__law_right (hr.mono (by decide)) pass0 (pa_cons (pv 3) (pa_cons (pe_lst (pa_cons (pv 4) (pa_cons (pe_tup (pa_cons (pe_op op_add (pe_ix ix_tup (pv 3) pe_int (fun _ _ => rfl)) pe_int) (pa_cons (pe_ix ix_tup (pv 3) pe_int (fun _ _ => rfl)) (pa_cons (pe_ix ix_tup (pv 3) pe_int (fun _ _ => rfl)) (pa_cons (pe_ix ix_tup (pv 3) pe_int (fun _ _ => rfl)) pa_nil))))) pa_nil))) pa_nil))))) (pss_one (ps_ret pe_bl)) pss_nil)))))
      (pss_cons (ps_if (PW.pt (pw_or (pt_not (pt_val (pe_fn h__law_right (hr.mono (by decide)) pass0 (pa_cons (pe_tup (pa_cons pe_int (pa_cons pe_int (pa_cons pe_int (pa_cons pe_int pa_nil))))) (pa_cons (pe_lst (pa_cons (pe_tup (pa_cons pe_int (pa_cons pe_int (pa_cons pe_int (pa_cons pe_int pa_nil))))) pa_nil)) pa_nil))))) (pw_or1 (pt_not (pt_val (pe_fn h__law_right (hr.mono (by decide)) pass0 (pa_cons (pe_tup (pa_cons pe_int (pa_cons pe_int (pa_cons pe_int (pa_cons pe_int pa_nil))))) (pa_cons (pe_lst (pa_cons (pe_tup (pa_cons pe_int (pa_cons pe_int (pa_cons pe_int (pa_cons pe_int pa_nil))))) pa_nil)) pa_nil)))))))) (pss_one (ps_ret pe_bl)) pss_nil)
      (pss_cons (ps_if (PW.pt (pw_or (pt_not (pt_val (pe_callB call_isi (by rfl) B.isinstance (by decide +kernel) (pa_cons (pe_fn h_told (hr.mono (by decide)) pass0 (pa_cons pe_int (pa_cons pe_int (pa_cons pe_int (pa_cons pe_int pa_nil))))) (pa_cons (pe_glob (v := .ref (cl _ .striped)) (by rfl) (G.g .striped (by decide)) rfl) pa_nil))))) (pw_or (pt_cmpR op_ne (pe_fld (pe_fn h_told (hr.mono (by decide)) pass0 (pa_cons pe_int (pa_cons pe_int (pa_cons pe_int (pa_cons pe_int pa_nil))))) rfl) pe_int (nomark _)) (pw_or1 (pt_cmpR op_ne (pe_fld (pe_fn h_told (hr.mono (by decide)) pass0 (pa_cons pe_int (pa_cons pe_int (pa_cons pe_int (pa_cons pe_int pa_nil))))) rfl) pe_int (nomark _)))))) (pss_one (ps_ret pe_bl)) pss_nil)
      (pss_cons (ps_if (PW.pt (pw_or (pt_not (pt_val (pe_callB call_isi (by rfl) B.isinstance (by decide +kernel) (pa_cons (pe_fn h_told (hr.mono (by decide)) pass0 (pa_cons pe_int (pa_cons pe_int (pa_cons pe_int (pa_cons pe_int pa_nil))))) (pa_cons (pe_glob (v := .ref (cl _ .laid)) (by rfl) (G.g .laid (by decide)) rfl) pa_nil))))) (pw_or1 (pt_not (pt_val (pe_callB call_isi (by rfl) B.isinstance (by decide +kernel) (pa_cons (pe_fn h_told (hr.mono (by decide)) pass0 (pa_cons pe_int (pa_cons pe_int (pa_cons pe_int (pa_cons pe_int pa_nil))))) (pa_cons (pe_glob (v := .ref (cl _ .short)) (by rfl) (G.g .short (by decide)) rfl) pa_nil)))))))) (pss_one (ps_ret pe_bl)) pss_nil)
      (pss_one (ps_ret (pe_callB call_isi (by rfl) B.isinstance (by decide +kernel) (pa_cons (pe_fn h_told (hr.mono (by decide)) pass0 (pa_cons pe_int (pa_cons pe_int (pa_cons pe_int (pa_cons pe_int pa_nil))))) (pa_cons (pe_glob (v := .ref (cl _ .laid)) (by rfl) (G.g .laid (by decide)) rfl) pa_nil)))))))))), ?_⟩
    obtain ⟨ms, ems⟩ := cut_ints ns none (some 63)
    refine ⟨_, rfl, 63, rfl, a, _, rfl, hS, fun p1 hp1 => ⟨p1, ms, rfl, sqL (by rw [← ems]; exact upd_same), ?_⟩⟩
    have sm1 : Same H (upd H p1 (.lst (cutV (ns.map V.int) none (some 63)))) := same_upd hp1
    generalize upd H p1 (.lst (cutV (ns.map V.int) none (some 63))) = H1 at sm1 ⊢
    generalize hwh : ms.sum = wh
    refine ⟨_, rfl, a, _, rfl, .inl (sm1.seq hS), _, _, rfl, ?_⟩
    refine ⟨_, rfl, ?_, ?_, ?_⟩
    · show -(2 ^ 62) ≤ (if ((ns.map V.int).length : Int) < 63 then ((ns.map V.int).length : Int) else 63)
      split <;> omega
    · show (if ((ns.map V.int).length : Int) < 63 then ((ns.map V.int).length : Int) else 63) < 2 ^ 62
      split <;> omega
    refine for_range (lo := 0) (n := _) (fun i σ H' => LoopA a wh H σ H') (.mk sm1) ?_ ?_
    · rintro i _ H2 hi @⟨_, _, _, _, sm2⟩
      have hin : i < ns.length := by
        have : (if ((ns.map V.int).length : Int) < 63 then ((ns.map V.int).length : Int) else 63) ≤ ns.length := by
          rw [List.length_map]
          split <;> omega
        omega
      walk_at "rd"
      intro p2 hp2
      generalize hH3 : upd H2 p2 _ = H3
      obtain ⟨sm3, up3⟩ : Same H2 H3 ∧ H3 p2 = some (.tup [.int 3, .int 9, .int (10 ^ (6 : Int).toNat), .int (10 ^ (20 : Int).toNat)]) := newH hH3 hp2
      clear hH3
      replace sm3 := sm2.trans sm3
      obtain ⟨mv, emv, hmv⟩ := pick4 (x0 := .int 3) (x1 := .int 9) (x2 := .int (10 ^ (6 : Int).toNat)) (x3 := .int (10 ^ (20 : Int).toNat)) (k := (wh + (0 + (i : Int))) % 4) (Int.emod_nonneg _ (by decide)) (Int.emod_lt_of_pos _ (by decide))
      obtain ⟨most, rfl, hm1, hm2⟩ : ∃ most : Int, mv = .int most ∧ 0 < most ∧ most ≤ 10 ^ 20 := by
        rcases hmv with rfl | rfl | rfl | rfl <;> exact ⟨_, rfl, by decide, by decide⟩
      walk_at "rd"
      refine ⟨p2, _, _, _, rfl, rfl, sqT up3, emv, ?_⟩
      clear emv hmv
      refine .mk hbits hl (sm3.seq hS) (by omega) (by omega) hm1 hm2 fun L W f s p4 H4 hL hW hf hs sm4 hp4 => ?_
      replace sm4 := sm3.trans sm4
      refine ⟨_, rfl, p4, _, 1, _, rfl, rfl, sqT hp4, rfl, _, rfl, p4, _, 0, _, rfl, rfl, sqT hp4, rfl, _, rfl, p4, _, 3, _, rfl, rfl, sqT hp4, rfl, _, rfl, p4, _, 2, _, rfl, rfl, sqT hp4, rfl, ?_⟩
      walk_at "rd"
      intro p5 hp5
      generalize hH5 : upd H4 p5 _ = H5
      obtain ⟨sm5, up5⟩ : Same H4 H5 ∧ H5 p5 = some (.tup [.int W, .int L, .int s, .int f]) := newH hH5 hp5
      clear hH5
      have hq4 := sm5 _ _ hp4
      refine ⟨_, rfl, _, rfl, _, rfl, p4, _, 0, _, rfl, rfl, sqT hq4, rfl, _, _, rfl, rfl, _, rfl, p4, _, 1, _, rfl, rfl, sqT hq4, rfl, _, rfl, p4, _, 2, _, rfl, rfl, sqT hq4, rfl, _, rfl, p4, _, 3, _, rfl, rfl, sqT hq4, rfl, ?_⟩
      walk_at "rd"
      intro p6 hp6
      generalize hH6 : upd H5 p6 _ = H6
      obtain ⟨sm6, up6⟩ : Same H5 H6 ∧ H6 p6 = some (.tup [.int (L + 1), .int W, .int f, .int s]) := newH hH6 hp6
      clear hH6
      walk_at "rd"
      intro p7 hp7
      generalize hH7 : upd H6 p7 _ = H7
      obtain ⟨sm7, up7⟩ : Same H6 H7 ∧ H7 p7 = some (.lst [.ref p5, .ref p6]) := newH hH7 hp7
      clear hH7
      refine .mk (sqT (sm7 _ _ (sm6 _ _ hq4))) hL.sz hW.sz hf.sz hs.sz (sqL up7) ?_ fun H8 sm8 => ⟨_, rfl, iteF (.mk (sm4.trans (sm5.trans (sm6.trans (sm7.trans sm8)))))⟩
      intro v hv
      have e : v = .ref p5 ∨ v = .ref p6 := by simpa using hv
      rcases e with rfl | rfl
      · exact ⟨_, _, _, _, _, rfl, sqT (sm7 _ _ (sm6 _ _ up5)), hW.sz, hL.sz, hs.sz, hf.sz⟩
      · exact ⟨_, _, _, _, _, rfl, sqT (sm7 _ _ up6), sd_add hL, hW.sz, hf.sz, hs.sz⟩
    · rintro _ H2 @⟨_, _, _, _, sm2⟩
      have z : ∀ n : Int, 0 < n → n < 100 → Sz n := fun n h0 h1 => sz_of_lt h0 (by omega)
      walk_at "rd"
      intro p3 hp3
      generalize hH3 : upd H2 p3 _ = H3
      obtain ⟨sm3, up3⟩ : Same H2 H3 ∧ H3 p3 = some (.tup [.int 5, .int 9, .int 2, .int 3]) := newH hH3 hp3
      clear hH3
      walk_at "rd"
      intro p4 hp4
      generalize hH4 : upd H3 p4 _ = H4
      obtain ⟨sm4, up4⟩ : Same H3 H4 ∧ H4 p4 = some (.tup [.int 6, .int 9, .int 2, .int 3]) := newH hH4 hp4
      clear hH4
      walk_at "rd"
      intro p5 hp5
      generalize hH5 : upd H4 p5 _ = H5
      obtain ⟨sm5, up5⟩ : Same H4 H5 ∧ H5 p5 = some (.lst [.ref p4]) := newH hH5 hp5
      clear hH5
      refine .mk (sqT (sm5 _ _ (sm4 _ _ up3))) (z _ (by decide) (by decide)) (z _ (by decide) (by decide)) (z _ (by decide) (by decide)) (z _ (by decide) (by decide)) (sqL up5) ?_ fun H6 sm6 => ⟨_, rfl, iteF ?_⟩
      · intro v hv
        obtain rfl : v = .ref p4 := by simpa using hv
        exact ⟨_, _, _, _, _, rfl, sqT (sm5 _ _ up4), z _ (by decide) (by decide), z _ (by decide) (by decide), z _ (by decide) (by decide), z _ (by decide) (by decide)⟩
      walk_at "rd"
      intro p7 hp7
      generalize hH7 : upd H6 p7 _ = H7
      obtain ⟨sm7, up7⟩ : Same H6 H7 ∧ H7 p7 = some (.tup [.int 6, .int 1, .int 2, .int 3]) := newH hH7 hp7
      clear hH7
      walk_at "rd"
      intro p8 hp8
      generalize hH8 : upd H7 p8 _ = H8
      obtain ⟨sm8, up8⟩ : Same H7 H8 ∧ H8 p8 = some (.tup [.int 6, .int 5, .int 2, .int 3]) := newH hH8 hp8
      clear hH8
      walk_at "rd"
      intro p9 hp9
      generalize hH9 : upd H8 p9 _ = H9
      obtain ⟨sm9, up9⟩ : Same H8 H9 ∧ H9 p9 = some (.lst [.ref p8]) := newH hH9 hp9
      clear hH9
      refine .mk (sqT (sm9 _ _ (sm8 _ _ up7))) (z _ (by decide) (by decide)) (z _ (by decide) (by decide)) (z _ (by decide) (by decide)) (z _ (by decide) (by decide)) (sqL up9) ?_ fun H10 sm10 => ⟨_, rfl, iteF ?_⟩
      · intro v hv
        obtain rfl : v = .ref p8 := by simpa using hv
        exact ⟨_, _, _, _, _, rfl, sqT (sm9 _ _ up8), z _ (by decide) (by decide), z _ (by decide) (by decide), z _ (by decide) (by decide), z _ (by decide) (by decide)⟩
      -- told outright
      refine .mk (z _ (by decide) (by decide)) (z _ (by decide) (by decide)) (z _ (by decide) (by decide)) (z _ (by decide) (by decide)) fun q1 K1 s1 a1 => ?_
      rw [tell1] at a1
      refine ⟨_, _, _, _, _, rfl, .own _, tyA G a1, kitA G (.striped _) .striped, _, rfl, iteF ?_⟩
      refine .mk (z _ (by decide) (by decide)) (z _ (by decide) (by decide)) (z _ (by decide) (by decide)) (z _ (by decide) (by decide)) fun q2 K2 s2 a2 => ?_
      rw [tell2] at a2
      obtain ⟨dx, e2⟩ := a2
      refine ⟨q2, _, dx, _, _, rfl, e2, (G.f .short (by decide)).c, (G.f .short (by decide)).no, rfl, rfl, _, rfl, iteNe (fun z => absurd rfl z) (fun _ => ?_)⟩
      refine .mk (z _ (by decide) (by decide)) (z _ (by decide) (by decide)) (z _ (by decide) (by decide)) (z _ (by decide) (by decide)) fun q3 K3 s3 a3 => ?_
      rw [tell3] at a3
      obtain ⟨dx3, e3⟩ := a3
      refine ⟨q3, _, dx3, _, _, rfl, e3, (G.f .short (by decide)).c, (G.f .short (by decide)).no, rfl, rfl, _, rfl, iteNe (fun z => absurd rfl z) (fun _ => ?_)⟩
      refine .mk (z _ (by decide) (by decide)) (z _ (by decide) (by decide)) (z _ (by decide) (by decide)) (z _ (by decide) (by decide)) fun q4 K4 s4 a4 => ?_
      rw [tell4] at a4
      refine ⟨_, _, _, _, _, rfl, .own _, tyA G a4, kitA G .laid .laid, _, rfl, iteF ?_⟩
      refine .mk (z _ (by decide) (by decide)) (z _ (by decide) (by decide)) (z _ (by decide) (by decide)) (z _ (by decide) (by decide)) fun q5 K5 s5 a5 => ?_
      rw [tell5] at a5
      refine ⟨_, _, _, _, _, rfl, .own _, tyA G a5, kitA G (.short _) .short, _, rfl, iteF ?_⟩
      refine .mk (z _ (by decide) (by decide)) (z _ (by decide) (by decide)) (z _ (by decide) (by decide)) (z _ (by decide) (by decide)) fun q6 K6 s6 a6 => ?_
      rw [tell6] at a6
      exact ⟨_, _, _, _, _, rfl, .own _, tyA G a6, kitA G .laid .laid, q _⟩
end
end BF

/-! ### what the top leaves of the classes -/
namespace BF
open PySem PySem.Spec PyProof.Rows L2
def Cl.one : Cl → Bool
  | .striped => true
  | .short => true
  | .beyond => true
  | .twice => true
  | .bare => true
  | _ => false
def Cl.zero : Cl → Bool
  | .laid => true
  | .full => true
  | _ => false
def shB (K : PySem.W.Frag) (x : Cl) : Bool := x == .answer || (He.Fa.meth x.nm "shows").ok K
def oneB (K : PySem.W.Frag) (x : Cl) : Bool := !x.one || ((He.Fa.mkr x.nm).ok K && (He.Fa.meth x.nm "__init__").ok K)
def zeroB (K : PySem.W.Frag) (x : Cl) : Bool := !x.zero || decide (PySem.W.findIn K (.ref (cl K x)) "__init__" = some (some (.builtin "object.__init__")))
def exB (K : PySem.W.Frag) : Bool := Cl.has.all (clB K) && ((Cl.has.all fun x => shB K x && (oneB K x && zeroB K x)) && true)
section
variable {K : PySem.W.Frag} {x : Cl}
theorem exB_cl (c : exB K = true) : Cl.has.all (clB K) = true := (He.ba c).1
theorem exB_all (c : exB K = true) (hx : x ∈ Cl.has) : shB K x = true ∧ oneB K x = true ∧ zeroB K x = true := by
  have a := List.all_eq_true.mp (He.ba (He.ba c).2).1 x hx
  exact ⟨(He.ba a).1, (He.ba (He.ba a).2).1, (He.ba (He.ba a).2).2⟩
theorem exB_shows (c : exB K = true) (hx : x ∈ Cl.has) (hn : (x == .answer) = false) : Meth K (cl K x) "shows" (He.ma K (cl K x) "shows") := by
  have a := (exB_all c hx).1
  unfold shB at a
  rw [hn] at a
  exact He.meth_ok a
theorem exB_one (c : exB K = true) (hx : x ∈ Cl.has) (h1 : x.one = true) : Mk K (cl K x) (He.ma K (cl K x) "__init__") ∧ Meth K (cl K x) "__init__" (He.ma K (cl K x) "__init__") := by
  have a := (exB_all c hx).2.1
  unfold oneB at a
  rw [h1] at a
  exact ⟨He.mkr_ok (He.ba a).1, He.meth_ok (He.ba a).2⟩
theorem exB_zero (c : exB K = true) (hx : x ∈ Cl.has) (h1 : x.zero = true) : PySem.W.findIn K (.ref (cl K x)) "__init__" = some (some (.builtin "object.__init__")) := by
  have a := (exB_all c hx).2.2
  unfold zeroB at a
  rw [h1] at a
  exact of_decide_eq_true a
end
end BF

namespace BF
open PySem PySem.Spec PyProof.Rows L2
/-! ### what the top leaves: each def by name -/
def d_is_number : He.DefD := ⟨("is_number", none), "is_number", "is_number", defArgs s_is_number, defBody s_is_number, defScope s_is_number, [], []⟩
def d_check_sizes : He.DefD := ⟨("check_sizes", none), "check_sizes", "check_sizes", defArgs s_check_sizes, defBody s_check_sizes, defScope s_check_sizes, [], []⟩
def d_shared : He.DefD := ⟨("shared", none), "shared", "shared", defArgs s_shared, defBody s_shared, defScope s_shared, [], []⟩
def d_parts_of : He.DefD := ⟨("parts_of", none), "parts_of", "parts_of", defArgs s_parts_of, defBody s_parts_of, defScope s_parts_of, [], []⟩
def d_is_striped : He.DefD := ⟨("is_striped", none), "is_striped", "is_striped", defArgs s_is_striped, defBody s_is_striped, defScope s_is_striped, [], []⟩
def d_what_bars : He.DefD := ⟨("what_bars", none), "what_bars", "what_bars", defArgs s_what_bars, defBody s_what_bars, defScope s_what_bars, [], []⟩
def d_Laid_shows : He.DefD := ⟨("Laid", some "shows"), "shows", "Laid.shows", defArgs s_Laid_shows, defBody s_Laid_shows, defScope s_Laid_shows, [], []⟩
def d_Striped___init__ : He.DefD := ⟨("Striped", some "__init__"), "__init__", "Striped.__init__", defArgs s_Striped___init__, defBody s_Striped___init__, defScope s_Striped___init__, [], []⟩
def d_Striped_shows : He.DefD := ⟨("Striped", some "shows"), "shows", "Striped.shows", defArgs s_Striped_shows, defBody s_Striped_shows, defScope s_Striped_shows, [], []⟩
def d_Short___init__ : He.DefD := ⟨("Short", some "__init__"), "__init__", "Short.__init__", defArgs s_Short___init__, defBody s_Short___init__, defScope s_Short___init__, [], []⟩
def d_Short_shows : He.DefD := ⟨("Short", some "shows"), "shows", "Short.shows", defArgs s_Short_shows, defBody s_Short_shows, defScope s_Short_shows, [], []⟩
def d_cells_of : He.DefD := ⟨("cells_of", none), "cells_of", "cells_of", defArgs s_cells_of, defBody s_cells_of, defScope s_cells_of, [], []⟩
def d_is_beyond : He.DefD := ⟨("is_beyond", none), "is_beyond", "is_beyond", defArgs s_is_beyond, defBody s_is_beyond, defScope s_is_beyond, [], []⟩
def d_covers : He.DefD := ⟨("covers", none), "covers", "covers", defArgs s_covers, defBody s_covers, defScope s_covers, [], []⟩
def d_is_cell : He.DefD := ⟨("is_cell", none), "is_cell", "is_cell", defArgs s_is_cell, defBody s_is_cell, defScope s_is_cell, [], []⟩
def d_often : He.DefD := ⟨("often", none), "often", "often", defArgs s_often, defBody s_often, defScope s_often, [], []⟩
def d_Full_shows : He.DefD := ⟨("Full", some "shows"), "shows", "Full.shows", defArgs s_Full_shows, defBody s_Full_shows, defScope s_Full_shows, [], []⟩
def d_Beyond___init__ : He.DefD := ⟨("Beyond", some "__init__"), "__init__", "Beyond.__init__", defArgs s_Beyond___init__, defBody s_Beyond___init__, defScope s_Beyond___init__, [], []⟩
def d_Beyond_shows : He.DefD := ⟨("Beyond", some "shows"), "shows", "Beyond.shows", defArgs s_Beyond_shows, defBody s_Beyond_shows, defScope s_Beyond_shows, [], []⟩
def d_Twice___init__ : He.DefD := ⟨("Twice", some "__init__"), "__init__", "Twice.__init__", defArgs s_Twice___init__, defBody s_Twice___init__, defScope s_Twice___init__, [], []⟩
def d_Twice_shows : He.DefD := ⟨("Twice", some "shows"), "shows", "Twice.shows", defArgs s_Twice_shows, defBody s_Twice_shows, defScope s_Twice_shows, [], []⟩
def d_Bare___init__ : He.DefD := ⟨("Bare", some "__init__"), "__init__", "Bare.__init__", defArgs s_Bare___init__, defBody s_Bare___init__, defScope s_Bare___init__, [], []⟩
def d_Bare_shows : He.DefD := ⟨("Bare", some "shows"), "shows", "Bare.shows", defArgs s_Bare_shows, defBody s_Bare_shows, defScope s_Bare_shows, [], []⟩
def d_told : He.DefD := ⟨("told", none), "told", "told", defArgs s_told, defBody s_told, defScope s_told, [], []⟩
def d__law_number : He.DefD := ⟨("_law_number", none), "_law_number", "_law_number", defArgs s__law_number, defBody s__law_number, defScope s__law_number, [], []⟩
def d__law_four : He.DefD := ⟨("_law_four", none), "_law_four", "_law_four", defArgs s__law_four, defBody s__law_four, defScope s__law_four, [], []⟩
def d__law_whole : He.DefD := ⟨("_law_whole", none), "_law_whole", "_law_whole", defArgs s__law_whole, defBody s__law_whole, defScope s__law_whole, [], []⟩
def d__law_common : He.DefD := ⟨("_law_common", none), "_law_common", "_law_common", defArgs s__law_common, defBody s__law_common, defScope s__law_common, [], []⟩
def d__law_few : He.DefD := ⟨("_law_few", none), "_law_few", "_law_few", defArgs s__law_few, defBody s__law_few, defScope s__law_few, [], []⟩
def d__law_bars : He.DefD := ⟨("_law_bars", none), "_law_bars", "_law_bars", defArgs s__law_bars, defBody s__law_bars, defScope s__law_bars, [], []⟩
def d__law_due : He.DefD := ⟨("_law_due", none), "_law_due", "_law_due", defArgs s__law_due, defBody s__law_due, defScope s__law_due, [], []⟩
def d__law_right : He.DefD := ⟨("_law_right", none), "_law_right", "_law_right", defArgs s__law_right, defBody s__law_right, defScope s__law_right, [], []⟩
def d_law : He.DefD := ⟨("law", none), "law", "law", defArgs s_law, defBody s_law, defScope s_law, [], []⟩
def fns : List He.DefD := [d_is_number, d_check_sizes, d_shared, d_parts_of, d_is_striped, d_what_bars, d_Laid_shows, d_Striped___init__, d_Striped_shows, d_Short___init__, d_Short_shows, d_cells_of, d_is_beyond, d_covers, d_is_cell, d_often, d_Full_shows, d_Beyond___init__, d_Beyond_shows, d_Twice___init__, d_Twice_shows, d_Bare___init__, d_Bare_shows, d_told, d__law_number, d__law_four, d__law_whole, d__law_common, d__law_few, d__law_bars, d__law_due, d__law_right, d_law]
def fas : List He.Fa := [.glo "is_number", .glo "check_sizes", .glo "shared", .glo "parts_of", .glo "is_striped", .glo "what_bars", .glo "cells_of", .glo "is_beyond", .glo "covers", .glo "is_cell", .glo "often", .glo "told", .glo "_law_number", .glo "_law_four", .glo "_law_whole", .glo "_law_common", .glo "_law_few", .glo "_law_bars", .glo "_law_due", .glo "_law_right", .glo "law", .free "any", .free "bool", .free "enumerate", .free "int", .free "isinstance", .free "len", .free "max", .free "min", .free "range", .free "sum", .free "tuple"]
def loose0 : List PySem.Str := ["FloorError", "BadSize", "is_number", "check_sizes", "shared", "parts_of", "Answer", "is_striped", "what_bars", "Laid", "Striped", "Short", "cells_of", "is_beyond", "covers", "is_cell", "often", "Full", "Beyond", "Twice", "Bare", "told", "_law_number", "_law_four", "_law_whole", "_law_common", "_law_few", "_law_bars", "_law_due", "_law_right"]
def looseN : List PySem.Str := loose0
def tfs : List He.Defn := []
abbrev R : PySem.W.OpenRow := PySem.W.OpenLaw.row PySem.Challenge.rw_brickfloor_k01_whole_told
abbrev hk : PySem.W.Hook := He.hookX 7 fas fns [] tfs exB
def ob (s : PySem.W.SharedT) : He.AlX := He.obsX 7 fas fns [] tfs exB (HandSHeadRun.getT s)
theorem ob_eq (s : PySem.W.SharedT) : ob s = hk.obs s.abs := He.obsX_eq (HandSHeadRun.getT_eq s)
theorem run (w : World) : HandSHeadRun.RunEq R (PySem.W.view R.prog [35]) hk ob 4000 looseN w := by
  intro os
  kernel_rfl
abbrev Says (w : World) (h : Heap) (K : PySem.W.Frag) : Prop := He.SaysX fas fns [] tfs exB w h K
section
variable {w : World} {K : PySem.W.Frag} {h : Heap} {mg : Str → Option Value}
theorem pl_is_number (X : K.In h) (G : h.Ns mainGlobals mg) (c : Says w h K) : Pl K mg "is_number" s_is_number := by
  obtain ⟨fd, F⟩ := c.t.d.def_ 0 (d := d_is_number) rfl
  exact ⟨_, fd, F, He.glo_ok X G (c.t.d.fact 0 (f := .glo "is_number") rfl)⟩
theorem pl_check_sizes (X : K.In h) (G : h.Ns mainGlobals mg) (c : Says w h K) : Pl K mg "check_sizes" s_check_sizes := by
  obtain ⟨fd, F⟩ := c.t.d.def_ 1 (d := d_check_sizes) rfl
  exact ⟨_, fd, F, He.glo_ok X G (c.t.d.fact 1 (f := .glo "check_sizes") rfl)⟩
theorem pl_shared (X : K.In h) (G : h.Ns mainGlobals mg) (c : Says w h K) : Pl K mg "shared" s_shared := by
  obtain ⟨fd, F⟩ := c.t.d.def_ 2 (d := d_shared) rfl
  exact ⟨_, fd, F, He.glo_ok X G (c.t.d.fact 2 (f := .glo "shared") rfl)⟩
theorem pl_parts_of (X : K.In h) (G : h.Ns mainGlobals mg) (c : Says w h K) : Pl K mg "parts_of" s_parts_of := by
  obtain ⟨fd, F⟩ := c.t.d.def_ 3 (d := d_parts_of) rfl
  exact ⟨_, fd, F, He.glo_ok X G (c.t.d.fact 3 (f := .glo "parts_of") rfl)⟩
theorem pl_is_striped (X : K.In h) (G : h.Ns mainGlobals mg) (c : Says w h K) : Pl K mg "is_striped" s_is_striped := by
  obtain ⟨fd, F⟩ := c.t.d.def_ 4 (d := d_is_striped) rfl
  exact ⟨_, fd, F, He.glo_ok X G (c.t.d.fact 4 (f := .glo "is_striped") rfl)⟩
theorem pl_what_bars (X : K.In h) (G : h.Ns mainGlobals mg) (c : Says w h K) : Pl K mg "what_bars" s_what_bars := by
  obtain ⟨fd, F⟩ := c.t.d.def_ 5 (d := d_what_bars) rfl
  exact ⟨_, fd, F, He.glo_ok X G (c.t.d.fact 5 (f := .glo "what_bars") rfl)⟩
theorem pl_cells_of (X : K.In h) (G : h.Ns mainGlobals mg) (c : Says w h K) : Pl K mg "cells_of" s_cells_of := by
  obtain ⟨fd, F⟩ := c.t.d.def_ 11 (d := d_cells_of) rfl
  exact ⟨_, fd, F, He.glo_ok X G (c.t.d.fact 6 (f := .glo "cells_of") rfl)⟩
theorem pl_is_beyond (X : K.In h) (G : h.Ns mainGlobals mg) (c : Says w h K) : Pl K mg "is_beyond" s_is_beyond := by
  obtain ⟨fd, F⟩ := c.t.d.def_ 12 (d := d_is_beyond) rfl
  exact ⟨_, fd, F, He.glo_ok X G (c.t.d.fact 7 (f := .glo "is_beyond") rfl)⟩
theorem pl_covers (X : K.In h) (G : h.Ns mainGlobals mg) (c : Says w h K) : Pl K mg "covers" s_covers := by
  obtain ⟨fd, F⟩ := c.t.d.def_ 13 (d := d_covers) rfl
  exact ⟨_, fd, F, He.glo_ok X G (c.t.d.fact 8 (f := .glo "covers") rfl)⟩
theorem pl_is_cell (X : K.In h) (G : h.Ns mainGlobals mg) (c : Says w h K) : Pl K mg "is_cell" s_is_cell := by
  obtain ⟨fd, F⟩ := c.t.d.def_ 14 (d := d_is_cell) rfl
  exact ⟨_, fd, F, He.glo_ok X G (c.t.d.fact 9 (f := .glo "is_cell") rfl)⟩
theorem pl_often (X : K.In h) (G : h.Ns mainGlobals mg) (c : Says w h K) : Pl K mg "often" s_often := by
  obtain ⟨fd, F⟩ := c.t.d.def_ 15 (d := d_often) rfl
  exact ⟨_, fd, F, He.glo_ok X G (c.t.d.fact 10 (f := .glo "often") rfl)⟩
theorem pl_told (X : K.In h) (G : h.Ns mainGlobals mg) (c : Says w h K) : Pl K mg "told" s_told := by
  obtain ⟨fd, F⟩ := c.t.d.def_ 23 (d := d_told) rfl
  exact ⟨_, fd, F, He.glo_ok X G (c.t.d.fact 11 (f := .glo "told") rfl)⟩
theorem pl__law_number (X : K.In h) (G : h.Ns mainGlobals mg) (c : Says w h K) : Pl K mg "_law_number" s__law_number := by
  obtain ⟨fd, F⟩ := c.t.d.def_ 24 (d := d__law_number) rfl
  exact ⟨_, fd, F, He.glo_ok X G (c.t.d.fact 12 (f := .glo "_law_number") rfl)⟩
theorem pl__law_four (X : K.In h) (G : h.Ns mainGlobals mg) (c : Says w h K) : Pl K mg "_law_four" s__law_four := by
  obtain ⟨fd, F⟩ := c.t.d.def_ 25 (d := d__law_four) rfl
  exact ⟨_, fd, F, He.glo_ok X G (c.t.d.fact 13 (f := .glo "_law_four") rfl)⟩
theorem pl__law_whole (X : K.In h) (G : h.Ns mainGlobals mg) (c : Says w h K) : Pl K mg "_law_whole" s__law_whole := by
  obtain ⟨fd, F⟩ := c.t.d.def_ 26 (d := d__law_whole) rfl
  exact ⟨_, fd, F, He.glo_ok X G (c.t.d.fact 14 (f := .glo "_law_whole") rfl)⟩
theorem pl__law_common (X : K.In h) (G : h.Ns mainGlobals mg) (c : Says w h K) : Pl K mg "_law_common" s__law_common := by
  obtain ⟨fd, F⟩ := c.t.d.def_ 27 (d := d__law_common) rfl
  exact ⟨_, fd, F, He.glo_ok X G (c.t.d.fact 15 (f := .glo "_law_common") rfl)⟩
theorem pl__law_few (X : K.In h) (G : h.Ns mainGlobals mg) (c : Says w h K) : Pl K mg "_law_few" s__law_few := by
  obtain ⟨fd, F⟩ := c.t.d.def_ 28 (d := d__law_few) rfl
  exact ⟨_, fd, F, He.glo_ok X G (c.t.d.fact 16 (f := .glo "_law_few") rfl)⟩
theorem pl__law_bars (X : K.In h) (G : h.Ns mainGlobals mg) (c : Says w h K) : Pl K mg "_law_bars" s__law_bars := by
  obtain ⟨fd, F⟩ := c.t.d.def_ 29 (d := d__law_bars) rfl
  exact ⟨_, fd, F, He.glo_ok X G (c.t.d.fact 17 (f := .glo "_law_bars") rfl)⟩
theorem pl__law_due (X : K.In h) (G : h.Ns mainGlobals mg) (c : Says w h K) : Pl K mg "_law_due" s__law_due := by
  obtain ⟨fd, F⟩ := c.t.d.def_ 30 (d := d__law_due) rfl
  exact ⟨_, fd, F, He.glo_ok X G (c.t.d.fact 18 (f := .glo "_law_due") rfl)⟩
theorem pl__law_right (X : K.In h) (G : h.Ns mainGlobals mg) (c : Says w h K) : Pl K mg "_law_right" s__law_right := by
  obtain ⟨fd, F⟩ := c.t.d.def_ 31 (d := d__law_right) rfl
  exact ⟨_, fd, F, He.glo_ok X G (c.t.d.fact 19 (f := .glo "_law_right") rfl)⟩
theorem pl_law (X : K.In h) (G : h.Ns mainGlobals mg) (c : Says w h K) : Pl K mg "law" s_law := by
  obtain ⟨fd, F⟩ := c.t.d.def_ 32 (d := d_law) rfl
  exact ⟨_, fd, F, He.glo_ok X G (c.t.d.fact 20 (f := .glo "law") rfl)⟩
theorem plm_Laid_shows (c : Says w h K) : PlM K .laid "shows" "Laid.shows" s_Laid_shows := by
  obtain ⟨fd, F⟩ := c.t.d.def_ 6 (d := d_Laid_shows) rfl
  exact ⟨_, fd, F, exB_shows c.more (by decide) (by decide)⟩
theorem plm_Striped___init__ (c : Says w h K) : PlM K .striped "__init__" "Striped.__init__" s_Striped___init__ := by
  obtain ⟨fd, F⟩ := c.t.d.def_ 7 (d := d_Striped___init__) rfl
  exact ⟨_, fd, F, (exB_one c.more (by decide) (by decide)).2⟩
theorem plm_Striped_shows (c : Says w h K) : PlM K .striped "shows" "Striped.shows" s_Striped_shows := by
  obtain ⟨fd, F⟩ := c.t.d.def_ 8 (d := d_Striped_shows) rfl
  exact ⟨_, fd, F, exB_shows c.more (by decide) (by decide)⟩
theorem plm_Short___init__ (c : Says w h K) : PlM K .short "__init__" "Short.__init__" s_Short___init__ := by
  obtain ⟨fd, F⟩ := c.t.d.def_ 9 (d := d_Short___init__) rfl
  exact ⟨_, fd, F, (exB_one c.more (by decide) (by decide)).2⟩
theorem plm_Short_shows (c : Says w h K) : PlM K .short "shows" "Short.shows" s_Short_shows := by
  obtain ⟨fd, F⟩ := c.t.d.def_ 10 (d := d_Short_shows) rfl
  exact ⟨_, fd, F, exB_shows c.more (by decide) (by decide)⟩
theorem plm_Full_shows (c : Says w h K) : PlM K .full "shows" "Full.shows" s_Full_shows := by
  obtain ⟨fd, F⟩ := c.t.d.def_ 16 (d := d_Full_shows) rfl
  exact ⟨_, fd, F, exB_shows c.more (by decide) (by decide)⟩
theorem plm_Beyond___init__ (c : Says w h K) : PlM K .beyond "__init__" "Beyond.__init__" s_Beyond___init__ := by
  obtain ⟨fd, F⟩ := c.t.d.def_ 17 (d := d_Beyond___init__) rfl
  exact ⟨_, fd, F, (exB_one c.more (by decide) (by decide)).2⟩
theorem plm_Beyond_shows (c : Says w h K) : PlM K .beyond "shows" "Beyond.shows" s_Beyond_shows := by
  obtain ⟨fd, F⟩ := c.t.d.def_ 18 (d := d_Beyond_shows) rfl
  exact ⟨_, fd, F, exB_shows c.more (by decide) (by decide)⟩
theorem plm_Twice___init__ (c : Says w h K) : PlM K .twice "__init__" "Twice.__init__" s_Twice___init__ := by
  obtain ⟨fd, F⟩ := c.t.d.def_ 19 (d := d_Twice___init__) rfl
  exact ⟨_, fd, F, (exB_one c.more (by decide) (by decide)).2⟩
theorem plm_Twice_shows (c : Says w h K) : PlM K .twice "shows" "Twice.shows" s_Twice_shows := by
  obtain ⟨fd, F⟩ := c.t.d.def_ 20 (d := d_Twice_shows) rfl
  exact ⟨_, fd, F, exB_shows c.more (by decide) (by decide)⟩
theorem plm_Bare___init__ (c : Says w h K) : PlM K .bare "__init__" "Bare.__init__" s_Bare___init__ := by
  obtain ⟨fd, F⟩ := c.t.d.def_ 21 (d := d_Bare___init__) rfl
  exact ⟨_, fd, F, (exB_one c.more (by decide) (by decide)).2⟩
theorem plm_Bare_shows (c : Says w h K) : PlM K .bare "shows" "Bare.shows" s_Bare_shows := by
  obtain ⟨fd, F⟩ := c.t.d.def_ 22 (d := d_Bare_shows) rfl
  exact ⟨_, fd, F, exB_shows c.more (by decide) (by decide)⟩
theorem bi_ok (X : K.In h) (G : h.Ns mainGlobals mg) (c : Says w h K) : Bi mg := ⟨He.free_ok X G (c.t.d.fact 21 (f := .free "any") rfl), He.free_ok X G (c.t.d.fact 22 (f := .free "bool") rfl), He.free_ok X G (c.t.d.fact 23 (f := .free "enumerate") rfl), He.free_ok X G (c.t.d.fact 24 (f := .free "int") rfl), He.free_ok X G (c.t.d.fact 25 (f := .free "isinstance") rfl), He.free_ok X G (c.t.d.fact 26 (f := .free "len") rfl), He.free_ok X G (c.t.d.fact 27 (f := .free "max") rfl), He.free_ok X G (c.t.d.fact 28 (f := .free "min") rfl), He.free_ok X G (c.t.d.fact 29 (f := .free "range") rfl), He.free_ok X G (c.t.d.fact 30 (f := .free "sum") rfl), He.free_ok X G (c.t.d.fact 31 (f := .free "tuple") rfl)⟩
end
end BF

namespace BF
open PySem PySem.Spec PyProof.Rows L2
theorem ci_ok {w : World} {K : PySem.W.Frag} {h : Heap} {mg : Str → Option Value} {P : Program} {base : Heap} (X : K.In h) (G : h.Ns mainGlobals mg) (c : Says w h K) (GC : ClG K mg) : ClI P w K mg base := by
  refine ⟨fun x hx h1 => (exB_one c.more hx (by cases x <;> first | rfl | exact h1.elim)).1, fun x hx h1 => ?_, fun x hx h0 => exB_zero c.more hx (by rcases h0 with rfl | rfl <;> rfl)⟩
  cases x with
  | striped => exact H_Striped___init__ (plm_Striped___init__ c) GC
  | short => exact H_Short___init__ (plm_Short___init__ c) GC
  | beyond => exact H_Beyond___init__ (plm_Beyond___init__ c) GC
  | twice => exact H_Twice___init__ (plm_Twice___init__ c) GC
  | bare => exact H_Bare___init__ (plm_Bare___init__ c) GC
  | _ => exact h1.elim
end BF

namespace BF
open PySem PySem.Spec PyProof.Rows L2
def lawLevel : Nat := 6
section
variable {w : World} {K : PySem.W.Frag} {h : Heap} {mg : Str → Option Value} {P : Program} {base : Heap}
theorem has_law (X : K.In h) (G : h.Ns mainGlobals mg) (c : Says w h K) : Has P w K mg base CX0 6 "law" ["_law_script"] (SpLaw K) := by
  have B := bi_ok X G c
  have GC := clB_ok X G (exB_cl c.more)
  have CI := ci_ok (P := P) (base := base) X G c GC
  have h1 := H_is_number (P := P) (w := w) (base := base) (pl_is_number X G c) B
  have h2 := H_check_sizes (pl_check_sizes X G c) h1
  have h3 := H_shared (P := P) (w := w) (base := base) (pl_shared X G c)
  have h4 := H_parts_of (pl_parts_of X G c) h3
  have h5 := H_is_striped (P := P) (w := w) (base := base) (pl_is_striped X G c)
  have h6 := H_what_bars (pl_what_bars X G c) B h5 h4
  have h7 := H_shows4 GC (plm_Laid_shows c) (plm_Striped_shows c) (plm_Short_shows c) h6 h5 h4
  have h8 := H_told (pl_told X G c) GC CI h2 h6
  have l1 := H__law_number (P := P) (w := w) (base := base) (pl__law_number X G c)
  have l2 := H__law_whole (P := P) (w := w) (base := base) (pl__law_whole X G c) B
  have l3 := H__law_common (P := P) (w := w) (base := base) (pl__law_common X G c)
  have l4 := H__law_few (pl__law_few X G c) l3
  have l5 := H__law_four (pl__law_four X G c) B l1
  have l6 := H__law_bars (pl__law_bars X G c) l4
  have l7 := H__law_due (pl__law_due X G c) B GC l6
  have l8 := H__law_right (pl__law_right X G c) B GC l6 h8 l2 l7 h7
  exact H_law (pl_law X G c) B GC l5 l8 h8
theorem law_at {f : Addr} (X : K.In h) (G : h.Ns mainGlobals mg) (c : Says w h K) (g : mg ("law" : Str) = some (.ref f)) : LamX.LawAtS PySem.Challenge.rw_brickfloor_k01_whole_told w K CX0 lawLevel 63 "_law_script" mg f h := by
  obtain ⟨f', fd, F, g'⟩ := pl_law X G c
  have e := g.symm.trans g'
  cases e
  refine ⟨fd, [], SpLaw K, (fun _ z => nomatch z), (fun _ z => nomatch z), (fun _ z => nomatch z), fun s u => FunD.bindsA (ps := ["_law_script"]) F (fun _ _ _ _ _ _ us hl => match us, hl with | [_], _ => rfl) s [u] rfl, fun H a ns hl hb _ hS => .mk hl hb hS fun _ => rfl, fun base hK hG _ => (has_law X G c).at F g'⟩
end
end BF

open PySem PySem.W PySem.Calls PyProof.Rows
set_option maxRecDepth 100000 in
set_option maxHeartbeats 8000000 in
theorem PySem.Challenge.cw_brickfloor_k01_whole_told_holds : PySem.Challenge.rw_brickfloor_k01_whole_told.Holds := by
  w_on; o_law
  refine HandSHeadRun.head_any (r := OpenLaw.row PySem.Challenge.rw_brickfloor_k01_whole_told) (q := view (OpenLaw.row PySem.Challenge.rw_brickfloor_k01_whole_told).prog [35]) (H := BF.hk) (ob := BF.ob) (loose := BF.looseN) (d := HandSHeadRun.topDef (OpenLaw.row PySem.Challenge.rw_brickfloor_k01_whole_told).prog 35) (kwd := []) BF.ob_eq
    (by kernel_rfl) (fun s => by kernel_rfl) BF.run (by kernel_rfl) (by kernel_rfl) (by kernel_rfl) (by rfl) (by first | assumption | decide +kernel) (by decide +kernel) ⟨rfl, rfl, rfl, rfl, rfl, by decide +kernel⟩ ?hw ?hc
  case hw => w_witness2
  case hc =>
    refine LamX.walk_ofTsE (l := PySem.Challenge.rw_brickfloor_k01_whole_told) (n := 63) (k := BF.lawLevel) (x := "_law_script") (CX := fun _ => L2.CX0) rfl (by decide) (by kernel_rfl) ⟨rfl, by decide, by decide⟩ ?F (fun _ _ _ _ _ z => z)
    intro w mg fa h Y G hmg0
    obtain ⟨K, KX, c⟩ := Y
    have hmg : mg ("law" : PySem.Str) = some (.ref fa) := by
      have e : (HandSHeadRun.topDef (OpenLaw.row PySem.Challenge.rw_brickfloor_k01_whole_told).prog 35).name = ("law" : PySem.Str) := by kernel_rfl
      rw [← e]
      exact hmg0
    exact ⟨K, KX, BF.law_at KX G c hmg⟩
