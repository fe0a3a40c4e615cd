import PyProof.Rows.All
import Wide.All
import OpenK.AllK
import Wide.FinOn
import KE.KStateDown
import HandS.ForMost
import HandS.ForExc
import HandS.More
import HandS.Wide
import HandS.WideBits
import HandS.Style
import HandS.Flow
import HandS.IsInst
import HandS.Defaults
import HandS.Head0
import HandS.Head1
import HandS.Head2
import HandS.HeadEnd
import HandS.HeadHook1
import HandS.HeadHook2
import HandS.HeadHook3
import HandS.HeadHook4
import HandS.HeadWalk
import HandS.Evl
import KE.DataMinMax
import PySem.Challenge.RW_brickfloor_k03_whole_sums
set_option Elab.async false
set_option linter.all false
set_option maxRecDepth 100000
set_option maxHeartbeats 4000000
/-! ### a def of the top, where it stands, and its promise -/
namespace BF
open PySem PySem.Spec PyProof.Rows L2
abbrev FnP (K : PySem.W.Frag) (x q : Str) (st : Stmt) (f : Addr) (fd : FuncData) : Prop := FunD K x q (defArgs st) (defBody st) (defScope st) [] [] f fd
/-- the def x of the top stands where the module's name says -/
def Pl (K : PySem.W.Frag) (mg : Str → Option Value) (x : Str) (st : Stmt) : Prop := ∃ f fd, FnP K x x st f fd ∧ mg x = some (.ref f)
/-- the def x keeps its promise, by calls at most k deep -/
def Has (P : Program) (w : World) (K : PySem.W.Frag) (mg : Str → Option Value) (base : Heap) (C : CXT) (k : Nat) (x : Str) (ps : List Str) (sp : Sp) : Prop :=
  ∃ f fd, FnOk P w K mg base C k f fd ps sp ∧ mg x = some (.ref f) ∧ PySem.W.keepIn K (.ref f) = true ∧ Binds K fd ps [] ∧ ∃ oc od osl, K.lookup f = some ⟨oc, od, .func fd, osl⟩
section
variable {P : Program} {w : World} {K : PySem.W.Frag} {mg : Str → Option Value} {base : Heap} {x : Str} {st : Stmt} {N ps : List Str} {k : Nat} {sp : Sp}
theorem Pl.mkX {C : CXT} (p : Pl K mg x st) (S : FnScope N ps (defScope st))
    (hb : ∀ (kV doc pm : Value) (an : Option Addr) (cdv ct : Value) (us : List Value), us.length = ps.length → bindArgs (PySem.W.fnOf x x (defArgs st) (defBody st) (defScope st) .none kV doc pm an cdv ct) ⟨us, []⟩ = pure (ps.zip us))
    (len : ∀ vs H Q E, sp vs H Q E → vs.length = ps.length)
    (body : ∀ (f : Addr) (cdv : Value) (A : Around) (outer : List Env) (s : Shared) (H : Hp) (vs : List V) (Q : VK) (E : XK), Room k (A.deeper (envOfC x (defScope st) s.heap.objs.size f cdv)) → sp vs H Q E →
      ∃ t, PSs (cxOf C P w K mg base N x (defScope st) f cdv A outer s H E) (defBody st) t ∧ t { nx := fun _ H' => Q .non H', rt := Q } (start N vs) H) : Has P w K mg base C (k + 1) x ps sp := by
  obtain ⟨f, fd, F, g⟩ := p
  obtain ⟨oc, od, _, _, _, _, _, _, _, osl, _, lk, _⟩ := F.ex
  exact ⟨f, fd, F.ok S len (body f), g, F.kp, F.bindsN hb, oc, od, osl, lk⟩
/-- of the def at f (the law) -/
theorem Has.at {C : CXT} {f : Addr} {fd : FuncData} (h : Has P w K mg base C k x ps sp) (F : FnP K x x st f fd) (g : mg x = some (.ref f)) : FnOk P w K mg base C k f fd ps sp := by
  obtain ⟨f', fd', G, g', _, _, oc, od, osl, lk⟩ := h
  obtain ⟨oc2, od2, _, _, _, _, _, _, _, osl2, _, lk2, _⟩ := F.ex
  have e : f' = f := by
    have z := g'.symm.trans g
    cases z
    rfl
  subst e
  have z := lk.symm.trans lk2
  cases z
  exact G
theorem Pl.mk0 (p : Pl K mg x st) (S : FnScope N ps (defScope st))
    (hb : ∀ (kV doc pm : Value) (an : Option Addr) (cdv ct : Value) (us : List Value), us.length = ps.length → bindArgs (PySem.W.fnOf x x (defArgs st) (defBody st) (defScope st) .none kV doc pm an cdv ct) ⟨us, []⟩ = pure (ps.zip us))
    (len : ∀ vs H Q E, sp vs H Q E → vs.length = ps.length)
    (body : ∀ (f : Addr) (cdv : Value) (A : Around) (outer : List Env) (s : Shared) (H : Hp) (vs : List V) (Q : VK) (E : XK), Room k (A.deeper (envOfC x (defScope st) s.heap.objs.size f cdv)) → sp vs H Q E →
      ∃ t, PSs (cxOf CX0 P w K mg base N x (defScope st) f cdv A outer s H E).nox (defBody st) t ∧ t { nx := fun _ H' => Q .non H', rt := Q } (start N vs) H) : Has P w K mg base CX0 (k + 1) x ps sp :=
  p.mkX S hb len fun f cdv A outer s H vs Q E hr h => by
    obtain ⟨t, a, b⟩ := body f cdv A outer s H vs Q E hr h
    exact ⟨t, a.nox, b⟩
end
section
variable {X : Cx} {C : CXT} {k : Nat} {ps : List Str} {sp : Sp} {E : XK} {x : Str} {p pos : Pos} {e : Expr} {es : List Expr} {t : TA}
theorem pe_fn (h : Has X.prog X.w X.K X.mg X.base C k x ps sp) (hr : Room k X.A) (hx : Passes C X E) (ha : PA X (e :: es) t) (hg : Gl X x := by rfl) (hdb : (x == ("__debug__" : Str)) = false := by decide)
    (he : starEach (e :: es) X.env = (false, eval e X.env) :: starEach es X.env := by rfl) (hpl : (backTo pos (starEach es X.env)).any (·.1) = false := by rfl) : PE X (.Call (.Name x p) (e :: es) [] pos) (tCall sp [] E t) := by
  obtain ⟨f, fd, F, hm, hk, hb, _⟩ := h
  exact pe_call F hr hg hm hk hb .nil hx ha hdb he hpl
theorem pe_fn0 (h : Has X.prog X.w X.K X.mg X.base C k x ps sp) (hr : Room k X.A) (hx : Passes C X E) (hg : Gl X x := by rfl) (hdb : (x == ("__debug__" : Str)) = false := by decide) : PE X (.Call (.Name x p) [] [] pos) (tCall sp [] E tNil) := by
  obtain ⟨f, fd, F, hm, hk, hb, _⟩ := h
  exact pe_call0 F hr hg hm hk hb .nil hx hdb
end
/-! ### sizes of ints -/
/-- of less than n bits -/
structure Bn (n : Nat) (x : Int) : Prop where
  lt : x.natAbs < 2 ^ n
theorem Bn.mono {n m : Nat} {x : Int} (h : Bn n x) (l : n ≤ m) : Bn m x := ⟨Nat.lt_of_lt_of_le h.lt (Nat.pow_le_pow_right (by decide) l)⟩
theorem bnl {n : Nat} {x : Int} (h : x.natAbs < 2 ^ n) : Bn n x := ⟨h⟩
theorem bn0 {n : Nat} : Bn n 0 := ⟨Nat.two_pow_pos _⟩
theorem Bn.mul {n m : Nat} {x y : Int} (h : Bn n x) (k : Bn m y) : Bn (n + m) (x * y) := ⟨wide_lt h.lt k.lt⟩
theorem Bn.add {n m : Nat} {x y : Int} (h : Bn n x) (k : Bn m y) : Bn (n + m + 1) (x + y) := by
  have h1 : x.natAbs < 2 ^ n := h.lt
  have h2 : y.natAbs < 2 ^ m := k.lt
  have a : 2 ^ n ≤ 2 ^ (n + m) := Nat.pow_le_pow_right (by decide) (by omega)
  have b : 2 ^ m ≤ 2 ^ (n + m) := Nat.pow_le_pow_right (by decide) (by omega)
  have c : 2 ^ (n + m + 1) = 2 ^ (n + m) * 2 := Nat.pow_succ 2 (n + m)
  have d := Int.natAbs_add_le x y
  refine ⟨?_⟩
  omega
theorem Bn.le {n : Nat} {x y : Int} (h : Bn n y) (l : x.natAbs ≤ y.natAbs) : Bn n x := ⟨Nat.lt_of_le_of_lt l h.lt⟩
theorem Bn.of_le {n : Nat} {x y : Int} (h : Bn n y) (h0 : 0 ≤ x) (l : x ≤ y) : Bn n x := h.le (by omega)
theorem Bn.neg {n : Nat} {x : Int} (h : Bn n x) : Bn n (-x) := h.le (by omega)
theorem Bn.sub {n m : Nat} {x y : Int} (h : Bn n x) (k : Bn m y) : Bn (n + m + 1) (x - y) := by
  rw [Int.sub_eq_add_neg]
  exact h.add k.neg
theorem Bn.mulOk {n m : Nat} {x y : Int} (h : Bn n x) (k : Bn m y) (l : n + m ≤ 134217728) : CMulX x y := mulx_ok h.lt k.lt l
theorem Bn.divOk {n : Nat} {x y : Int} (k : Bn n y) (p : 0 < y) (h0 : 0 < n) (l : n ≤ 9000) : CDivW x y := wide_div p k.lt h0 l
theorem divOk_lit {x : Int} {y : Int} (p : 0 < y) (l : y < 4294967296) : CDivW x y := wide_div (b := 32) p (by omega) (by decide) (by decide)
theorem Bn.div {n : Nat} {x y : Int} (h : Bn n x) (p : 0 < y) : Bn n (x / y) := by
  refine h.le ?_
  have a := Int.emod_add_mul_ediv x y
  have b := Int.emod_nonneg x (Int.ne_of_gt p)
  have c := Int.emod_lt_of_pos x p
  rcases Int.lt_or_le x 0 with hx | hx
  · -- x < 0: x / y ≥ x
    have d : x / y < 0 := Int.ediv_neg_of_neg_of_pos hx p
    have e : y * (x / y) ≤ 1 * (x / y) := Int.mul_le_mul_of_nonpos_right (by omega) (by omega)
    rcases Int.lt_or_le (x / y) x with f | f
    · have q1 : y * (x / y) ≤ y * (x - 1) := Int.mul_le_mul_of_nonneg_left (by omega) (by omega)
      have q2 : y * (x - 1) = y * x - y := by rw [Int.mul_sub, Int.mul_one]
      have q3 : y * x ≤ 1 * x := Int.mul_le_mul_of_nonpos_right (by omega) (by omega)
      omega
    · omega
  · have d : 0 ≤ x / y := Int.ediv_nonneg hx (Int.le_of_lt p)
    have e : 1 * (x / y) ≤ y * (x / y) := Int.mul_le_mul_of_nonneg_right (by omega) d
    omega
theorem Bn.mod {n : Nat} {x y : Int} (h : Bn n y) (p : 0 < y) : Bn n (x % y) := h.of_le (Int.emod_nonneg x (Int.ne_of_gt p)) (Int.le_of_lt (Int.emod_lt_of_pos x p))
theorem bn_bits {n : Nat} {x : Int} (h : Builtin.Int.intBits x ≤ n) : Bn (n + 1) x := by
  unfold Builtin.Int.intBits at h
  refine ⟨?_⟩
  split at h
  · rename_i z
    have e : x = 0 := by simpa using z
    rw [e]
    exact Nat.two_pow_pos _
  · have a : x.natAbs < 2 ^ (x.natAbs.log2 + 1) := Nat.lt_log2_self
    exact Nat.lt_of_lt_of_le a (Nat.pow_le_pow_right (by decide) (by omega))
theorem mulOk_left {x y : Int} (h : x.natAbs < 4294967296) (k : Bn 100000000 y) : CMulX x y := mulx_ok (a := 32) h k.lt (by decide)
/-- a size of the program: from 1 on, of less than 2000 bits -/
structure Sz (x : Int) : Prop where
  pos : 0 < x
  bn : Bn 2000 x
/-! ### heaps that grow -/
theorem same_upd {H : Hp} {p : Addr} {o : HO} (h : H p = none) : Same H (upd H p o) := fun b x e => by
  rw [upd_ne (ne_of_none e h)]
  exact e
theorem Same.tup {K : PySem.W.Frag} {H H' : Hp} {a : Addr} {xs : List V} (e : Same H H') (h : SqT K H a xs) : SqT K H' a xs := by
  rcases h with (h | ⟨o, h⟩) | h
  · exact .inl (.inl (e _ _ h))
  · exact .inl (.inr ⟨o, e _ _ h⟩)
  · exact .inr h
theorem sqL {K : PySem.W.Frag} {H : Hp} {a : Addr} {xs : List V} (h : H a = some (.lst xs)) : SqL K H a xs := .inl (.inl h)
theorem sqT {K : PySem.W.Frag} {H : Hp} {a : Addr} {xs : List V} (h : H a = some (.tup xs)) : SqT K H a xs := .inl (.inl h)
/-- the int that a slot holds, as a measure -/
def slotN (σ : L2.St) (i : Nat) : Nat := match σ[i]? with
  | some (some (.int n)) => n.toNat
  | _ => 0
section
variable {A B : Prop} {i j : Int}
theorem iteD {p : Prop} [Decidable p] (h1 : p → A) (h2 : ¬ p → B) : if decide p = true then A else B := ite2 (fun c => h1 (of_decide_eq_true c)) fun c => h2 fun z => c (decide_eq_true z)
theorem iteEq (h1 : i = j → A) (h2 : i ≠ j → B) : if decide (V.int i = V.int j) = true then A else B := iteD (fun c => h1 (V.int.inj c)) fun c => h2 fun z => c (by rw [z])
theorem iteNe (h1 : i ≠ j → A) (h2 : i = j → B) : if (!decide (V.int i = V.int j)) = true then A else B := by
  by_cases c : i = j
  · rw [decide_eq_true (show V.int i = V.int j by rw [c])]
    exact iteF (h2 c)
  · rw [decide_eq_false (show ¬ V.int i = V.int j from fun z => c (V.int.inj z))]
    exact iteT (h1 c)
theorem iteB {b : Bool} (h1 : b = true → A) (h2 : b = false → B) : if b = true then A else B := by
  cases b with
  | true => exact iteT (h1 rfl)
  | false => exact iteF (h2 rfl)
end
theorem size4 {n : Nat} (h : n ≤ 1000000) : n ≤ sizeLine := Nat.le_trans h (by decide)
end BF

/-! Plain mathematics: a size as a sum of two others, the fewest of the first one. -/
namespace BF
/-- m of the first and n of the second make the size -/
def Rep (s a b m n : Int) : Prop := 0 ≤ m ∧ 0 ≤ n ∧ m * a + n * b = s
def IsParts (s a b : Int) : Option (Int × Int) → Prop
  | none => ∀ m n, ¬ Rep s a b m n
  | some x => Rep s a b x.1 x.2 ∧ ∀ m n, Rep s a b m n → x.1 ≤ m
theorem IsParts.unique {s a b : Int} (hb : 0 < b) : ∀ {x y : Option (Int × Int)}, IsParts s a b x → IsParts s a b y → x = y
  | none, none, _, _ => rfl
  | none, some y, h, k => absurd k.1 (h _ _)
  | some x, none, h, k => absurd h.1 (k _ _)
  | some (m, n), some (m', n'), h, k => by
    have h1 := h.2 _ _ k.1
    have h2 := k.2 _ _ h.1
    have e : m = m' := Int.le_antisymm h1 h2
    subst e
    have e1 := h.1.2.2
    have e2 := k.1.2.2
    simp only at e1 e2
    have e3 : n * b = n' * b := by omega
    have e4 : n = n' := Int.eq_of_mul_eq_mul_right (Int.ne_of_gt hb) e3
    rw [e4]
open Classical in
/-- how s is a sum of a and b -/
noncomputable def parts (s a b : Int) : Option (Int × Int) := if h : ∃ x, IsParts s a b x then h.choose else none
theorem parts_eq {s a b : Int} {x : Option (Int × Int)} (hb : 0 < b) (h : IsParts s a b x) : parts s a b = x := by
  unfold parts
  have e : ∃ x, IsParts s a b x := ⟨x, h⟩
  rw [dif_pos e]
  exact IsParts.unique hb e.choose_spec h
/-- g goes into both, t of the first leave it by the second -/
structure Good (a b g t : Int) : Prop where
  pos : 0 < g
  ga : g ∣ a
  gb : g ∣ b
  mod : b ∣ t * a - g
theorem few_core {s a b g t : Int} (ha : 0 < a) (hb : 0 < b) (G : Good a b g t) (hs : g ∣ s) :
    b ∣ s - (s / g * t % (b / g)) * a ∧ 0 ≤ s / g * t % (b / g) ∧ ∀ m, 0 ≤ m → b ∣ s - m * a → s / g * t % (b / g) ≤ m := by
  obtain ⟨hg, ⟨a', ea⟩, ⟨b', eb⟩, ⟨k, ek⟩⟩ := G
  obtain ⟨s', es⟩ := hs
  have hb' : 0 < b' := by
    have h2 : 0 < g * b' := by rw [← eb]; exact hb
    rcases Int.lt_or_le 0 b' with h | h
    · exact h
    · have h3 : g * b' ≤ g * 0 := Int.mul_le_mul_of_nonneg_left h (Int.le_of_lt hg)
      omega
  have e1 : s / g = s' := by rw [es]; exact Int.mul_ediv_cancel_left s' (Int.ne_of_gt hg)
  have e2 : b / g = b' := by rw [eb]; exact Int.mul_ediv_cancel_left b' (Int.ne_of_gt hg)
  rw [e1, e2]
  have hmod := Int.emod_add_mul_ediv (s' * t) b'
  generalize hf : s' * t % b' = f at hmod ⊢
  generalize s' * t / b' = q at hmod
  have h0 : 0 ≤ f := by rw [← hf]; exact Int.emod_nonneg _ (Int.ne_of_gt hb')
  have h1 : f < b' := by rw [← hf]; exact Int.emod_lt_of_pos _ hb'
  have key : b ∣ s - f * a := by
    -- f = s't - b'q, so s - f a = s - s't a + b' q a = s - s'(g + bk) + b'q g a' = b (q a' - s' k)
    refine ⟨q * a' - s' * k, ?_⟩
    have ef : f = s' * t - b' * q := by omega
    have et : t * a = g + b * k := by omega
    calc s - f * a = s - (s' * t - b' * q) * a := by rw [ef]
      _ = s - s' * (t * a) + b' * q * a := by rw [Int.sub_mul, Int.mul_assoc s' t a]; omega
      _ = s - s' * (g + b * k) + b' * q * (g * a') := by rw [et, ← ea]
      _ = b * (q * a' - s' * k) := by
        rw [Int.mul_add, Int.mul_sub, es, eb]
        have x1 : s' * g = g * s' := Int.mul_comm _ _
        have x2 : s' * (g * b' * k) = g * b' * (s' * k) := by
          rw [Int.mul_left_comm]
        have x3 : b' * q * (g * a') = g * b' * (q * a') := by
          rw [Int.mul_comm g b', Int.mul_assoc b' q, Int.mul_assoc b' g, Int.mul_left_comm q g a']
        rw [x1, x2, x3]
        omega
  refine ⟨key, h0, fun m hm hd => ?_⟩
  -- b | (m - f) a, so b | (m - f) g, so b' | m - f
  have d1 : b ∣ (m - f) * a := by
    have : (m - f) * a = (s - f * a) - (s - m * a) := by rw [Int.sub_mul]; omega
    rw [this]
    exact Int.dvd_sub key hd
  have d2 : b ∣ (m - f) * g := by
    have e3 : (m - f) * g = (m - f) * a * t - b * ((m - f) * k) := by
      have et : t * a = g + b * k := by omega
      have : (m - f) * a * t = (m - f) * (t * a) := by rw [Int.mul_assoc, Int.mul_comm a t]
      rw [this, et, Int.mul_add, Int.mul_left_comm (m - f) b k]
      omega
    rw [e3]
    exact Int.dvd_sub (Int.dvd_trans d1 (Int.dvd_mul_right _ _)) (Int.dvd_mul_right _ _)
  have d3 : b' ∣ m - f := by
    obtain ⟨c, ec⟩ := d2
    refine ⟨c, ?_⟩
    have : g * (m - f) = g * (b' * c) := by rw [Int.mul_comm g (m - f), ec, eb, Int.mul_assoc]
    exact Int.eq_of_mul_eq_mul_left (Int.ne_of_gt hg) this
  obtain ⟨c, ec⟩ := d3
  -- m = f + b' c with m ≥ 0, f < b': c ≥ 0
  have hc : 0 ≤ c := by
    rcases Int.lt_or_le c 0 with hc | hc
    · have h2 : b' * c ≤ b' * (-1) := Int.mul_le_mul_of_nonneg_left (by omega) (Int.le_of_lt hb')
      omega
    · exact hc
  have h3 : 0 ≤ b' * c := Int.mul_nonneg (Int.le_of_lt hb') hc
  omega
theorem parts_good {s a b g t : Int} (ha : 0 < a) (hb : 0 < b) (G : Good a b g t) :
    parts s a b = if s % g ≠ 0 then none else if s / g * t % (b / g) * a > s then none else some (s / g * t % (b / g), (s - s / g * t % (b / g) * a) / b) := by
  refine parts_eq hb ?_
  by_cases hs : s % g ≠ 0
  · rw [if_pos hs]
    rintro m n ⟨_, _, e⟩
    refine hs (Int.emod_eq_zero_of_dvd ?_)
    rw [← e]
    exact Int.dvd_add (Int.dvd_trans G.ga (Int.dvd_mul_left _ _)) (Int.dvd_trans G.gb (Int.dvd_mul_left _ _))
  · rw [if_neg hs]
    have hd : g ∣ s := Int.dvd_of_emod_eq_zero (by omega)
    obtain ⟨k1, k2, k3⟩ := few_core ha hb G hd
    generalize s / g * t % (b / g) = f at k1 k2 k3
    have least : ∀ m n, Rep s a b m n → f ≤ m := fun m n ⟨h1, h2, h3⟩ => k3 m h1 ⟨n, by rw [Int.mul_comm b n]; omega⟩
    by_cases hf : f * a > s
    · rw [if_pos hf]
      rintro m n R
      have l := least m n R
      obtain ⟨h1, h2, h3⟩ := R
      have p1 : f * a ≤ m * a := Int.mul_le_mul_of_nonneg_right l (Int.le_of_lt ha)
      have p2 : 0 ≤ n * b := Int.mul_nonneg h2 (Int.le_of_lt hb)
      omega
    · rw [if_neg hf]
      refine ⟨⟨k2, Int.ediv_nonneg (by omega) (Int.le_of_lt hb), ?_⟩, least⟩
      show f * a + (s - f * a) / b * b = s
      rw [Int.ediv_mul_cancel k1]
      omega
/-- the law's number: the fewest of the first, -1 where there is none -/
def fewI : Option (Int × Int) → Int
  | none => -1
  | some x => x.1
theorem parts_some {s a b m n : Int} (hb : 0 < b) (h : parts s a b = some (m, n)) (ex : ∃ x, IsParts s a b x) : IsParts s a b (some (m, n)) := by
  obtain ⟨x, hx⟩ := ex
  have e := parts_eq hb hx
  rw [h] at e
  rw [e]
  exact hx
end BF

/-! ### plain mathematics of the loop in shared -/
namespace BF
structure ShInv (a b one other mine theirs : Int) : Prop where
  o1 : 0 < one
  o2 : 0 ≤ other
  l1 : one ≤ a ∨ one ≤ b
  l2 : other ≤ b
  dv : ∀ d : Int, (d ∣ one ∧ d ∣ other) ↔ (d ∣ a ∧ d ∣ b)
  m1 : b ∣ mine * a - one
  m2 : b ∣ theirs * a - other
  bd : ∃ M T : Int, 0 ≤ M ∧ 0 ≤ T ∧ M ≤ b ∧ T ≤ b ∧ T * one + M * other = b ∧ ((mine = M ∧ theirs = -T) ∨ (mine = -M ∧ theirs = T))
theorem ShInv.start {a b : Int} (ha : 0 < a) (hb : 0 < b) : ShInv a b a b 1 0 where
  o1 := ha
  o2 := Int.le_of_lt hb
  l1 := .inl (Int.le_refl _)
  l2 := Int.le_refl _
  dv := fun d => Iff.rfl
  m1 := by rw [Int.one_mul, Int.sub_self]; exact Int.dvd_zero b
  m2 := by rw [Int.zero_mul, Int.zero_sub]; exact Int.dvd_neg.mpr (Int.dvd_refl b)
  bd := ⟨1, 0, by omega, by omega, by omega, by omega, by omega, .inl ⟨rfl, by omega⟩⟩
theorem ShInv.turn {a b one other mine theirs : Int} (h : ShInv a b one other mine theirs) (ho : 0 < other) :
    ShInv a b other (one - one / other * other) theirs (mine - one / other * theirs) ∧ one - one / other * other < other ∧ 0 ≤ one - one / other * other := by
  obtain ⟨o1, o2, l1, l2, dv, m1, m2, M, T, hM, hT, lM, lT, e, sg⟩ := h
  have hm : one - one / other * other = one % other := by
    have := Int.emod_add_mul_ediv one other
    rw [Int.mul_comm] at this
    omega
  have h0 : 0 ≤ one % other := Int.emod_nonneg _ (Int.ne_of_gt ho)
  have h1 : one % other < other := Int.emod_lt_of_pos _ ho
  have hq : 0 ≤ one / other := Int.ediv_nonneg (Int.le_of_lt o1) o2
  refine ⟨?_, by omega, by omega⟩
  generalize hqq : one / other = q at *
  have key : (M + q * T) * other + T * (one - q * other) = b := by
    have x1 : (M + q * T) * other = M * other + q * T * other := Int.add_mul _ _ _
    have x2 : T * (one - q * other) = T * one - q * T * other := by rw [Int.mul_sub, ← Int.mul_assoc, Int.mul_comm T q]
    omega
  have hqT : 0 ≤ q * T := Int.mul_nonneg hq hT
  have hn : 0 ≤ T * (one - q * other) := Int.mul_nonneg hT (by omega)
  have l3 : M + q * T ≤ b := by
    have : (M + q * T) * 1 ≤ (M + q * T) * other := Int.mul_le_mul_of_nonneg_left (by omega) (by omega)
    omega
  refine ⟨ho, by omega, .inr l2, by omega, fun d => ?_, m2, ?_, T, M + q * T, hT, by omega, lT, l3, key, ?_⟩
  · rw [← dv d]
    constructor
    · rintro ⟨a1, a2⟩
      refine ⟨?_, a1⟩
      have : one = (one - q * other) + q * other := by omega
      rw [this]
      exact Int.dvd_add a2 (Int.dvd_trans a1 (Int.dvd_mul_left _ _))
    · rintro ⟨a1, a2⟩
      exact ⟨a2, Int.dvd_sub a1 (Int.dvd_trans a2 (Int.dvd_mul_left _ _))⟩
  · have : (mine - q * theirs) * a - (one - q * other) = (mine * a - one) - q * (theirs * a - other) := by
      rw [Int.sub_mul, Int.mul_sub, Int.mul_assoc]
      omega
    rw [this]
    exact Int.dvd_sub m1 (Int.dvd_trans m2 (Int.dvd_mul_left _ _))
  · rcases sg with ⟨r1, r2⟩ | ⟨r1, r2⟩
    · right
      subst r1 r2
      refine ⟨rfl, ?_⟩
      rw [Int.mul_neg]
      omega
    · left
      subst r1 r2
      exact ⟨rfl, by omega⟩
theorem ShInv.done {a b one mine theirs : Int} (ha : 0 < a) (hb : 0 < b) (h : ShInv a b one 0 mine theirs) : Good a b one (mine % b) ∧ one ≤ b := by
  have d := (h.dv one).mp ⟨Int.dvd_refl _, Int.dvd_zero _⟩
  refine ⟨⟨h.o1, d.1, d.2, ?_⟩, Int.le_of_dvd hb d.2⟩
  have e : mine % b * a - one = (mine * a - one) - b * (mine / b * a) := by
    have := Int.emod_add_mul_ediv mine b
    have x : mine % b = mine - b * (mine / b) := by omega
    rw [x, Int.sub_mul, Int.mul_assoc]
    omega
  rw [e]
  exact Int.dvd_sub h.m1 (Int.dvd_mul_right _ _)
theorem ShInv.theirs_le {a b one other mine theirs : Int} (h : ShInv a b one other mine theirs) : theirs.natAbs ≤ b.natAbs ∧ mine.natAbs ≤ b.natAbs := by
  obtain ⟨M, T, hM, hT, lM, lT, _, sg⟩ := h.bd
  rcases sg with ⟨r1, r2⟩ | ⟨r1, r2⟩ <;> (subst r1 r2; omega)
end BF

/-! ### plain mathematics of the law's own reckoning: the divisions' rows, and the way back -/
namespace BF
/-- rows: the quotients of the divisions that begin at one, other -/
inductive Eu : Int → Int → List Int → Prop where
  | nil {one : Int} (h : 0 < one) : Eu one 0 []
  | cons {one other : Int} {r : List Int} (h1 : 0 < one) (h2 : 0 < other) (h : Eu other (one % other) r) : Eu one other (one / other :: r)
def back : List Int → Int × Int
  | [] => (1, 0)
  | q :: r => ((back r).2, (back r).1 - q * (back r).2)
theorem Eu.pos : ∀ {one other : Int} {r : List Int}, Eu one other r → 0 < one ∧ 0 ≤ other
  | _, _, _, .nil h => ⟨h, Int.le_refl _⟩
  | _, _, _, .cons h1 h2 _ => ⟨h1, Int.le_of_lt h2⟩
theorem Eu.back : ∀ {one other : Int} {r : List Int}, Eu one other r → ∃ g, 0 < g ∧ (∀ d : Int, d ∣ g ↔ d ∣ one ∧ d ∣ other) ∧ (back r).1 * one + (back r).2 * other = g ∧ (r ≠ [] → (BF.back r).1.natAbs ≤ other.natAbs ∧ (BF.back r).2.natAbs ≤ one.natAbs)
  | _, _, _, .nil (one := one) h => by
    refine ⟨one, h, fun d => ⟨fun e => ⟨e, Int.dvd_zero d⟩, fun e => e.1⟩, ?_, fun z => absurd rfl z⟩
    show (1 : Int) * one + 0 * 0 = one
    omega
  | _, _, _, .cons (one := one) (other := other) (r := r) h1 h2 h => by
    obtain ⟨g, hg, dv, e, bd⟩ := Eu.back h
    have hm := Int.emod_add_mul_ediv one other
    have hq : 0 ≤ one / other := Int.ediv_nonneg (Int.le_of_lt h1) (Int.le_of_lt h2)
    have hr0 : 0 ≤ one % other := Int.emod_nonneg _ (Int.ne_of_gt h2)
    refine ⟨g, hg, fun d => ?_, ?_, fun _ => ?_⟩
    · rw [dv d]
      constructor
      · rintro ⟨a1, a2⟩
        refine ⟨?_, a1⟩
        rw [← hm]
        exact Int.dvd_add a2 (Int.dvd_trans a1 (Int.dvd_mul_right _ _))
      · rintro ⟨a1, a2⟩
        refine ⟨a2, ?_⟩
        have : one % other = one - other * (one / other) := by omega
        rw [this]
        exact Int.dvd_sub a1 (Int.dvd_trans a2 (Int.dvd_mul_right _ _))
    · show (BF.back r).2 * one + ((BF.back r).1 - one / other * (BF.back r).2) * other = g
      generalize (BF.back r).1 = m at *
      generalize (BF.back r).2 = t at *
      generalize one / other = q at *
      have x1 : (m - q * t) * other = m * other - t * (other * q) := by
        rw [Int.sub_mul, Int.mul_comm q t, Int.mul_assoc, Int.mul_comm q other]
      have x2 : t * one = t * (one % other) + t * (other * q) := by rw [← Int.mul_add, hm]
      omega
    · show (BF.back r).2.natAbs ≤ other.natAbs ∧ ((BF.back r).1 - one / other * (BF.back r).2).natAbs ≤ one.natAbs
      cases r with
      | nil =>
        show (0 : Int).natAbs ≤ other.natAbs ∧ ((1 : Int) - one / other * 0).natAbs ≤ one.natAbs
        omega
      | cons q' r' =>
        obtain ⟨b1, b2⟩ := bd (by simp)
        refine ⟨b2, ?_⟩
        generalize (BF.back (q' :: r')).1 = m at *
        generalize (BF.back (q' :: r')).2 = t at *
        have x3 : (one / other * t).natAbs ≤ (other * (one / other)).natAbs := by
          rw [Int.natAbs_mul, Int.natAbs_mul, Nat.mul_comm other.natAbs]
          exact Nat.mul_le_mul_left _ b2
        have x4 : 0 ≤ other * (one / other) := Int.mul_nonneg (Int.le_of_lt h2) hq
        omega
theorem Eu.drop {B : Int} : ∀ {one other : Int} {r : List Int}, Eu one other r → one ≤ B → other ≤ B → ∀ k, k ≤ r.length → ∃ x y, Eu x y (r.drop k) ∧ x ≤ B ∧ y ≤ B
  | _, _, _, .nil h, l1, l2, k, hk => ⟨_, _, by rw [List.drop_nil]; exact .nil h, l1, l2⟩
  | _, _, _, .cons h1 h2 h, l1, l2, 0, _ => ⟨_, _, .cons h1 h2 h, l1, l2⟩
  | _, _, _, .cons (one := one) (other := other) h1 h2 h, l1, l2, k + 1, hk => by
    have h3 : one % other < other := Int.emod_lt_of_pos _ h2
    exact Eu.drop h l2 (by omega) k (by simpa using hk)
theorem emod_le_self {x y : Int} (h : 0 < x) (hy : 0 < y) : x % y ≤ x := by
  have hm := Int.emod_add_mul_ediv x y
  have hq : 0 ≤ x / y := Int.ediv_nonneg (Int.le_of_lt h) (Int.le_of_lt hy)
  have : 0 ≤ y * (x / y) := Int.mul_nonneg (Int.le_of_lt hy) hq
  omega
/-- the loop that gathers the rows -/
structure FwInv (a b : Int) (rows : List Int) (one other : Int) : Prop where
  o1 : 0 < one
  o2 : 0 ≤ other
  l1 : one ≤ a ∨ one ≤ b
  l2 : other ≤ b
  go : ∀ r, Eu one other r → Eu a b (rows ++ r)
  less : rows ≠ [] → other < one
  fst : rows = [] → one = a ∧ other = b
  len : one * other * 2 ^ rows.length ≤ 2 * (a * b)
theorem FwInv.start {a b : Int} (ha : 0 < a) (hb : 0 < b) : FwInv a b [] a b where
  o1 := ha
  o2 := Int.le_of_lt hb
  l1 := .inl (Int.le_refl _)
  l2 := Int.le_refl _
  go := fun r h => h
  less := fun z => absurd rfl z
  fst := fun _ => ⟨rfl, rfl⟩
  len := by
    have : 0 < a * b := Int.mul_pos ha hb
    show a * b * 1 ≤ 2 * (a * b)
    omega
theorem FwInv.turn {a b one other : Int} {rows : List Int} (h : FwInv a b rows one other) (ho : 0 < other) : FwInv a b (rows ++ [one / other]) other (one % other) := by
  obtain ⟨o1, o2, l1, l2, go, less, fst, len⟩ := h
  have h0 : 0 ≤ one % other := Int.emod_nonneg _ (Int.ne_of_gt ho)
  have h1 : one % other < other := Int.emod_lt_of_pos _ ho
  refine ⟨ho, h0, .inr l2, by omega, fun r hr => ?_, fun _ => h1, fun z => by simp at z, ?_⟩
  · rw [List.append_assoc]
    exact go _ (.cons o1 ho hr)
  · rw [List.length_append, List.length_singleton, Int.pow_succ]
    have hp : (0 : Int) ≤ 2 ^ rows.length := Int.pow_nonneg (by decide)
    cases rows with
    | nil =>
      show other * (one % other) * (1 * 2) ≤ 2 * (a * b)
      obtain ⟨e1, e2⟩ := fst rfl
      subst e1 e2
      have x : other * (one % other) ≤ other * one := Int.mul_le_mul_of_nonneg_left (emod_le_self o1 ho) o2
      rw [Int.mul_comm other one] at x
      omega
    | cons q r =>
      have hl := less (by simp)
      have x : 2 * (one % other) ≤ one := by
        have hm := Int.emod_add_mul_ediv one other
        have hq : 1 ≤ one / other := by
          rcases Int.lt_or_le (one / other) 1 with c | c
          · have : other * (one / other) ≤ other * 0 := Int.mul_le_mul_of_nonneg_left (by omega) o2
            omega
          · exact c
        have : other * 1 ≤ other * (one / other) := Int.mul_le_mul_of_nonneg_left hq o2
        omega
      have y : other * (one % other) * ((2 : Int) ^ (q :: r).length * 2) = (other * (2 * (one % other))) * 2 ^ (q :: r).length := by
        rw [Int.mul_comm ((2 : Int) ^ (q :: r).length) 2, ← Int.mul_assoc, Int.mul_assoc other, Int.mul_comm (one % other) 2]
      rw [y]
      refine Int.le_trans (Int.mul_le_mul_of_nonneg_right ?_ hp) len
      rw [Int.mul_comm one other]
      exact Int.mul_le_mul_of_nonneg_left x o2
theorem two_pow_cast (n : Nat) : ((2 ^ n : Nat) : Int) = (2 : Int) ^ n := by
  rw [Int.natCast_pow]
  rfl
/-- at most 4001 rows -/
theorem FwInv.few {a b one other : Int} {rows : List Int} (h : FwInv a b rows one other) (ho : 0 < other) (ha : a.natAbs < 2 ^ 2000) (hb : b.natAbs < 2 ^ 2000) : rows.length ≤ 4001 := by
  have e := h.len
  have h1 : 1 ≤ one * other := Int.mul_pos h.o1 ho
  have hp : (0 : Int) ≤ 2 ^ rows.length := by
    rw [← two_pow_cast]
    exact Int.natCast_nonneg _
  have h2 : (1 : Int) * 2 ^ rows.length ≤ one * other * 2 ^ rows.length := Int.mul_le_mul_of_nonneg_right h1 hp
  have h3 : (a * b).natAbs < 2 ^ 4000 := by
    rw [Int.natAbs_mul, show (4000 : Nat) = 2000 + 2000 from rfl, Nat.pow_add]
    exact Nat.mul_lt_mul'' ha hb
  have h4 : ((2 ^ rows.length : Nat) : Int) ≤ 2 * (a * b) := by
    rw [two_pow_cast]
    omega
  have h5 : 2 ^ rows.length < 2 ^ 4001 := by
    rw [show (4001 : Nat) = 4000 + 1 from rfl, Nat.pow_succ]
    generalize 2 ^ 4000 = Z at *
    generalize 2 ^ rows.length = Y at *
    omega
  have h6 : rows.length < 4001 := (Nat.pow_lt_pow_iff_right (by decide)).mp h5
  omega
/-- the law's way back gives what the program's way gives -/
theorem few_back {s a b g g2 : Int} {rows : List Int} (hs : 0 < s) (ha : 0 < a) (hb : 0 < b) (hg : 0 < g) (dg : ∀ d : Int, d ∣ g ↔ d ∣ a ∧ d ∣ b) (E : Eu (a / g) (b / g) rows) (hz : s % g = 0) :
    fewI (parts s a b) = if s / g * (back rows).1 % (b / g) * (a / g) ≤ s / g then s / g * (back rows).1 % (b / g) else -1 := by
  obtain ⟨da, db⟩ := (dg g).mp (Int.dvd_refl g)
  obtain ⟨a', ea⟩ := da
  obtain ⟨b', eb⟩ := db
  obtain ⟨s', es⟩ := Int.dvd_of_emod_eq_zero hz
  have e1 : s / g = s' := by rw [es]; exact Int.mul_ediv_cancel_left s' (Int.ne_of_gt hg)
  have e2 : b / g = b' := by rw [eb]; exact Int.mul_ediv_cancel_left b' (Int.ne_of_gt hg)
  have e3 : a / g = a' := by rw [ea]; exact Int.mul_ediv_cancel_left a' (Int.ne_of_gt hg)
  rw [e2, e3] at E
  obtain ⟨h, hh, dh, eh, _⟩ := E.back
  have h1 : h = 1 := by
    obtain ⟨x1, x2⟩ := (dh h).mp (Int.dvd_refl h)
    have d1 : g * h ∣ g := (dg _).mpr ⟨by rw [ea]; exact Int.mul_dvd_mul_left g x1, by rw [eb]; exact Int.mul_dvd_mul_left g x2⟩
    have l1 := Int.le_of_dvd hg d1
    rcases Int.lt_or_le 1 h with c | c
    · have : g * 2 ≤ g * h := Int.mul_le_mul_of_nonneg_left (by omega) (Int.le_of_lt hg)
      omega
    · omega
  have G : Good a b g (back rows).1 := by
    refine ⟨hg, ⟨a', ea⟩, ⟨b', eb⟩, -(back rows).2, ?_⟩
    rw [h1] at eh
    generalize (back rows).1 = m at *
    generalize (back rows).2 = t at *
    have x1 : m * a = g * (m * a') := by rw [ea, Int.mul_left_comm]
    have x2 : b * -t = -(g * (t * b')) := by rw [Int.mul_neg, eb, Int.mul_assoc, Int.mul_comm b' t]
    have x3 : g * (m * a' + t * b') = g * 1 := by rw [eh]
    rw [Int.mul_add] at x3
    omega
  rw [parts_good ha hb G, if_neg (by simp [hz]), e1, e2, e3]
  have key : (s' * (back rows).1 % b' * a > s) ↔ ¬ (s' * (back rows).1 % b' * a' ≤ s') := by
    generalize s' * (back rows).1 % b' = f
    have x : f * a = g * (f * a') := by rw [ea, Int.mul_left_comm]
    rw [x, es]
    constructor
    · intro q z
      have := Int.mul_le_mul_of_nonneg_left z (Int.le_of_lt hg)
      omega
    · intro q
      have := Int.mul_lt_mul_of_pos_left (show s' < f * a' by omega) hg
      omega
  by_cases c : s' * (back rows).1 % b' * a' ≤ s'
  · rw [if_neg (fun z => key.mp z c), if_pos c]
    rfl
  · rw [if_pos (key.mpr c), if_neg c]
    rfl
theorem few_none {s a b g : Int} (hb : 0 < b) (dg : ∀ d : Int, d ∣ g ↔ d ∣ a ∧ d ∣ b) (hz : s % g ≠ 0) : fewI (parts s a b) = -1 := by
  have e : parts s a b = none := parts_eq hb (x := none) (by
    rintro m n ⟨_, _, e⟩
    obtain ⟨x1, x2⟩ := (dg g).mp (Int.dvd_refl g)
    refine hz (Int.emod_eq_zero_of_dvd ?_)
    rw [← e]
    exact Int.dvd_add (Int.dvd_trans x1 (Int.dvd_mul_left _ _)) (Int.dvd_trans x2 (Int.dvd_mul_left _ _)))
  rw [e]
  rfl
end BF

/-! ### there is always an answer; a search among few -/
namespace BF
theorem eu_ex : ∀ (n : Nat) (a b : Int), 0 < a → 0 ≤ b → b.toNat ≤ n → ∃ rows, Eu a b rows
  | 0, a, b, ha, hb, h => by
    have e : b = 0 := by omega
    subst e
    exact ⟨[], .nil ha⟩
  | n + 1, a, b, ha, hb, h => by
    rcases Int.lt_or_le 0 b with c | c
    · have h0 : 0 ≤ a % b := Int.emod_nonneg _ (Int.ne_of_gt c)
      have h1 : a % b < b := Int.emod_lt_of_pos _ c
      obtain ⟨r, hr⟩ := eu_ex n b (a % b) c h0 (by omega)
      exact ⟨_, .cons ha c hr⟩
    · have e : b = 0 := by omega
      subst e
      exact ⟨[], .nil ha⟩
theorem good_ex {a b : Int} (ha : 0 < a) (hb : 0 < b) : ∃ g t, Good a b g t := by
  obtain ⟨rows, E⟩ := eu_ex _ a b ha (Int.le_of_lt hb) (Nat.le_refl _)
  obtain ⟨g, hg, dv, e, _⟩ := E.back
  obtain ⟨d1, d2⟩ := (dv g).mp (Int.dvd_refl g)
  refine ⟨g, (back rows).1, hg, d1, d2, -(back rows).2, ?_⟩
  rw [Int.mul_neg, Int.mul_comm b]
  omega
theorem parts_is {s a b : Int} (ha : 0 < a) (hb : 0 < b) : IsParts s a b (parts s a b) := by
  obtain ⟨g, t, G⟩ := good_ex ha hb
  have ex : ∃ x, IsParts s a b x := by
    by_cases hs : s % g ≠ 0
    · refine ⟨none, ?_⟩
      rintro m n ⟨_, _, e⟩
      refine hs (Int.emod_eq_zero_of_dvd ?_)
      rw [← e]
      exact Int.dvd_add (Int.dvd_trans G.ga (Int.dvd_mul_left _ _)) (Int.dvd_trans G.gb (Int.dvd_mul_left _ _))
    · have hd : g ∣ s := Int.dvd_of_emod_eq_zero (by omega)
      obtain ⟨k1, k2, k3⟩ := few_core ha hb G hd
      generalize s / g * t % (b / g) = f at k1 k2 k3
      have least : ∀ m n, Rep s a b m n → f ≤ m := fun m n ⟨h1, h2, h3⟩ => k3 m h1 ⟨n, by rw [Int.mul_comm b n]; omega⟩
      by_cases hf : f * a > s
      · refine ⟨none, ?_⟩
        rintro m n R
        have l := least m n R
        obtain ⟨h1, h2, h3⟩ := R
        have p1 : f * a ≤ m * a := Int.mul_le_mul_of_nonneg_right l (Int.le_of_lt ha)
        have p2 : 0 ≤ n * b := Int.mul_nonneg h2 (Int.le_of_lt hb)
        omega
      · refine ⟨some (f, (s - f * a) / b), ⟨k2, Int.ediv_nonneg (by omega) (Int.le_of_lt hb), ?_⟩, least⟩
        show f * a + (s - f * a) / b * b = s
        rw [Int.ediv_mul_cancel k1]
        omega
  obtain ⟨x, hx⟩ := ex
  rw [parts_eq hb hx]
  exact hx
theorem few_neg {s a b : Int} (ha : 0 < a) (hb : 0 < b) : fewI (parts s a b) < 0 ↔ parts s a b = none := by
  have h := parts_is (s := s) ha hb
  cases e : parts s a b with
  | none => simp [fewI]
  | some x =>
    rw [e] at h
    have := h.1.1
    simp only [fewI, reduceCtorEq, iff_false]
    omega
/-- the counts of the first below n that leave a multiple of the second -/
def hits (s a b : Int) (n : Nat) : List Int := ((List.range n).filter (fun m : Nat => decide ((s - (m : Int) * a) % b = 0))).map (fun m : Nat => (m : Int))
theorem hits_succ (s a b : Int) (n : Nat) : hits s a b (n + 1) = hits s a b n ++ (if (s - (n : Int) * a) % b = 0 then [(n : Int)] else []) := by
  unfold hits
  rw [List.range_succ, List.filter_append, List.map_append]
  congr 1
  by_cases c : (s - (n : Int) * a) % b = 0
  · rw [if_pos c]
    simp [List.filter_cons, c]
  · rw [if_neg c]
    simp [List.filter_cons, c]
theorem hits_len (s a b : Int) (n : Nat) : (hits s a b n).length ≤ n := by
  unfold hits
  rw [List.length_map]
  exact Nat.le_trans (List.length_filter_le _ _) (by rw [List.length_range]; exact Nat.le_refl _)
theorem hits_few {s a b : Int} (hs : 0 < s) (ha : 0 < a) (hb : 0 < b) : (hits s a b (s / a + 1).toNat ++ [-1])[0]? = some (fewI (parts s a b)) := by
  have hq : 0 ≤ s / a := Int.ediv_nonneg (Int.le_of_lt hs) (Int.le_of_lt ha)
  have hm := Int.emod_add_mul_ediv s a
  have hr := Int.emod_nonneg s (Int.ne_of_gt ha)
  have rep : ∀ m : Nat, m < (s / a + 1).toNat → (s - (m : Int) * a) % b = 0 → Rep s a b m ((s - (m : Int) * a) / b) := fun m hl hz => by
    have l1 : (m : Int) ≤ s / a := by omega
    have l2 : a * (m : Int) ≤ a * (s / a) := Int.mul_le_mul_of_nonneg_left l1 (Int.le_of_lt ha)
    rw [Int.mul_comm a (m : Int)] at l2
    refine ⟨Int.natCast_nonneg m, Int.ediv_nonneg (by omega) (Int.le_of_lt hb), ?_⟩
    rw [Int.ediv_mul_cancel (Int.dvd_of_emod_eq_zero hz)]
    omega
  have h := parts_is (s := s) ha hb
  cases e : parts s a b with
  | none =>
    rw [e] at h
    have e0 : hits s a b (s / a + 1).toNat = [] := by
      unfold hits
      rw [List.filter_eq_nil_iff.mpr fun m hm2 => ?_]
      · rfl
      · intro z
        exact h _ _ (rep m (List.mem_range.mp hm2) (of_decide_eq_true z))
    rw [e0]
    rfl
  | some x =>
    rw [e] at h
    obtain ⟨⟨h1, h2, h3⟩, least⟩ := h
    obtain ⟨m, n⟩ := x
    simp only at h1 h2 h3 least
    obtain ⟨k, rfl⟩ := Int.eq_ofNat_of_zero_le h1
    have n0 : 0 ≤ n * b := Int.mul_nonneg h2 (Int.le_of_lt hb)
    have kl : (k : Int) ≤ s / a := by
      rcases Int.lt_or_le (s / a) k with c | c
      · have hl := Int.emod_lt_of_pos s ha
        have : a * (s / a + 1) ≤ a * (k : Int) := Int.mul_le_mul_of_nonneg_left (by omega) (Int.le_of_lt ha)
        rw [Int.mul_add, Int.mul_one, Int.mul_comm a (k : Int)] at this
        omega
      · exact c
    have hf : (List.range (s / a + 1).toNat).find? (fun m : Nat => decide ((s - (m : Int) * a) % b = 0)) = some k := by
      rw [List.find?_range_eq_some]
      refine ⟨decide_eq_true ?_, List.mem_range.mpr (by omega), fun j hj => ?_⟩
      · have : s - (k : Int) * a = n * b := by omega
        rw [this]
        exact Int.mul_emod_left n b
      · rw [Bool.not_eq_true', decide_eq_false_iff_not]
        intro z
        have := least _ _ (rep j (by omega) z)
        omega
    have hh : (hits s a b (s / a + 1).toNat)[0]? = some (k : Int) := by
      unfold hits
      rw [List.getElem?_map, ← List.head?_eq_getElem?, List.head?_filter, hf]
      rfl
    rw [List.getElem?_append_left (by
      rw [List.getElem?_eq_some_iff] at hh
      exact hh.1), hh]
    rfl
end BF

namespace BF
open PySem PySem.Spec PyProof.Rows L2
def topS (i : Nat) : Stmt := PySem.Challenge.pw_brickfloor_k03_whole_sums.main.body.getD i (.Pass ⟨0, 0, 0, 0⟩)
abbrev s_is_number : Stmt := topS 4
abbrev s_check_sizes : Stmt := topS 5
abbrev s_shared : Stmt := topS 6
abbrev s_parts_of : Stmt := topS 7
abbrev s_sum_of : Stmt := topS 8
abbrev s__law_number : Stmt := topS 10
abbrev s__law_whole : Stmt := topS 11
abbrev s__law_common : Stmt := topS 12
abbrev s__law_few : Stmt := topS 13
abbrev s__law_right : Stmt := topS 14
abbrev s_law : Stmt := topS 15
theorem sc_is_number : FnScope ["thing"] ["thing"] (defScope s_is_number) := ⟨rfl, rfl, rfl, by decide +kernel, rfl, by decide +kernel, by decide +kernel⟩
theorem sc_check_sizes : FnScope ["some", "one"] ["some"] (defScope s_check_sizes) := ⟨rfl, rfl, rfl, by decide +kernel, rfl, by decide +kernel, by decide +kernel⟩
theorem sc_shared : FnScope ["one", "other", "mine", "theirs", "by", "often"] ["one", "other"] (defScope s_shared) := ⟨rfl, rfl, rfl, by decide +kernel, rfl, by decide +kernel, by decide +kernel⟩
theorem sc_parts_of : FnScope ["size", "first", "second", "by", "turned", "few"] ["size", "first", "second"] (defScope s_parts_of) := ⟨rfl, rfl, rfl, by decide +kernel, rfl, by decide +kernel, by decide +kernel⟩
theorem sc_sum_of : FnScope ["size", "first", "second"] ["size", "first", "second"] (defScope s_sum_of) := ⟨rfl, rfl, rfl, by decide +kernel, rfl, by decide +kernel, by decide +kernel⟩
theorem sc__law_number : FnScope ["_law_cell", "_law_at", "_law_whole_here", "_law_mixed", "_law_more"] ["_law_cell", "_law_at", "_law_whole_here"] (defScope s__law_number) := ⟨rfl, rfl, rfl, by decide +kernel, rfl, by decide +kernel, by decide +kernel⟩
theorem sc__law_whole : FnScope ["_law_found"] ["_law_found"] (defScope s__law_whole) := ⟨rfl, rfl, rfl, by decide +kernel, rfl, by decide +kernel, by decide +kernel⟩
theorem sc__law_common : FnScope ["_law_one", "_law_other"] ["_law_one", "_law_other"] (defScope s__law_common) := ⟨rfl, rfl, rfl, by decide +kernel, rfl, by decide +kernel, by decide +kernel⟩
theorem sc__law_few : FnScope ["_law_size", "_law_first", "_law_second", "_law_by", "_law_rows", "_law_one", "_law_other", "_law_mine", "_law_theirs", "_law_part", "_law_few_here"] ["_law_size", "_law_first", "_law_second"] (defScope s__law_few) := ⟨rfl, rfl, rfl, by decide +kernel, rfl, by decide +kernel, by decide +kernel⟩
theorem sc__law_right : FnScope ["_law_size", "_law_first", "_law_second", "_law_found", "_law_few_here", "_law_good", "_law_many"] ["_law_size", "_law_first", "_law_second"] (defScope s__law_right) := ⟨rfl, rfl, rfl, by decide +kernel, rfl, by decide +kernel, by decide +kernel⟩
theorem sc_law : FnScope ["_law_script", "_law_whole_here", "_law_at", "_law_most", "_law_number_here", "_law_first", "_law_second", "_law_other", "_law_size", "_law_some"] ["_law_script"] (defScope s_law) := ⟨rfl, rfl, rfl, by decide +kernel, rfl, by decide +kernel, by decide +kernel⟩
/-- the built-ins that the text names are free -/
structure Bi (mg : Str → Option Value) : Prop where
  bool : mg "bool" = none
  int : mg "int" = none
  isinstance : mg "isinstance" = none
  len : mg "len" = none
  max : mg "max" = none
  min : mg "min" = none
  range : mg "range" = none
  sum : mg "sum" = none
  tuple : mg "tuple" = none
end BF

/-! short words for readings: walk_at "rd" takes all steps that are plain -/
local macro_rules | `(tactic| walk_at "rd1") => `(tactic| first | refine ⟨_, rfl, ?_⟩ | refine ⟨_, _, rfl, rfl, ?_⟩ | refine ⟨_, _, rfl, ?_⟩)
local macro_rules | `(tactic| walk_at "rd") => `(tactic| repeat walk_at "rd1")

/-! ### sums.py -/
namespace BF
open PySem PySem.Spec PyProof.Rows L2
/-- is_number(x): x of the built-in type T -/
inductive SpIsNumber (K : PySem.W.Frag) : Sp where
  | mk {x : V} {T : String} {i b : Bool} {H : Hp} {Q : VK} {E : XK} (ty : TyX K H x (.type T)) (hi : kitB T "int" = some i) (hb : kitB T "bool" = some b) (q : Q (.bl (i && !b)) H) : SpIsNumber K [x] H Q E
theorem num_int {K : PySem.W.Frag} {H : Hp} {Q : VK} {E : XK} {n : Int} (q : Q (.bl true) H) : SpIsNumber K [.int n] H Q E := .mk (T := "int") (i := true) (b := false) (.base (.int n)) (by decide +kernel) (by decide +kernel) q
/-- check_sizes(some), all of them sizes -/
inductive SpCheckSizes (K : PySem.W.Frag) : Sp where
  | mk {a : Addr} {ns : List Int} {H : Hp} {Q : VK} {E : XK} (hS : SqL K H a (ns.map V.int)) (hp : ∀ n ∈ ns, 0 < n) (q : Q .non H) : SpCheckSizes K [.ref a] H Q E
inductive SpShared : Sp where
  | mk {a b : Int} {H : Hp} {Q : VK} {E : XK} (ha : Sz a) (hb : Sz b) (q : ∀ g t p H', Good a b g t → g ≤ b → 0 ≤ t → t < b → Same H H' → H' p = some (.tup [.int g, .int t]) → Q (.ref p) H') : SpShared [.int a, .int b] H Q E
/-- what parts_of hands back: None, or a new pair -/
def tellParts (x : Option (Int × Int)) (H : Hp) (Q : VK) : Prop := match x with
  | none => ∀ H', Same H H' → Q .non H'
  | some y => ∀ p H', Same H H' → H p = none → H' p = some (.tup [.int y.1, .int y.2]) → Q (.ref p) H'
theorem tellParts.mono {x : Option (Int × Int)} {H H' : Hp} {Q : VK} (q : tellParts x H Q) (sm : Same H H') : tellParts x H' Q := by
  cases x with
  | none => exact fun H2 s2 => q H2 (sm.trans s2)
  | some y => exact fun p H2 s2 hn hp => q p H2 (sm.trans s2) (sm.free hn) hp
/-- the value that tells x -/
def Told (x : Option (Int × Int)) (H : Hp) (v : V) : Prop := match x with
  | none => v = .non
  | some y => ∃ p, v = .ref p ∧ H p = some (.tup [.int y.1, .int y.2])
theorem Told.mono {x : Option (Int × Int)} {H H' : Hp} {v : V} (h : Told x H v) (sm : Same H H') : Told x H' v := by
  cases x with
  | none => exact h
  | some y =>
    obtain ⟨p, e, hp⟩ := h
    exact ⟨p, e, sm _ _ hp⟩
theorem tell_of {x : Option (Int × Int)} {H : Hp} {Q : VK} (q : ∀ v H', Same H H' → Told x H' v → Q v H') : tellParts x H Q := by
  cases x with
  | none => exact fun H' sm => q _ H' sm rfl
  | some y => exact fun p H' sm _ hp => q _ H' sm ⟨p, rfl, hp⟩
inductive SpParts : Sp where
  | mk {s a b : Int} {H : Hp} {Q : VK} {E : XK} (hs : Sz s) (ha : Sz a) (hb : Sz b) (q : tellParts (parts s a b) H Q) : SpParts [.int s, .int a, .int b] H Q E
section
variable {P : Program} {w : World} {K : PySem.W.Frag} {mg : Str → Option Value} {base : Heap}
theorem H_is_number (p : Pl K mg "is_number" s_is_number) (B : Bi mg) : Has P w K mg base CX0 1 "is_number" ["thing"] (SpIsNumber K) := by
  refine p.mk0 sc_is_number (fun _ _ _ _ _ _ us hl => match us, hl with | [_], _ => rfl) (fun vs H Q E h => ?_) (fun f cdv A outer s H vs Q E hr h => ?_)
  · cases h; rfl
  · obtain @⟨x, T, i, b, _, _, _, hT, hi, hb, q⟩ := h
    refine ⟨_, (pss_one (ps_ret (pe_and (pe_callB call_isi (by rfl) B.isinstance (by decide +kernel) (pa_cons (pv 0) (pa_cons (pe_bltn (v := .ty "int") (by rfl) B.int (by decide +kernel) rfl) pa_nil))) (pe_one (pe_not (pe_callB call_isi (by rfl) B.isinstance (by decide +kernel) (pa_cons (pv 0) (pa_cons (pe_bltn (v := .ty "bool") (by rfl) B.bool (by decide +kernel) rfl) pa_nil)))))))), ?_⟩
    refine ⟨_, rfl, x, _, _, _, i, rfl, .ty "int", hT, kit_ty hi, i, rfl, ?_⟩
    cases i with
    | false => exact iteF q
    | true => exact iteT ⟨_, rfl, x, _, _, _, b, rfl, .ty "bool", hT, kit_ty hb, b, rfl, q⟩
theorem ints_at {ns : List Int} {i : Nat} {y : V} (h : (ns.map V.int)[i]? = some y) : ∃ n, ns[i]? = some n ∧ y = .int n := by
  rw [List.getElem?_map] at h
  cases e : ns[i]? with
  | none => rw [e] at h; cases h
  | some n =>
    rw [e] at h
    exact ⟨n, rfl, (Option.some.inj h).symm⟩
theorem H_check_sizes (p : Pl K mg "check_sizes" s_check_sizes) (h_is_number : Has P w K mg base CX0 1 "is_number" ["thing"] (SpIsNumber K)) : Has P w K mg base CX0 2 "check_sizes" ["some"] (SpCheckSizes K) := by
  refine p.mk0 sc_check_sizes (fun _ _ _ _ _ _ us hl => match us, hl with | [_], _ => rfl) (fun vs H Q E h => ?_) (fun f cdv A outer s H vs Q E hr h => ?_)
  · cases h; rfl
  · obtain @⟨a, ns, _, _, _, hS, hp, q⟩ := h
    refine ⟨_, (pss_one (ps_for PassesOwn.never (by rfl) (pi_list (pv 0)) (pg_name (i := 1) sc_check_sizes.nd rfl (Or.inl rfl)) (pss_one (ps_if (PW.pt (pw_or (pt_not (pt_val (pe_fn h_is_number (hr.mono (by decide)) pass0 (pa_cons (pv 1) pa_nil)))) (pw_or1 (pt_cmpR op_lt (pv 1) pe_int (nomark _))))) (pss_one ps_never) pss_nil)))), ?_⟩
    refine ⟨_, rfl, a, rfl, ⟨_, hS⟩, for_list (K := K) (a := a) (xs := ns.map V.int) (fun i σ H' => H' = H ∧ ∃ y, σ = [some (.ref a), y]) ⟨rfl, none, rfl⟩ (fun i σ H' _ ⟨e, _⟩ => by rw [e]; exact hS) ?_ ?_⟩
    · rintro i y σ H' hi ⟨rfl, z, rfl⟩
      obtain ⟨n, hn, rfl⟩ := ints_at hi
      have h0 := hp n (List.mem_of_getElem? hn)
      refine ⟨_, rfl, num_int ⟨true, rfl, iteF ⟨_, rfl, _, _, rfl, rfl, _, rfl, ?_⟩⟩⟩
      rw [decide_eq_false (by omega)]
      exact iteF ⟨rfl, _, rfl⟩
    · rintro σ H' ⟨rfl, z, rfl⟩
      exact q
theorem H_shared (p : Pl K mg "shared" s_shared) : Has P w K mg base CX0 1 "shared" ["one", "other"] SpShared := by
  refine p.mk0 sc_shared (fun _ _ _ _ _ _ us hl => match us, hl with | [_, _], _ => rfl) (fun vs H Q E h => ?_) (fun f cdv A outer s H vs Q E hr h => ?_)
  · cases h; rfl
  · obtain @⟨a, b, _, _, _, ha, hb, q⟩ := h
    refine ⟨_, (pss_cons (ps_asg (pe_tup (pa_cons pe_int (pa_cons pe_int pa_nil))) (pg_tup (by rfl) (pgs_cons (pg_name (i := 2) sc_shared.nd rfl (Or.inl rfl)) (pgs_cons (pg_name (i := 3) sc_shared.nd rfl (Or.inl rfl)) pgs_nil))))
      (pss_cons (ps_set (i := 4) sc_shared.nd rfl (Or.inl rfl) (pv 1))
      (pss_cons (ps_while PassesOwn.never (pt_cmpR op_gt (pv 1) pe_int (nomark _)) (pss_cons (ps_set (i := 5) sc_shared.nd rfl (Or.inl rfl) (pe_op op_fdivW (pv 0) (pv 1)))
      (pss_cons (ps_par (i := 0) (j := 1) (by rfl) sc_shared.nd rfl rfl (by decide) rfl rfl (pa_cons (pv 1) (pa_cons (pe_op op_sub (pv 0) (pe_op op_mulX (pv 5) (pv 1))) pa_nil)) (by rfl))
      (pss_one (ps_par (i := 2) (j := 3) (by rfl) sc_shared.nd rfl rfl (by decide) rfl rfl (pa_cons (pv 3) (pa_cons (pe_op op_sub (pv 2) (pe_op op_mulX (pv 5) (pv 3))) pa_nil)) (by rfl))))))
      (pss_one (ps_ret (pe_tup (pa_cons (pv 0) (pa_cons (pe_op op_mod (pv 2) (pv 4)) pa_nil)))))))), ?_⟩
    refine ⟨by show 2 ≤ sizeLine; decide, fun p0 hp0 => ⟨p0, _, rfl, sqT upd_same, rfl, _, _, rfl, _, _, rfl, rfl, ?_⟩⟩
    have sm0 : Same H (upd H p0 (.tup [.int 1, .int 0])) := same_upd hp0
    refine ⟨_, rfl, while_by (fun σ H' => Same H H' ∧ ∃ one other mine theirs y, σ = [some (.int one), some (.int other), some (.int mine), some (.int theirs), some (.int b), y] ∧ ShInv a b one other mine theirs)
      (fun σ _ => slotN σ 1) ⟨sm0, a, b, 1, 0, none, rfl, ShInv.start ha.pos hb.pos⟩ ?_ (fun σ H Q Q' hq h => ?_)⟩
    · rintro σ H' ⟨sm, one, other, mine, theirs, y, rfl, I⟩
      have b1 : Bn 2000 one := by
        rcases I.l1 with l | l
        · exact ha.bn.of_le (Int.le_of_lt I.o1) l
        · exact hb.bn.of_le (Int.le_of_lt I.o1) l
      have b2 : Bn 2000 other := hb.bn.of_le I.o2 I.l2
      have b3 : Bn 2000 theirs := hb.bn.le I.theirs_le.1
      refine ⟨_, rfl, _, _, rfl, rfl, _, rfl, iteD (fun ho => ?_) (fun ho' => ?_)⟩
      · have ho : 0 < other := ho
        have bq : Bn 2000 (one / other) := b1.div ho
        obtain ⟨t1, t2, t3⟩ := I.turn ho
        refine ⟨_, rfl, _, rfl, _, _, rfl, rfl, b2.divOk ho (by decide) (by decide), ?_⟩
        refine ⟨_, rfl, _, rfl, _, rfl, _, rfl, _, _, rfl, rfl, bq.mulOk b2 (by decide), _, _, rfl, rfl, _, _, rfl, ?_⟩
        refine ⟨_, rfl, _, rfl, _, rfl, _, rfl, _, _, rfl, rfl, bq.mulOk b3 (by decide), _, _, rfl, rfl, _, _, rfl, ?_⟩
        exact ⟨⟨sm, _, _, _, _, _, rfl, t1⟩, (show (one - one / other * other).toNat < other.toNat by omega)⟩
      · have ho : other = 0 := by
          have h1 : ¬ 0 < other := ho'
          have h2 := I.o2
          omega
        subst ho
        obtain ⟨G, l⟩ := I.done ha.pos hb.pos
        refine ⟨_, rfl, _, rfl, _, rfl, _, _, rfl, rfl, hb.pos, by show 2 ≤ sizeLine; decide, fun p hp => ?_⟩
        exact q _ _ p _ G l (Int.emod_nonneg _ (Int.ne_of_gt hb.pos)) (Int.emod_lt_of_pos _ hb.pos) (sm.trans (same_upd hp)) upd_same
    · obtain ⟨v, e, i, j, e1, e2, k, e3, q⟩ := h
      exact ⟨v, e, i, j, e1, e2, k, e3, hq _ _ q⟩
theorem H_parts_of (p : Pl K mg "parts_of" s_parts_of) (h_shared : Has P w K mg base CX0 1 "shared" ["one", "other"] SpShared) : Has P w K mg base CX0 2 "parts_of" ["size", "first", "second"] SpParts := by
  refine p.mk0 sc_parts_of (fun _ _ _ _ _ _ us hl => match us, hl with | [_, _, _], _ => rfl) (fun vs H Q E h => ?_) (fun f cdv A outer s H vs Q E hr h => ?_)
  · cases h; rfl
  · obtain @⟨sz, a, b, _, _, _, hs, ha, hb, q⟩ := h
    refine ⟨_, (pss_cons (ps_asg (pe_fn h_shared (hr.mono (by decide)) pass0 (pa_cons (pv 1) (pa_cons (pv 2) pa_nil))) (pg_tup (by rfl) (pgs_cons (pg_name (i := 3) sc_parts_of.nd rfl (Or.inl rfl)) (pgs_cons (pg_name (i := 4) sc_parts_of.nd rfl (Or.inl rfl)) pgs_nil))))
      (pss_cons (ps_if (pt_cmpR op_ne (pe_op op_mod (pv 0) (pv 3)) pe_int (nomark _)) (pss_one (ps_ret pe_non)) pss_nil)
      (pss_cons (ps_set (i := 5) sc_parts_of.nd rfl (Or.inl rfl) (pe_op op_mod (pe_op op_mulX (pe_op op_fdivW (pv 0) (pv 3)) (pv 4)) (pe_op op_fdivW (pv 2) (pv 3))))
      (pss_cons (ps_if (pt_cmpR op_gt (pe_op op_mulX (pv 5) (pv 1)) (pv 0) (nomark _)) (pss_one (ps_ret pe_non)) pss_nil)
      (pss_one (ps_ret (pe_tup (pa_cons (pv 5) (pa_cons (pe_op op_fdivW (pe_op op_sub (pv 0) (pe_op op_mulX (pv 5) (pv 1))) (pv 2)) pa_nil))))))))), ?_⟩
    refine ⟨_, rfl, _, rfl, .mk ha hb fun g t p H1 G lg t0 t1 sm hp => ?_⟩
    refine ⟨p, _, rfl, sqT hp, rfl, _, _, rfl, _, _, rfl, rfl, ?_⟩
    have e := parts_good (s := sz) ha.pos hb.pos G
    have bg : Bn 2000 g := hb.bn.of_le (Int.le_of_lt G.pos) lg
    have bt : Bn 2000 t := hb.bn.of_le t0 (Int.le_of_lt t1)
    have hbg : 0 < b / g := by
      obtain ⟨c, ec⟩ := G.gb
      have := hb.pos
      have e2 : b / g = c := by rw [ec]; exact Int.mul_ediv_cancel_left c (Int.ne_of_gt G.pos)
      rw [e2]
      rcases Int.lt_or_le 0 c with h | h
      · exact h
      · have h3 : g * c ≤ g * 0 := Int.mul_le_mul_of_nonneg_left h (Int.le_of_lt G.pos)
        omega
    refine ⟨_, rfl, _, rfl, _, _, rfl, rfl, G.pos, rfl, _, rfl, iteNe (fun c1 => ?_) (fun c2 => ?_)⟩
    · have c1 : sz % g ≠ 0 := c1
      rw [if_pos c1] at e
      rw [e] at q
      exact q _ sm
    · have c1 : ¬ sz % g ≠ 0 := fun z => z c2
      rw [if_neg c1] at e
      have bf : Bn 2000 (sz / g * t % (b / g)) := (hb.bn.div G.pos).mod hbg
      refine ⟨_, rfl, _, rfl, _, _, rfl, rfl, bg.divOk G.pos (by decide) (by decide), _, rfl, _, _, rfl, rfl, (hs.bn.div G.pos).mulOk bt (by decide), _, rfl, _, rfl, _, _, rfl, rfl, bg.divOk G.pos (by decide) (by decide), _, _, rfl, rfl, hbg, ?_⟩
      refine ⟨_, rfl, _, rfl, _, _, rfl, rfl, bf.mulOk ha.bn (by decide), _, rfl, _, _, rfl, rfl, _, rfl, iteD (fun d => ?_) (fun d => ?_)⟩
      · rw [if_pos d] at e
        rw [e] at q
        exact q _ sm
      · rw [if_neg d] at e
        rw [e] at q
        refine ⟨_, rfl, _, rfl, _, rfl, _, rfl, _, _, rfl, rfl, bf.mulOk ha.bn (by decide), _, _, rfl, rfl, _, rfl, _, _, rfl, rfl, hb.bn.divOk hb.pos (by decide) (by decide), by show 2 ≤ sizeLine; decide, fun p' hp' => ?_⟩
        exact q p' _ (sm.trans (same_upd hp')) (sm.free hp') upd_same
theorem H_sum_of (p : Pl K mg "sum_of" s_sum_of) (h_check_sizes : Has P w K mg base CX0 2 "check_sizes" ["some"] (SpCheckSizes K)) (h_parts_of : Has P w K mg base CX0 2 "parts_of" ["size", "first", "second"] SpParts) :
    Has P w K mg base CX0 3 "sum_of" ["size", "first", "second"] SpParts := by
  refine p.mk0 sc_sum_of (fun _ _ _ _ _ _ us hl => match us, hl with | [_, _, _], _ => rfl) (fun vs H Q E h => ?_) (fun f cdv A outer s H vs Q E hr h => ?_)
  · cases h; rfl
  · obtain @⟨sz, a, b, _, _, _, hs, ha, hb, q⟩ := h
    refine ⟨_, (pss_cons (ps_expr (pe_fn h_check_sizes (hr.mono (by decide)) pass0 (pa_cons (pe_lst (pa_cons (pv 0) (pa_cons (pv 1) (pa_cons (pv 2) pa_nil)))) pa_nil)))
      (pss_one (ps_ret (pe_fn h_parts_of (hr.mono (by decide)) pass0 (pa_cons (pv 0) (pa_cons (pv 1) (pa_cons (pv 2) pa_nil))))))), ?_⟩
    refine ⟨_, rfl, _, rfl, _, rfl, by show 3 ≤ sizeLine; decide, fun p hp => .mk (ns := [sz, a, b]) (sqL upd_same) ?_ ?_⟩
    · intro n hn
      have e : n = sz ∨ n = a ∨ n = b := by simpa using hn
      rcases e with rfl | rfl | rfl
      · exact hs.pos
      · exact ha.pos
      · exact hb.pos
    · exact ⟨_, rfl, _, rfl, _, rfl, .mk hs ha hb (q.mono (same_upd hp))⟩
end
end BF

/-! ### the laws' own helpers: a drawn number, the fewest -/
namespace BF
open PySem PySem.Spec PyProof.Rows L2
/-- some number -/
inductive SpNumber : Sp where
  | mk {cell at_ whole : Int} {H : Hp} {Q : VK} {E : XK} (hc : Bn 1048577 cell) (ha : Bn 10 at_) (q : ∀ n, Q (.int n) H) : SpNumber [.int cell, .int at_, .int whole] H Q E
/-- the greatest that goes into both -/
inductive SpCommon : Sp where
  | mk {a b : Int} {H : Hp} {Q : VK} {E : XK} (ha : 0 < a) (hb : 0 < b) (q : ∀ g : Int, 0 < g → (∀ d : Int, d ∣ g ↔ d ∣ a ∧ d ∣ b) → Q (.int g) H) : SpCommon [.int a, .int b] H Q E
inductive SpFew : Sp where
  | mk {s a b : Int} {H : Hp} {Q : VK} {E : XK} (hs : Sz s) (ha : Sz a) (hb : Sz b) (q : ∀ H', Same H H' → Q (.int (fewI (parts s a b))) H') : SpFew [.int s, .int a, .int b] H Q E
section
variable {P : Program} {w : World} {K : PySem.W.Frag} {mg : Str → Option Value} {base : Heap}
theorem H__law_number (p : Pl K mg "_law_number" s__law_number) : Has P w K mg base CX0 1 "_law_number" ["_law_cell", "_law_at", "_law_whole_here"] SpNumber := by
  refine p.mk0 sc__law_number (fun _ _ _ _ _ _ us hl => match us, hl with | [_, _, _], _ => rfl) (fun vs H Q E h => ?_) (fun f cdv A outer s H vs Q E hr h => ?_)
  · cases h; rfl
  · obtain @⟨cell, at_, whole, _, _, _, hc, ha, q⟩ := h
    refine ⟨_, (pss_cons (ps_if (pt_cmpR op_ge (pv 0) (pe_op op_pow pe_int pe_int) (nomark _)) (pss_one (ps_ret (pv 0))) pss_nil)
      (pss_cons (ps_set (i := 3) sc__law_number.nd rfl (Or.inl rfl) (pe_op op_mod (pe_op op_add (pe_op op_mulX (pe_op op_add (pv 0) (pe_op op_mulX pe_int (pv 1))) pe_int) (pv 2)) pe_int))
      (pss_cons (ps_set (i := 4) sc__law_number.nd rfl (Or.inl rfl) (pe_op op_mulX (pe_op op_mulX (pv 3) (pe_op op_add (pe_op op_add (pv 3) (pe_op op_mulX pe_int (pv 1))) pe_int)) (pe_op op_add (pe_op op_add (pv 3) (pv 0)) pe_int)))
      (pss_one (ps_ret (pe_op op_fdivW (pe_op op_mulX (pv 4) (pe_op op_add (pv 4) pe_int)) pe_int)))))), ?_⟩
    refine ⟨_, rfl, _, _, rfl, rfl, ⟨by decide, by decide, by decide⟩, _, _, rfl, rfl, _, rfl, iteD (fun _ => ⟨_, rfl, q _⟩) (fun _ => ?_)⟩
    have b1 : Bn 20 (977 * at_) := ((bnl (n := 10) (x := 977) (by decide)).mul ha).mono (by decide)
    have b2 : Bn 1048598 (cell + 977 * at_) := (hc.add b1).mono (by decide)
    refine ⟨_, rfl, _, rfl, _, _, rfl, rfl, (bnl (n := 10) (by decide)).mulOk ha (by decide), _, _, rfl, rfl, _, _, rfl, rfl, b2.mulOk (bnl (n := 16) (by decide)) (by decide), _, rfl, _, _, rfl, rfl, _, _, rfl, rfl, by show (0 : Int) < 2147483647; decide, ?_⟩
    dsimp only
    generalize hm : ((cell + 977 * at_) * 48271 + whole) % 2147483647 = m
    have b3 : Bn 31 m := by
      rw [← hm]
      exact Bn.mod (bnl (by decide)) (by decide)
    have b4 : Bn 17 (31 * at_) := ((bnl (n := 5) (x := 31) (by decide)).mul ha).mono (by decide)
    have b5 : Bn 60 (m + 31 * at_ + 7) := ((b3.add b4).add (bnl (n := 3) (x := 7) (by decide))).mono (by decide)
    have b6 : Bn 1048700 (m + cell + 5) := ((b3.add hc).add (bnl (n := 3) (x := 5) (by decide))).mono (by decide)
    have b7 : Bn 91 (m * (m + 31 * at_ + 7)) := (b3.mul b5).mono (by decide)
    refine ⟨_, rfl, _, rfl, _, rfl, _, _, rfl, rfl, (bnl (n := 5) (by decide)).mulOk ha (by decide), _, _, rfl, rfl, _, _, rfl, rfl, _, _, rfl, rfl, b3.mulOk b5 (by decide), _, rfl, _, rfl, _, _, rfl, rfl, _, _, rfl, rfl, _, _, rfl, rfl, b7.mulOk b6 (by decide), ?_⟩
    have b8 : Bn 1048791 (m * (m + 31 * at_ + 7) * (m + cell + 5)) := (b7.mul b6).mono (by decide)
    dsimp only
    generalize m * (m + 31 * at_ + 7) * (m + cell + 5) = x at b8 ⊢
    have b9 : Bn 1048900 (x + 48271) := (b8.add (bnl (n := 16) (x := 48271) (by decide))).mono (by decide)
    exact ⟨_, rfl, _, rfl, _, _, rfl, rfl, _, _, rfl, rfl, b8.mulOk b9 (by decide), _, _, rfl, rfl, divOk_lit (by decide) (by decide), q _⟩
theorem H__law_whole (p : Pl K mg "_law_whole" s__law_whole) (B : Bi mg) : Has P w K mg base CX0 1 "_law_whole" ["_law_found"] (SpIsNumber K) := by
  refine p.mk0 sc__law_whole (fun _ _ _ _ _ _ us hl => match us, hl with | [_], _ => rfl) (fun vs H Q E h => ?_) (fun f cdv A outer s H vs Q E hr h => ?_)
  · cases h; rfl
  · obtain @⟨x, T, i, b, _, _, _, hT, hi, hb, q⟩ := h
    refine ⟨_, (pss_one (ps_ret (pe_and (pe_callB call_isi (by rfl) B.isinstance (by decide +kernel) (pa_cons (pv 0) (pa_cons (pe_bltn (v := .ty "int") (by rfl) B.int (by decide +kernel) rfl) pa_nil))) (pe_one (pe_not (pe_callB call_isi (by rfl) B.isinstance (by decide +kernel) (pa_cons (pv 0) (pa_cons (pe_bltn (v := .ty "bool") (by rfl) B.bool (by decide +kernel) rfl) pa_nil)))))))), ?_⟩
    refine ⟨_, rfl, x, _, _, _, i, rfl, .ty "int", hT, kit_ty hi, i, rfl, ?_⟩
    cases i with
    | false => exact iteF q
    | true => exact iteT ⟨_, rfl, x, _, _, _, b, rfl, .ty "bool", hT, kit_ty hb, b, rfl, q⟩
structure CmInv (a b one other : Int) : Prop where
  o1 : 0 < one
  o2 : 0 ≤ other
  dv : ∀ d : Int, (d ∣ one ∧ d ∣ other) ↔ (d ∣ a ∧ d ∣ b)
theorem CmInv.turn {a b one other : Int} (h : CmInv a b one other) (ho : 0 < other) : CmInv a b other (one % other) := by
  have hm := Int.emod_add_mul_ediv one other
  refine ⟨ho, Int.emod_nonneg _ (Int.ne_of_gt ho), fun d => ?_⟩
  rw [← h.dv d]
  constructor
  · rintro ⟨a1, a2⟩
    refine ⟨?_, a1⟩
    rw [← hm]
    exact Int.dvd_add a2 (Int.dvd_trans a1 (Int.dvd_mul_right _ _))
  · rintro ⟨a1, a2⟩
    refine ⟨a2, ?_⟩
    have : one % other = one - other * (one / other) := by omega
    rw [this]
    exact Int.dvd_sub a1 (Int.dvd_trans a2 (Int.dvd_mul_right _ _))
theorem H__law_common (p : Pl K mg "_law_common" s__law_common) : Has P w K mg base CX0 1 "_law_common" ["_law_one", "_law_other"] SpCommon := by
  refine p.mk0 sc__law_common (fun _ _ _ _ _ _ us hl => match us, hl with | [_, _], _ => rfl) (fun vs H Q E h => ?_) (fun f cdv A outer s H vs Q E hr h => ?_)
  · cases h; rfl
  · obtain @⟨a, b, _, _, _, ha, hb, q⟩ := h
    refine ⟨_, (pss_cons (ps_while PassesOwn.never (pt_cmpR op_gt (pv 1) pe_int (nomark _)) (pss_one (ps_par (i := 0) (j := 1) (by rfl) sc__law_common.nd rfl rfl (by decide) rfl rfl (pa_cons (pv 1) (pa_cons (pe_op op_mod (pv 0) (pv 1)) pa_nil)) (by rfl))))
      (pss_one (ps_ret (pv 0)))), ?_⟩
    refine while_by (fun σ H' => H' = H ∧ ∃ one other, σ = [some (.int one), some (.int other)] ∧ CmInv a b one other) (fun σ _ => slotN σ 1) ⟨rfl, a, b, rfl, ha, Int.le_of_lt hb, fun d => Iff.rfl⟩ ?_ (fun σ H Q Q' hq h => ?_)
    · rintro σ H' ⟨rfl, one, other, rfl, I⟩
      refine ⟨_, rfl, _, _, rfl, rfl, _, rfl, iteD (fun ho => ?_) (fun ho => ?_)⟩
      · have ho : 0 < other := ho
        refine ⟨_, rfl, _, rfl, _, rfl, _, _, rfl, rfl, ho, _, _, rfl, ⟨rfl, _, _, rfl, I.turn ho⟩, ?_⟩
        have h0 : 0 ≤ one % other := Int.emod_nonneg _ (Int.ne_of_gt ho)
        have h1 : one % other < other := Int.emod_lt_of_pos _ ho
        show (one % other).toNat < other.toNat
        omega
      · have h0 := I.o2
        have ho : ¬ 0 < other := ho
        have e : other = 0 := by omega
        subst e
        refine ⟨_, rfl, q one I.o1 fun d => ?_⟩
        rw [← I.dv d]
        exact ⟨fun z => ⟨z, Int.dvd_zero d⟩, fun z => z.1⟩
    · obtain ⟨v, e, i, j, e1, e2, k, e3, q⟩ := h
      exact ⟨v, e, i, j, e1, e2, k, e3, hq _ _ q⟩
theorem div_pos_of_dvd {g b : Int} (hg : 0 < g) (hb : 0 < b) (d : g ∣ b) : 0 < b / g := by
  obtain ⟨c, ec⟩ := d
  have e2 : b / g = c := by rw [ec]; exact Int.mul_ediv_cancel_left c (Int.ne_of_gt hg)
  rw [e2]
  rcases Int.lt_or_le 0 c with h | h
  · exact h
  · have h3 : g * c ≤ g * 0 := Int.mul_le_mul_of_nonneg_left h (Int.le_of_lt hg)
    omega
theorem H__law_few (p : Pl K mg "_law_few" s__law_few) (h__law_common : Has P w K mg base CX0 1 "_law_common" ["_law_one", "_law_other"] SpCommon) : Has P w K mg base CX0 2 "_law_few" ["_law_size", "_law_first", "_law_second"] SpFew := by
  refine p.mk0 sc__law_few (fun _ _ _ _ _ _ us hl => match us, hl with | [_, _, _], _ => rfl) (fun vs H Q E h => ?_) (fun f cdv A outer s H vs Q E hr h => ?_)
  · cases h; rfl
  · obtain @⟨sz, a, b, _, _, _, hs, ha, hb, q⟩ := h
    refine ⟨_, (pss_cons (ps_set (i := 3) sc__law_few.nd rfl (Or.inl rfl) (pe_fn h__law_common (hr.mono (by decide)) pass0 (pa_cons (pv 1) (pa_cons (pv 2) pa_nil))))
      (pss_cons (ps_if (pt_cmpR op_gt (pe_op op_mod (pv 0) (pv 3)) pe_int (nomark _)) (pss_one (ps_ret (pe_un un_neg pe_int))) pss_nil)
      (pss_cons (ps_par3 (i := 0) (j := 1) (l := 2) (by rfl) sc__law_few.nd rfl rfl rfl (by decide) (by decide) (by decide) rfl rfl rfl (pa_cons (pe_op op_fdivW (pv 0) (pv 3)) (pa_cons (pe_op op_fdivW (pv 1) (pv 3)) (pa_cons (pe_op op_fdivW (pv 2) (pv 3)) pa_nil))) (by rfl))
      (pss_cons (ps_par3 (i := 4) (j := 5) (l := 6) (by rfl) sc__law_few.nd rfl rfl rfl (by decide) (by decide) (by decide) rfl rfl rfl (pa_cons (pe_lst pa_nil) (pa_cons (pv 1) (pa_cons (pv 2) pa_nil))) (by rfl))
      (pss_cons (ps_while PassesOwn.never (pt_cmpR op_gt (pv 6) pe_int (nomark _)) (pss_cons (ps_expr (pe_bm PySem.F.plainAttrs_list PySem.F.slot_list_append PySem.F.type_list_append mt_append (pv 4) (pa_cons (pe_op op_fdivW (pv 5) (pv 6)) pa_nil)))
      (pss_one (ps_par (i := 5) (j := 6) (by rfl) sc__law_few.nd rfl rfl (by decide) rfl rfl (pa_cons (pv 6) (pa_cons (pe_op op_mod (pv 5) (pv 6)) pa_nil)) (by rfl)))))
      (pss_cons (ps_asg (pe_tup (pa_cons pe_int (pa_cons pe_int pa_nil))) (pg_tup (by rfl) (pgs_cons (pg_name (i := 7) sc__law_few.nd rfl (Or.inl rfl)) (pgs_cons (pg_name (i := 8) sc__law_few.nd rfl (Or.inl rfl)) pgs_nil))))
      (pss_cons (ps_for PassesOwn.never (by rfl) (pi_list (pe_revL (pv 4))) (pg_name (i := 9) sc__law_few.nd rfl (Or.inl rfl)) (pss_one (ps_par (i := 7) (j := 8) (by rfl) sc__law_few.nd rfl rfl (by decide) rfl rfl (pa_cons (pv 8) (pa_cons (pe_op op_sub (pv 7) (pe_op op_mulX (pv 9) (pv 8))) pa_nil)) (by rfl))))
      (pss_cons (ps_set (i := 10) sc__law_few.nd rfl (Or.inl rfl) (pe_op op_mod (pe_op op_mulX (pv 0) (pv 7)) (pv 2)))
      (pss_one (ps_ret (pe_ifExp (pt_cmpR op_le (pe_op op_mulX (pv 10) (pv 1)) (pv 0) (nomark _)) (pv 10) (pe_un un_neg pe_int)))))))))))), ?_⟩
    refine ⟨_, rfl, _, rfl, .mk ha.pos hb.pos fun g hg dg => ?_⟩
    obtain ⟨da, db⟩ := (dg g).mp (Int.dvd_refl g)
    have bg : Bn 2000 g := hb.bn.of_le (Int.le_of_lt hg) (Int.le_of_dvd hb.pos db)
    refine ⟨_, rfl, _, rfl, _, _, rfl, rfl, hg, _, _, rfl, rfl, _, rfl, iteD (fun c => ?_) (fun c => ?_)⟩
    · have c : 0 < sz % g := c
      have e := few_none (s := sz) hb.pos dg (by omega)
      rw [e] at q
      exact ⟨_, rfl, q _ (Same.refl H)⟩
    · have c0 : 0 ≤ sz % g := Int.emod_nonneg _ (Int.ne_of_gt hg)
      have c : ¬ 0 < sz % g := c
      have hz : sz % g = 0 := by omega
      have p1 : 0 < sz / g := div_pos_of_dvd hg hs.pos (Int.dvd_of_emod_eq_zero hz)
      have p2 : 0 < a / g := div_pos_of_dvd hg ha.pos da
      have p3 : 0 < b / g := div_pos_of_dvd hg hb.pos db
      have n1 : Bn 2000 (sz / g) := hs.bn.div hg
      have n2 : Bn 2000 (a / g) := ha.bn.div hg
      have n3 : Bn 2000 (b / g) := hb.bn.div hg
      have key : ∀ rows : List Int, Eu (a / g) (b / g) rows → fewI (parts sz a b) = if sz / g * (back rows).1 % (b / g) * (a / g) ≤ sz / g then sz / g * (back rows).1 % (b / g) else -1 := fun rows E => few_back (g2 := 0) hs.pos ha.pos hb.pos hg dg E hz
      refine ⟨_, rfl, _, rfl, _, _, rfl, rfl, bg.divOk hg (by decide) (by decide), _, rfl, _, rfl, _, _, rfl, rfl, bg.divOk hg (by decide) (by decide), _, rfl, _, rfl, _, _, rfl, rfl, bg.divOk hg (by decide) (by decide), _, _, _, rfl, ?_⟩
      -- the rows
      refine ⟨Nat.zero_le _, fun R hR => ⟨_, rfl, _, rfl, _, _, _, rfl, ?_⟩⟩
      refine while_by (fun σ H' => ∃ one other rows, σ = [some (.int (sz / g)), some (.int (a / g)), some (.int (b / g)), some (.int g), some (.ref R), some (.int one), some (.int other), none, none, none, none] ∧ FwInv (a / g) (b / g) rows one other ∧ Same H H' ∧ H' R = some (.lst (rows.map V.int)))
        (fun σ _ => slotN σ 6) ⟨(a / g), (b / g), [], rfl, FwInv.start p2 p3, same_upd hR, upd_same⟩ ?_ (fun σ H Q Q' hq h => ?_)
      · rintro σ H1 ⟨one, other, rows, rfl, I, sm, eR⟩
        have m1 : Bn 2000 one := by
          rcases I.l1 with l | l
          · exact n2.of_le (Int.le_of_lt I.o1) l
          · exact n3.of_le (Int.le_of_lt I.o1) l
        have m2 : Bn 2000 other := n3.of_le I.o2 I.l2
        refine ⟨_, rfl, _, _, rfl, rfl, _, rfl, iteD (fun ho => ?_) (fun ho => ?_)⟩
        · have ho : 0 < other := ho
          have hl := I.few ho n2.lt n3.lt
          refine ⟨_, rfl, .inl ⟨rfl, _, sqL eR⟩, _, rfl, _, rfl, _, _, rfl, rfl, m2.divOk ho (by decide) (by decide), R, _, _, rfl, rfl, eR, ?_, ?_⟩
          · rw [List.length_map]
            exact Nat.lt_of_le_of_lt hl (by decide)
          · refine ⟨_, rfl, _, rfl, _, rfl, _, _, rfl, rfl, ho, _, _, rfl, ⟨_, _, rows ++ [one / other], rfl, I.turn ho, fun b o e => ?_, ?_⟩, ?_⟩
            · rw [upd_ne (ne_of_none e hR)]
              exact sm b o e
            · rw [upd_same, List.map_append]
              rfl
            · have h0 : 0 ≤ one % other := Int.emod_nonneg _ (Int.ne_of_gt ho)
              have h1 : one % other < other := Int.emod_lt_of_pos _ ho
              show (one % other).toNat < other.toNat
              omega
        · have h0 := I.o2
          have ho : ¬ 0 < other := ho
          have e0 : other = 0 := by omega
          subst e0
          have E : Eu (a / g) (b / g) rows := by
            have := I.go [] (.nil I.o1)
            rw [List.append_nil] at this
            exact this
          -- mine, theirs = 1, 0
          refine ⟨by show 2 ≤ sizeLine; decide, fun p0 hp0 => ⟨p0, _, rfl, sqT upd_same, rfl, _, _, rfl, _, _, rfl, rfl, ?_⟩⟩
          have sm1 : Same H1 (upd H1 p0 (.tup [.int 1, .int 0])) := same_upd hp0
          generalize upd H1 p0 (.tup [.int 1, .int 0]) = H2 at sm1 ⊢
          -- the way back
          refine ⟨_, rfl, R, _, rfl, sqL (sm1 _ _ eR), fun V1 hV => ?_⟩
          have sm2 : Same H2 (upd H2 V1 (.lst (rows.map V.int).reverse)) := same_upd hV
          have hVS : (upd H2 V1 (.lst (rows.map V.int).reverse)) V1 = some (.lst (rows.map V.int).reverse) := upd_same
          generalize upd H2 V1 (.lst (rows.map V.int).reverse) = H3 at sm2 hVS ⊢
          refine ⟨V1, rfl, ⟨_, sqL hVS⟩, for_list (K := K) (a := V1) (xs := (rows.map V.int).reverse) (fun i σ H' => H' = H3 ∧ ∃ y, σ = [some (.int (sz / g)), some (.int (a / g)), some (.int (b / g)), some (.int g), some (.ref R), some (.int one), some (.int 0), some (.int (back (rows.drop (rows.length - i))).1), some (.int (back (rows.drop (rows.length - i))).2), y, none])
            ⟨rfl, none, ?_⟩ (fun i σ H' _ ⟨e, _⟩ => by rw [e]; exact sqL hVS) ?_ ?_⟩
          · rw [Nat.sub_zero, List.drop_length]
            rfl
          · rintro i y σ H' hi ⟨rfl, z, rfl⟩
            rw [← List.map_reverse] at hi
            obtain ⟨n, hn, rfl⟩ := ints_at hi
            have il : i < rows.length := by
              have := (List.getElem?_eq_some_iff.mp hn).1
              rw [List.length_reverse] at this
              exact this
            rw [List.getElem?_reverse il] at hn
            have ed : rows.drop (rows.length - (i + 1)) = n :: rows.drop (rows.length - i) := by
              have l2 : rows.length - 1 - i < rows.length := by omega
              obtain ⟨hx, ex⟩ := List.getElem?_eq_some_iff.mp hn
              rw [show rows.length - (i + 1) = rows.length - 1 - i by omega, List.drop_eq_getElem_cons hx, ex, show rows.length - 1 - i + 1 = rows.length - i by omega]
            obtain ⟨x, yy, E1, lx, ly⟩ := E.drop (B := (a / g) + (b / g)) (by omega) (by omega) (rows.length - (i + 1)) (by omega)
            rw [ed] at E1
            have nab : Bn 4001 ((a / g) + (b / g)) := (n2.add n3).mono (by decide)
            cases E1 with
            | cons h1 h2 E2 =>
              have bnq : Bn 4001 (x / yy) := (nab.of_le (Int.le_of_lt h1) lx).div h2
              have bnt : Bn 4001 (back (rows.drop (rows.length - i))).2 := by
                obtain ⟨_, _, _, _, bd⟩ := E2.back
                by_cases hr : rows.drop (rows.length - i) = []
                · rw [hr]
                  exact bn0
                · exact (nab.of_le (Int.le_of_lt h2) ly).le (bd hr).2
              refine ⟨_, rfl, _, rfl, _, rfl, _, rfl, _, _, rfl, rfl, bnq.mulOk bnt (by decide), _, _, rfl, rfl, _, _, rfl, ?_⟩
              refine ⟨rfl, some (.int (x / yy)), ?_⟩
              rw [ed]
              rfl
          · rintro σ H' ⟨rfl, y, rfl⟩
            rw [List.length_reverse, List.length_map, Nat.sub_self, List.drop_zero]
            have bm : Bn 4001 (back rows).1 := by
              obtain ⟨_, _, _, _, bd⟩ := E.back
              by_cases hr : rows = []
              · rw [hr]
                exact (bnl (n := 1) (by decide)).mono (by decide)
              · exact (n3.le (bd hr).1).mono (by decide)
            have bf : Bn 2000 ((sz / g) * (back rows).1 % (b / g)) := n3.mod p3
            refine ⟨_, rfl, _, rfl, _, _, rfl, rfl, n1.mulOk bm (by decide), _, rfl, _, _, rfl, rfl, p3, ?_⟩
            refine ⟨_, rfl, _, rfl, _, _, rfl, rfl, bf.mulOk n2 (by decide), _, rfl, _, _, rfl, rfl, _, rfl, iteD (fun c => ?_) (fun c => ?_)⟩
            · have e := key rows E
              rw [if_pos c] at e
              rw [e] at q
              exact ⟨_, rfl, q _ (sm.trans (sm1.trans sm2))⟩
            · have e := key rows E
              rw [if_neg c] at e
              rw [e] at q
              exact ⟨_, rfl, q _ (sm.trans (sm1.trans sm2))⟩
      · obtain ⟨v, e, i, j, e1, e2, k, e3, q⟩ := h
        exact ⟨v, e, i, j, e1, e2, k, e3, hq _ _ q⟩
end
end BF

/-! ### further rules: min of a pair -/
namespace BF
open PySem PySem.Spec PyProof.Rows L2
def rMinT (K : PySem.W.Frag) : List V → Hp → VK → Prop := fun vs H Q => ∃ (a : Addr) (i j : Int), vs = [V.ref a] ∧ SqT K H a [.int i, .int j] ∧ Q (.int (min i j)) H
theorem cr_minT {X : Cx} (hu : X.A.units + 64 < cLine) (hc : X.calm = true) : CallR X (.builtin "min") (rMinT X.K) := by
  intro pins s σ H vs us Q I r h
  obtain ⟨a, i, j, rfl, hs, q⟩ := h
  obtain ⟨its, rv, ht, _⟩ := I.tuple hs
  rw [Vals.ref1 r]
  obtain ⟨as, ra⟩ := Dp.readsAll I [.int i, .int j] _ _ (.cons (.int i) (.cons (.int j) .nil)) rv
  have al : PySem.W.AlikeAll [.int i, .int j] := by
    refine ⟨fun x hx y hy => ?_, fun x hx => ?_⟩
    · have ex : x = .int i ∨ x = .int j := by simpa using hx
      have ey : y = .int i ∨ y = .int j := by simpa using hy
      rcases ex with rfl | rfl <;> rcases ey with rfl | rfl <;> rfl
    · have ex : x = .int i ∨ x = .int j := by simpa using hx
      rcases ex with rfl | rfl <;> exact fun z => nomatch z
  refine PySem.W.min_tuple_data (I.ok.hd hc) ht (by simpa using ra) al ?_ fun k v h' tk bs hv hr hk => ?_
  · have : PyData.depthAll [.int i, .int j] ≤ 8 := by simp [PyData.depthAll, PyData.depth]
    omega
  · have e : PySem.W.minD (.int i) [.int j] = .int (min i j) := PySem.W.minD_ints i [j]
    rw [e] at hr
    refine ⟨.int (min i j), H, I.kept hk, ?_, q⟩
    cases hr with
    | int n t => exact ⟨t, rfl⟩
end BF

/-! ### small helpers for the laws: the script's cells, picks out of four, sizes of drawn numbers -/
namespace BF
open PySem PySem.Spec PyProof.Rows L2
inductive SpLaw (K : PySem.W.Frag) : Sp where
  | mk {a : Addr} {ns : List Int} {H : Hp} {Q : VK} {E : XK} (hl : ns.length ≤ 63) (hb : ∀ z ∈ ns, Builtin.Int.intBits z ≤ 1048576) (hS : SqL K H a (ns.map V.int)) (q : ∀ H', Q (.bl true) H') : SpLaw K [.ref a] H Q E
theorem bn_of_lt {x : Int} (h0 : 0 ≤ x) (h : x < 10 ^ 60) : Bn 200 x := by
  refine ⟨?_⟩
  have e : (10 : Int) ^ 60 = ((10 ^ 60 : Nat) : Int) := by decide
  have l : (10 : Nat) ^ 60 < 2 ^ 200 := by decide
  rw [e] at h
  omega
theorem sz_of_lt {x : Int} (h0 : 0 < x) (h : x < 10 ^ 60) : Sz x := ⟨h0, (bn_of_lt (by omega) h).mono (by decide)⟩
theorem cut_map {α β : Type} (f : α → β) (xs : List α) (lo hi : Nat) : ((xs.map f).drop lo).take hi = ((xs.drop lo).take hi).map f := by
  rw [← List.map_drop, ← List.map_take]
theorem cut_ints (ns : List Int) (lo hi : Option Int) : ∃ ms : List Int, cutV (ns.map V.int) lo hi = ms.map V.int := by
  unfold cutV
  exact ⟨_, cut_map V.int ns _ _⟩
theorem at_cell {ns : List Int} {k : Int} (h0 : -(ns.length : Int) ≤ k) (h1 : k < ns.length) : ∃ c, c ∈ ns ∧ atI (ns.map V.int) k = some (.int c) := by
  rcases Int.lt_or_le k 0 with hk | hk
  · have hj : (k + ns.length).toNat < ns.length := by omega
    refine ⟨ns[(k + ns.length).toNat], List.getElem_mem _, ?_⟩
    have e : ixN (ns.map V.int).length k = some (k + ns.length).toNat := by
      unfold ixN
      rw [List.length_map, if_neg (by omega), if_pos (by omega)]
    unfold atI
    rw [e]
    show (ns.map V.int)[(k + ns.length).toNat]? = _
    rw [List.getElem?_map, List.getElem?_eq_getElem hj]
    rfl
  · have hj : k.toNat < ns.length := by omega
    refine ⟨ns[k.toNat], List.getElem_mem _, ?_⟩
    obtain ⟨j, rfl⟩ := Int.eq_ofNat_of_zero_le hk
    refine atI_nat ?_
    rw [List.getElem?_map]
    have hj2 : j < ns.length := by omega
    rw [List.getElem?_eq_getElem hj2]
    rfl
theorem pick4 {x0 x1 x2 x3 : V} {k : Int} (h0 : 0 ≤ k) (h4 : k < 4) : ∃ v, atI [x0, x1, x2, x3] k = some v ∧ (v = x0 ∨ v = x1 ∨ v = x2 ∨ v = x3) := by
  have e : k = 0 ∨ k = 1 ∨ k = 2 ∨ k = 3 := by omega
  rcases e with rfl | rfl | rfl | rfl
  · exact ⟨x0, rfl, .inl rfl⟩
  · exact ⟨x1, rfl, .inr (.inl rfl)⟩
  · exact ⟨x2, rfl, .inr (.inr (.inl rfl))⟩
  · exact ⟨x3, rfl, .inr (.inr (.inr rfl))⟩
end BF

/-! ### the law k03 -/
namespace BF
open PySem PySem.Spec PyProof.Rows L2
inductive SpRight : Sp where
  | mk {s a b : Int} {H : Hp} {Q : VK} {E : XK} (hs : Sz s) (ha : Sz a) (hb : Sz b) (q : ∀ H', Same H H' → Q (.bl true) H') : SpRight [.int s, .int a, .int b] H Q E
section
variable {P : Program} {w : World} {K : PySem.W.Frag} {mg : Str → Option Value} {base : Heap}
theorem H__law_right (p : Pl K mg "_law_right" s__law_right) (B : Bi mg) (h_sum_of : Has P w K mg base CX0 3 "sum_of" ["size", "first", "second"] SpParts)
    (h__law_few : Has P w K mg base CX0 2 "_law_few" ["_law_size", "_law_first", "_law_second"] SpFew) (h__law_whole : Has P w K mg base CX0 1 "_law_whole" ["_law_found"] (SpIsNumber K)) :
    Has P w K mg base CX0 4 "_law_right" ["_law_size", "_law_first", "_law_second"] SpRight := by
  refine p.mk0 sc__law_right (fun _ _ _ _ _ _ us hl => match us, hl with | [_, _, _], _ => rfl) (fun vs H Q E h => ?_) (fun f cdv A outer s H vs Q E hr h => ?_)
  · cases h; rfl
  · obtain @⟨sz, a, b, _, _, _, hs, ha, hb, q⟩ := h
    refine ⟨_, (pss_cons (ps_par (i := 3) (j := 4) (by rfl) sc__law_right.nd rfl rfl (by decide) rfl rfl (pa_cons (pe_fn h_sum_of (hr.mono (by decide)) pass0 (pa_cons (pv 0) (pa_cons (pv 1) (pa_cons (pv 2) pa_nil)))) (pa_cons (pe_fn h__law_few (hr.mono (by decide)) pass0 (pa_cons (pv 0) (pa_cons (pv 1) (pa_cons (pv 2) pa_nil)))) pa_nil)) (by rfl))
      (Evl.pss_cut (ps_if (pt_cmpR op_lt (pv 0) pe_int (nomark _)) (pss_cons (ps_setLc (i := 5) (own := [("_law_many", 6)]) (by rfl) sc__law_right.nd rfl rfl (sw_true rfl rfl rfl (by decide +kernel)) (pi_range1 (by rfl) B.range (pa_cons (pe_op op_add (pe_op op_fdivW (pv 0) (pv 1)) pe_int) pa_nil)) (blkOk_by (own := [("_law_many", 6)]) (N := ["_law_size", "_law_first", "_law_second", "_law_found", "_law_few_here", "_law_good", "_law_many"]) (sc := defScope s__law_right) (by decide +kernel)) (fun _ _ _ _ _ => (pg_name (i := 6) sc__law_right.nd rfl (Or.inl rfl))) (fun _ _ _ _ _ => pts_one (pt_cmpR op_eq (pe_op op_mod (pe_op op_sub (pv 0) (pe_op op_mulX (pv 6) (pv 1))) (pv 2)) pe_int (nomark _))) (fun _ _ _ _ _ => (pv 6)))
      (pss_one (ps_if (pt_cmpR op_ne (pv 4) (pe_ix ix_list (pe_op op_cat (pv 5) (pe_lst (pa_cons (pe_un un_neg pe_int) pa_nil))) pe_int (fun _ _ => rfl)) (nomark _)) (pss_one (ps_ret pe_bl)) pss_nil))) pss_nil)
      (pss_cons (ps_if (pt_cmpR op_lt (pv 4) pe_int (nomark _)) (pss_one (ps_ret (pe_cmpR op_isN (pv 3) pe_non (nomark _)))) pss_nil)
      (pss_cons (ps_if (PW.pt (pw_or (pt_not (pt_val (pe_callB call_isi (by rfl) B.isinstance (by decide +kernel) (pa_cons (pv 3) (pa_cons (pe_bltn (v := .ty "tuple") (by rfl) B.tuple (by decide +kernel) rfl) pa_nil))))) (pw_or (pt_cmpR op_ne (pe_callB call_len_seq (by rfl) B.len PySem.boot_len (pa_cons (pv 3) pa_nil)) pe_int (nomark _)) (pw_or (pt_not (pt_val (pe_fn h__law_whole (hr.mono (by decide)) pass0 (pa_cons (pe_ix ix_tup (pv 3) pe_int (fun _ _ => rfl)) pa_nil)))) (pw_or1 (pt_not (pt_val (pe_fn h__law_whole (hr.mono (by decide)) pass0 (pa_cons (pe_ix ix_tup (pv 3) pe_int (fun _ _ => rfl)) pa_nil))))))))) (pss_one (ps_ret pe_bl)) pss_nil)
      (pss_cons (ps_if (PW.pt (pw_or (pt_cmpR op_ne (pe_op op_add (pe_op op_mulX (pe_ix ix_tup (pv 3) pe_int (fun _ _ => rfl)) (pv 1)) (pe_op op_mulX (pe_ix ix_tup (pv 3) pe_int (fun _ _ => rfl)) (pv 2))) (pv 0) (nomark _)) (pw_or1 (pt_cmpR op_lt (pe_callB (cr_minT hr.units rfl) (by rfl) B.min (by decide +kernel) (pa_cons (pv 3) pa_nil)) pe_int (nomark _))))) (pss_one (ps_ret pe_bl)) pss_nil)
      (pss_one (ps_ret (pe_and (pe_cmpR op_eq (pe_ix ix_tup (pv 3) pe_int (fun _ _ => rfl)) (pv 4) (nomark _)) (pe_one (pe_cmpR (op_eqD hr.units) (pe_fn h_sum_of (hr.mono (by decide)) pass0 (pa_cons (pv 0) (pa_cons (pv 1) (pa_cons (pv 2) pa_nil)))) (pv 3) (nomark _))))))))))), ?_⟩
    refine ⟨_, rfl, _, rfl, _, rfl, .mk hs ha hb (tell_of fun v H1 sm1 tv => ?_)⟩
    refine ⟨_, rfl, _, rfl, _, rfl, .mk hs ha hb fun H2 sm2 => ⟨_, _, rfl, ?_⟩⟩
    have tv2 := tv.mono sm2
    -- of few by trying
    refine ⟨fun σ H' => Same H2 H' ∧ ∃ y6 y7, σ = [some (.int sz), some (.int a), some (.int b), some v, some (.int (fewI (parts sz a b))), y6, y7], ?_, ?_⟩
    · refine ⟨_, rfl, _, _, rfl, rfl, _, rfl, iteD (fun c => ?_) (fun c => ⟨Same.refl _, _, _, rfl⟩)⟩
      have c : sz < 60 := c
      have hq : 0 ≤ sz / a := Int.ediv_nonneg (Int.le_of_lt hs.pos) (Int.le_of_lt ha.pos)
      have hq2 : sz / a ≤ sz := by
        have hm := Int.emod_add_mul_ediv sz a
        have := Int.emod_nonneg sz (Int.ne_of_gt ha.pos)
        have h1 := ha.pos
        have : 1 * (sz / a) ≤ a * (sz / a) := Int.mul_le_mul_of_nonneg_right (by omega) hq
        omega
      refine ⟨_, rfl, _, rfl, _, _, rfl, rfl, ha.bn.divOk ha.pos (by decide) (by decide), _, _, rfl, rfl, _, rfl, by show -(2 ^ 62) ≤ sz / a + 1; omega, by show sz / a + 1 < 2 ^ 62; omega, fun D hD => ?_⟩
      refine lc_range (lo := 0) (n := (sz / a + 1).toNat) (fun i H' => Same H2 H' ∧ H' D = some (.lst ((hits sz a b i).map V.int))) ⟨same_upd hD, upd_same⟩ ?_ ?_
      · rintro i H' hi ⟨sm, eD⟩
        have bi : Bn 2000 (0 + (i : Int)) := (bnl (n := 8) (by omega)).mono (by decide)
        have e0 : (0 : Int) + (i : Int) = i := by omega
        refine ⟨rfl, _, rfl, _, rfl, _, rfl, _, _, rfl, rfl, bi.mulOk ha.bn (by decide), _, _, rfl, rfl, _, rfl, _, _, rfl, rfl, hb.pos, rfl, _, rfl, iteEq (fun z => ?_) (fun z => ?_)⟩
        · refine ⟨_, rfl, _, eD, ?_, ?_, ?_⟩
          · rw [List.length_map]
            exact Nat.lt_of_le_of_lt (hits_len _ _ _ _) (Nat.lt_of_lt_of_le hi (size4 (by omega)))
          · intro b1 o e
            rw [upd_ne (ne_of_none e hD)]
            exact sm b1 o e
          · rw [e0] at z
            rw [upd_same, hits_succ, if_pos z, List.map_append, e0]
            rfl
        · rw [e0] at z
          rw [hits_succ, if_neg z, List.append_nil]
          exact ⟨sm, eD⟩
      · rintro H' ⟨sm, eD⟩
        -- if few_here != (good + [-1])[0]
        have key := hits_few hs.pos ha.pos hb.pos
        refine ⟨_, rfl, _, rfl, _, rfl, by show 1 ≤ sizeLine; decide, fun p1 hp1 => ?_⟩
        have d1 : D ≠ p1 := ne_of_none eD hp1
        refine ⟨D, p1, _, _, rfl, rfl, by rw [upd_ne d1]; exact eD, upd_same, ?_, fun p2 hp2 => ?_⟩
        · rw [List.length_map]
          exact size4 (Nat.le_trans (Nat.add_le_add_right (hits_len _ _ _ _) _) (by simp; omega))
        · refine ⟨p2, _, 0, .int (fewI (parts sz a b)), rfl, rfl, sqL upd_same, ?_, rfl, _, rfl, iteNe (fun z => absurd rfl z) (fun z => ⟨fun b1 o e => ?_, _, _, rfl⟩)⟩
          · show atI _ ((0 : Nat) : Int) = _
            refine atI_nat ?_
            have : ((hits sz a b (sz / a + 1).toNat).map V.int ++ [V.int (-1)])[0]? = ((hits sz a b (sz / a + 1).toNat ++ [-1]).map V.int)[0]? := by rw [List.map_append]; rfl
            rw [this, List.getElem?_map, key]
            rfl
          · have x1 := sm b1 o e
            have x2 : (upd H' p1 (.lst [V.int (-1)])) b1 = some o := by rw [upd_ne (ne_of_none x1 hp1)]; exact x1
            rw [upd_ne (ne_of_none x2 hp2)]
            exact x2
    · rintro σ H3 ⟨sm3, y6, y7, rfl⟩
      have tv3 := tv2.mono sm3
      have smA : Same H H3 := sm1.trans (sm2.trans sm3)
      have neg := few_neg (s := sz) ha.pos hb.pos
      have spec := parts_is (s := sz) ha.pos hb.pos
      refine ⟨_, rfl, _, _, rfl, rfl, _, rfl, iteD (fun c => ?_) (fun c => ?_)⟩
      · rw [neg.mp c] at tv3
        obtain rfl : v = .non := tv3
        exact ⟨_, rfl, rfl, q _ smA⟩
      · cases e : parts sz a b with
        | none => exact absurd (neg.mpr e) c
        | some y =>
          rw [e] at tv3 spec
          obtain ⟨pt, rfl, hpt⟩ := tv3
          obtain ⟨⟨r1, r2, r3⟩, _⟩ := spec
          obtain ⟨m, n⟩ := y
          simp only at r1 r2 r3 hpt
          have am : m * a ≤ sz := by
            have := Int.mul_nonneg r2 (Int.le_of_lt hb.pos)
            omega
          have bm : Bn 2000 m := hs.bn.of_le r1 (by
            have := ha.pos
            have : m * 1 ≤ m * a := Int.mul_le_mul_of_nonneg_left (by omega) r1
            omega)
          have bn' : Bn 2000 n := hs.bn.of_le r2 (by
            have := hb.pos
            have h1 : n * 1 ≤ n * b := Int.mul_le_mul_of_nonneg_left (by omega) r2
            have h2 := Int.mul_nonneg r1 (Int.le_of_lt ha.pos)
            omega)
          -- isinstance, len, whole
          refine ⟨_, rfl, _, _, _, _, true, rfl, .ty "tuple", .base (.tup hpt), kit_ty (by decide +kernel), true, rfl, iteF ?_⟩
          refine ⟨_, rfl, pt, _, rfl, .inr (sqT hpt), rfl, _, rfl, iteNe (fun z => absurd rfl z) (fun _ => ?_)⟩
          refine ⟨_, rfl, pt, _, 0, .int m, rfl, rfl, sqT hpt, rfl, num_int ⟨true, rfl, iteF ?_⟩⟩
          refine ⟨_, rfl, pt, _, 1, .int n, rfl, rfl, sqT hpt, rfl, num_int ⟨true, rfl, iteF ?_⟩⟩
          -- the sum, the least
          refine ⟨_, rfl, pt, _, 0, .int m, rfl, rfl, sqT hpt, rfl, _, rfl, _, _, rfl, rfl, bm.mulOk ha.bn (by decide), ?_⟩
          refine ⟨_, rfl, pt, _, 1, .int n, rfl, rfl, sqT hpt, rfl, _, rfl, _, _, rfl, rfl, bn'.mulOk hb.bn (by decide), _, _, rfl, rfl, _, rfl, rfl, _, rfl, iteNe (fun z => absurd r3 z) (fun _ => ?_)⟩
          refine ⟨_, rfl, pt, m, n, rfl, sqT hpt, _, _, rfl, rfl, _, rfl, iteD (fun z => absurd z (by show ¬ min m n < 0; omega)) (fun _ => ?_)⟩
          refine ⟨_, rfl, pt, _, 0, .int m, rfl, rfl, sqT hpt, rfl, _, rfl, rfl, true, ?_, iteT ?_⟩
          · exact congrArg V.bl (decide_eq_true rfl)
          · refine ⟨_, rfl, _, rfl, _, rfl, .mk hs ha hb (tell_of fun v2 H4 sm4 tv4 => ?_)⟩
            rw [e] at tv4
            obtain ⟨p4, rfl, hp4⟩ := tv4
            refine ⟨_, rfl, .tuple [.int m, .int n], .tuple [.int m, .int n], .tup (sqT hp4) (.cons (.int m) (.cons (.int n) .nil)), .tup (sqT (sm4 _ _ hpt)) (.cons (.int m) (.cons (.int n) .nil)), rfl, rfl, ?_⟩
            rw [SeqAt.eqv_refl]
            · exact q _ (smA.trans sm4)
            · rfl
end
end BF
namespace BF
open PySem PySem.Spec PyProof.Rows L2
section
variable {P : Program} {w : World} {K : PySem.W.Frag} {mg : Str → Option Value} {base : Heap}
theorem H_law (p : Pl K mg "law" s_law) (B : Bi mg) (h_sum_of : Has P w K mg base CX0 3 "sum_of" ["size", "first", "second"] SpParts)
    (h__law_number : Has P w K mg base CX0 1 "_law_number" ["_law_cell", "_law_at", "_law_whole_here"] SpNumber)
    (h__law_right : Has P w K mg base CX0 4 "_law_right" ["_law_size", "_law_first", "_law_second"] SpRight) :
    Has P w K mg base CX0 5 "law" ["_law_script"] (SpLaw K) := by
  refine p.mk0 sc_law (fun _ _ _ _ _ _ us hl => match us, hl with | [_], _ => rfl) (fun vs H Q E h => ?_) (fun f cdv A outer s H vs Q E hr h => ?_)
  · cases h; rfl
  · obtain @⟨a, ns, _, _, _, hl, hbits, hS, q⟩ := h
    refine ⟨_, (pss_cons (ps_set (i := 1) sc_law.nd rfl (Or.inl rfl) (pe_callB (cr_sum rfl) (by rfl) B.sum (by decide +kernel) (pa_cons (pe_slice sl_list (pv 0) po_none (po_some pe_int)) pa_nil)))
      (pss_cons (ps_for PassesOwn.never (by rfl) (pi_range1 (by rfl) B.range (pa_cons (pe_callB (call_min2 rfl) (by rfl) B.min (by decide +kernel) (pa_cons pe_int (pa_cons (pe_callB call_len_seq (by rfl) B.len PySem.boot_len (pa_cons (pv 0) pa_nil)) pa_nil))) pa_nil)) (pg_name (i := 2) sc_law.nd rfl (Or.inl rfl)) (pss_cons (ps_set (i := 3) sc_law.nd rfl (Or.inl rfl) (pe_ix ix_tup (pe_tup (pa_cons pe_int (pa_cons pe_int (pa_cons (pe_op op_pow pe_int pe_int) (pa_cons (pe_op op_pow pe_int pe_int) pa_nil))))) (pe_op op_mod (pe_op op_add (pv 1) (pv 2)) pe_int) (fun _ _ => rfl)))
      (pss_cons (ps_set (i := 4) sc_law.nd rfl (Or.inl rfl) (pe_fn h__law_number (hr.mono (by decide)) pass0 (pa_cons (pe_ix ix_list (pv 0) (pv 2) (fun _ _ => rfl)) (pa_cons (pv 2) (pa_cons (pv 1) pa_nil)))))
      (pss_cons (ps_set (i := 5) sc_law.nd rfl (Or.inl rfl) (pe_op op_add pe_int (pe_op op_mod (pe_op op_fdivW (pv 4) pe_int) (pv 3))))
      (pss_cons (ps_set (i := 6) sc_law.nd rfl (Or.inl rfl) (pe_op op_add pe_int (pe_op op_mod (pe_op op_fdivW (pe_op op_fdivW (pv 4) pe_int) (pv 3)) (pv 3))))
      (pss_cons (ps_set (i := 7) sc_law.nd rfl (Or.inl rfl) (pe_fn h__law_number (hr.mono (by decide)) pass0 (pa_cons (pe_ix ix_list (pv 0) (pe_op op_sub (pv 2) pe_int) (fun _ _ => rfl)) (pa_cons (pe_op op_add (pv 2) pe_int) (pa_cons (pv 1) pa_nil)))))
      (pss_cons (ps_set (i := 8) sc_law.nd rfl (Or.inl rfl) (pe_op op_add (pe_op op_add (pe_op op_mulX (pv 5) (pe_op op_mod (pv 7) pe_int)) (pe_op op_mulX (pv 6) (pe_op op_mod (pe_op op_fdivW (pv 7) pe_int) pe_int))) (pe_op op_mod (pe_op op_fdivW (pv 7) pe_int) pe_int)))
      (pss_one (ps_for PassesOwn.never (by rfl) (pi_list (pe_lst (pa_cons (pe_callB (call_max2 rfl) (by rfl) B.max (by decide +kernel) (pa_cons pe_int (pa_cons (pv 8) pa_nil))) (pa_cons (pe_op op_add pe_int (pe_op op_mod (pe_op op_fdivW (pv 7) pe_int) (pe_op op_add (pe_op op_mulX (pv 5) (pv 6)) pe_int))) (pa_cons (pe_op op_mulX (pv 5) (pv 6)) (pa_cons (pe_op op_add (pv 5) (pv 6)) pa_nil)))))) (pg_name (i := 9) sc_law.nd rfl (Or.inl rfl)) (pss_one (ps_if (PW.pt (pw_or (pt_not (pt_val (pe_fn h__law_right (hr.mono (by decide)) pass0 (pa_cons (pv 9) (pa_cons (pv 5) (pa_cons (pv 6) pa_nil)))))) (pw_or1 (pt_not (pt_val (pe_fn h__law_right (hr.mono (by decide)) pass0 (pa_cons (pv 9) (pa_cons (pv 6) (pa_cons (pv 5) pa_nil))))))))) (pss_one (ps_ret pe_bl)) pss_nil)))))))))))
      (pss_cons (ps_for PassesOwn.never (by rfl) (pi_range2 (by rfl) B.range (pa_cons pe_int (pa_cons pe_int pa_nil))) (pg_name (i := 8) sc_law.nd rfl (Or.inl rfl)) (pss_one (ps_if (pt_not (pt_val (pe_fn h__law_right (hr.mono (by decide)) pass0 (pa_cons (pv 8) (pa_cons (pe_op op_add pe_int (pe_op op_mod (pv 1) pe_int)) (pa_cons (pe_op op_add pe_int (pe_op op_mod (pe_op op_fdivW (pv 1) pe_int) pe_int)) pa_nil)))))) (pss_one (ps_ret pe_bl)) pss_nil)))
      (pss_one (ps_ret (pe_and (pe_cmpR op_isN (pe_fn h_sum_of (hr.mono (by decide)) pass0 (pa_cons pe_int (pa_cons pe_int (pa_cons pe_int pa_nil)))) pe_non (nomark _)) (pe_and (pe_cmpR (op_eqD hr.units) (pe_fn h_sum_of (hr.mono (by decide)) pass0 (pa_cons pe_int (pa_cons pe_int (pa_cons pe_int pa_nil)))) (pe_tup (pa_cons pe_int (pa_cons pe_int pa_nil))) (nomark _)) (pe_one (pe_cmpR (op_eqD hr.units) (pe_fn h_sum_of (hr.mono (by decide)) pass0 (pa_cons (pe_op op_pow pe_int pe_int) (pa_cons pe_int (pa_cons (pe_op op_pow pe_int pe_int) pa_nil)))) (pe_tup (pa_cons pe_int (pa_cons (pe_op op_pow pe_int pe_int) pa_nil))) (nomark _)))))))))), ?_⟩
    -- the sum of the cells
    obtain ⟨ms, ems⟩ := cut_ints ns none (some 63)
    refine ⟨_, rfl, 63, rfl, a, _, rfl, hS, fun p1 hp1 => ⟨p1, ms, rfl, sqL (by rw [← ems]; exact upd_same), ?_⟩⟩
    have sm1 : Same H (upd H p1 (.lst (cutV (ns.map V.int) none (some 63)))) := same_upd hp1
    generalize upd H p1 (.lst (cutV (ns.map V.int) none (some 63))) = H1 at sm1 ⊢
    generalize hwh : ms.sum = wh
    refine ⟨_, rfl, a, _, rfl, .inl (sm1.seq hS), _, _, rfl, ?_⟩
    refine ⟨_, rfl, ?_, ?_, ?_⟩
    · show -(2 ^ 62) ≤ (if ((ns.map V.int).length : Int) < 63 then ((ns.map V.int).length : Int) else 63)
      split <;> omega
    · show (if ((ns.map V.int).length : Int) < 63 then ((ns.map V.int).length : Int) else 63) < 2 ^ 62
      split <;> omega
    refine for_range (lo := 0) (n := _) (fun i σ H' => Same H H' ∧ ∃ y2 y3 y4 y5 y6 y7 y8 y9, σ = [some (.ref a), some (.int wh), y2, y3, y4, y5, y6, y7, y8, y9]) ⟨sm1, _, _, _, _, _, _, _, _, rfl⟩ ?_ ?_
    · rintro i σ H2 hi ⟨sm2, y2, y3, y4, y5, y6, y7, y8, y9, rfl⟩
      have hin : i < ns.length := by
        have : (if ((ns.map V.int).length : Int) < 63 then ((ns.map V.int).length : Int) else 63) ≤ ns.length := by
          rw [List.length_map]
          split <;> omega
        omega
      -- most
      refine ⟨_, _, rfl, rfl, ⟨by decide, by decide, by decide⟩, _, _, rfl, rfl, ⟨by decide, by decide, by decide⟩, by show 4 ≤ sizeLine; decide, fun p2 hp2 => ?_⟩
      have sm3 := sm2.trans (same_upd (o := .tup [.int 7, .int 60, .int (10 ^ (6 : Int).toNat), .int (10 ^ (20 : Int).toNat)]) hp2)
      have up2 : (upd H2 p2 (.tup [.int 7, .int 60, .int (10 ^ (6 : Int).toNat), .int (10 ^ (20 : Int).toNat)])) p2 = _ := upd_same
      obtain ⟨mv, emv, hmv⟩ := pick4 (x0 := .int 7) (x1 := .int 60) (x2 := .int (10 ^ (6 : Int).toNat)) (x3 := .int (10 ^ (20 : Int).toNat)) (k := (wh + (0 + (i : Int))) % 4) (Int.emod_nonneg _ (by decide)) (Int.emod_lt_of_pos _ (by decide))
      obtain ⟨most, rfl, hm1, hm2⟩ : ∃ most : Int, mv = .int most ∧ 0 < most ∧ most ≤ 10 ^ 20 := by
        rcases hmv with rfl | rfl | rfl | rfl <;> exact ⟨_, rfl, by decide, by decide⟩
      refine ⟨_, rfl, _, rfl, _, _, rfl, rfl, _, _, rfl, rfl, by show (0 : Int) < 4; decide, p2, _, _, _, rfl, rfl, sqT up2, emv, ?_⟩
      generalize upd H2 p2 _ = H3 at sm3 ⊢
      have bmo : Bn 200 most := bn_of_lt (by omega) (by omega)
      -- the drawn numbers
      obtain ⟨c1, hc1, ec1⟩ := at_cell (ns := ns) (k := 0 + (i : Int)) (by omega) (by omega)
      refine ⟨_, rfl, _, rfl, a, _, _, _, rfl, rfl, sm3.seq hS, ec1, _, rfl, _, rfl, .mk (bn_bits (hbits _ hc1)) (bnl (n := 10) (by omega)) fun num => ?_⟩
      refine ⟨_, rfl, _, _, rfl, rfl, divOk_lit (by decide) (by decide), _, rfl, _, _, rfl, rfl, hm1, _, _, rfl, rfl, ?_⟩
      refine ⟨_, rfl, _, _, rfl, rfl, divOk_lit (by decide) (by decide), _, rfl, _, _, rfl, rfl, bmo.divOk hm1 (by decide) (by decide), _, rfl, _, _, rfl, rfl, hm1, _, _, rfl, rfl, ?_⟩
      obtain ⟨c2, hc2, ec2⟩ := at_cell (ns := ns) (k := 0 + (i : Int) - 1) (by omega) (by omega)
      refine ⟨_, rfl, _, rfl, _, _, rfl, rfl, a, _, _, _, rfl, rfl, sm3.seq hS, ec2, _, rfl, _, _, rfl, rfl, _, rfl, .mk (bn_bits (hbits _ hc2)) (bnl (n := 10) (by omega)) fun oth => ?_⟩
      have f1 : 0 < 1 + num / 5 % most ∧ 1 + num / 5 % most < 10 ^ 21 := by
        have h0 := Int.emod_nonneg (num / 5) (Int.ne_of_gt hm1)
        have h1 := Int.emod_lt_of_pos (num / 5) hm1
        omega
      have f2 : 0 < 1 + num / 5 / most % most ∧ 1 + num / 5 / most % most < 10 ^ 21 := by
        have h0 := Int.emod_nonneg (num / 5 / most) (Int.ne_of_gt hm1)
        have h1 := Int.emod_lt_of_pos (num / 5 / most) hm1
        omega
      generalize hfi : 1 + num / 5 % most = fi at f1
      generalize hse : 1 + num / 5 / most % most = se at f2
      have bfi : Bn 200 fi := bn_of_lt (by omega) (by omega)
      have bse : Bn 200 se := bn_of_lt (by omega) (by omega)
      have szf : Sz fi := sz_of_lt (by omega) (by omega)
      have szs : Sz se := sz_of_lt (by omega) (by omega)
      dsimp only
      rw [hfi, hse]
      refine ⟨_, rfl, _, rfl, _, _, rfl, rfl, by show (0 : Int) < 9; decide, _, _, rfl, rfl, bfi.mulOk (bnl (n := 4) (by show (oth % 9).natAbs < 16; omega)) (by decide), ?_⟩
      refine ⟨_, rfl, _, rfl, _, _, rfl, rfl, divOk_lit (by decide) (by decide), _, _, rfl, rfl, by show (0 : Int) < 9; decide, _, _, rfl, rfl, bse.mulOk (bnl (n := 4) (by show (oth / 9 % 9).natAbs < 16; omega)) (by decide), _, _, rfl, rfl, ?_⟩
      refine ⟨_, rfl, _, _, rfl, rfl, divOk_lit (by decide) (by decide), _, _, rfl, rfl, by show (0 : Int) < 3; decide, _, _, rfl, rfl, ?_⟩
      have g1 : 0 ≤ fi * (oth % 9) ∧ fi * (oth % 9) ≤ 10 ^ 22 := by
        have h0 : 0 ≤ oth % 9 := Int.emod_nonneg _ (by decide)
        have h1 : oth % 9 < 9 := Int.emod_lt_of_pos _ (by decide)
        exact ⟨Int.mul_nonneg (by omega) h0, Int.le_trans (Int.mul_le_mul_of_nonneg_left (show oth % 9 ≤ 9 by omega) (by omega)) (by omega)⟩
      have g2 : 0 ≤ se * (oth / 9 % 9) ∧ se * (oth / 9 % 9) ≤ 10 ^ 22 := by
        have h0 : 0 ≤ oth / 9 % 9 := Int.emod_nonneg _ (by decide)
        have h1 : oth / 9 % 9 < 9 := Int.emod_lt_of_pos _ (by decide)
        exact ⟨Int.mul_nonneg (by omega) h0, Int.le_trans (Int.mul_le_mul_of_nonneg_left (show oth / 9 % 9 ≤ 9 by omega) (by omega)) (by omega)⟩
      have g3 : 0 < fi * se ∧ fi * se ≤ 10 ^ 42 := by
        refine ⟨Int.mul_pos f1.1 f2.1, ?_⟩
        have h1 : fi * se ≤ fi * 10 ^ 21 := Int.mul_le_mul_of_nonneg_left (by omega) (by omega)
        omega
      have g4 : 0 ≤ fi * (oth % 9) + se * (oth / 9 % 9) + oth / 81 % 3 ∧ fi * (oth % 9) + se * (oth / 9 % 9) + oth / 81 % 3 ≤ 10 ^ 23 := by
        have h0 : 0 ≤ oth / 81 % 3 := Int.emod_nonneg _ (by decide)
        have h1 : oth / 81 % 3 < 3 := Int.emod_lt_of_pos _ (by decide)
        omega
      -- the four sizes
      refine ⟨_, rfl, _, _, rfl, ?_⟩
      refine ⟨_, rfl, _, _, rfl, rfl, divOk_lit (by decide) (by decide), _, rfl, _, rfl, _, _, rfl, rfl, bfi.mulOk bse (by decide), _, _, rfl, rfl, _, _, rfl, rfl, by show 0 < fi * se + 3; omega, _, _, rfl, rfl, ?_⟩
      refine ⟨_, rfl, _, rfl, _, _, rfl, rfl, bfi.mulOk bse (by decide), _, rfl, _, rfl, _, _, rfl, rfl, by show 4 ≤ sizeLine; decide, fun p3 hp3 => ?_⟩
      have hxs : ∀ x ∈ [if (fi * (oth % 9) + se * (oth / 9 % 9) + oth / 81 % 3) > 1 then (fi * (oth % 9) + se * (oth / 9 % 9) + oth / 81 % 3) else 1, 1 + oth / 7 % (fi * se + 3), fi * se, fi + se], Sz x := by
        intro x hx
        have e : x = (if (fi * (oth % 9) + se * (oth / 9 % 9) + oth / 81 % 3) > 1 then (fi * (oth % 9) + se * (oth / 9 % 9) + oth / 81 % 3) else 1) ∨ x = 1 + oth / 7 % (fi * se + 3) ∨ x = fi * se ∨ x = fi + se := by simpa using hx
        rcases e with rfl | rfl | rfl | rfl
        · refine sz_of_lt ?_ ?_
          · split <;> omega
          · split <;> omega
        · have h0 : 0 ≤ oth / 7 % (fi * se + 3) := Int.emod_nonneg _ (by omega)
          have h1 : oth / 7 % (fi * se + 3) < fi * se + 3 := Int.emod_lt_of_pos _ (by omega)
          exact sz_of_lt (by omega) (by omega)
        · exact sz_of_lt (by omega) (by omega)
        · exact sz_of_lt (by omega) (by omega)
      have up3 : (upd H3 p3 (.lst ([if (fi * (oth % 9) + se * (oth / 9 % 9) + oth / 81 % 3) > 1 then (fi * (oth % 9) + se * (oth / 9 % 9) + oth / 81 % 3) else 1, 1 + oth / 7 % (fi * se + 3), fi * se, fi + se].map V.int))) p3 = some (.lst ([if (fi * (oth % 9) + se * (oth / 9 % 9) + oth / 81 % 3) > 1 then (fi * (oth % 9) + se * (oth / 9 % 9) + oth / 81 % 3) else 1, 1 + oth / 7 % (fi * se + 3), fi * se, fi + se].map V.int)) := upd_same
      have sm4 : Same H (upd H3 p3 (.lst ([if (fi * (oth % 9) + se * (oth / 9 % 9) + oth / 81 % 3) > 1 then (fi * (oth % 9) + se * (oth / 9 % 9) + oth / 81 % 3) else 1, 1 + oth / 7 % (fi * se + 3), fi * se, fi + se].map V.int))) := sm3.trans (same_upd hp3)
      refine ⟨p3, rfl, ⟨_, sqL upd_same⟩, for_list (K := K) (a := p3) (xs := [if (fi * (oth % 9) + se * (oth / 9 % 9) + oth / 81 % 3) > 1 then (fi * (oth % 9) + se * (oth / 9 % 9) + oth / 81 % 3) else 1, 1 + oth / 7 % (fi * se + 3), fi * se, fi + se].map V.int) (fun j σ H' => Same (upd H3 p3 (.lst ([if (fi * (oth % 9) + se * (oth / 9 % 9) + oth / 81 % 3) > 1 then (fi * (oth % 9) + se * (oth / 9 % 9) + oth / 81 % 3) else 1, 1 + oth / 7 % (fi * se + 3), fi * se, fi + se].map V.int))) H' ∧ ∃ y2 y3 y4 y7 y8 y9, σ = [some (.ref a), some (.int wh), y2, y3, y4, some (.int fi), some (.int se), y7, y8, y9]) ⟨Same.refl _, _, _, _, _, _, _, rfl⟩ (fun j σ H' _ ⟨e, _⟩ => e.seq (sqL up3)) ?_ ?_⟩
      · rintro j y σ H5 hj ⟨sm5, z2, z3, z4, z7, z8, z9, rfl⟩
        obtain ⟨n, hn, rfl⟩ := ints_at hj
        have szn := hxs n (List.mem_of_getElem? hn)
        refine ⟨_, rfl, _, rfl, _, rfl, .mk szn szf szs fun H6 sm6 => ⟨true, rfl, iteF ?_⟩⟩
        refine ⟨_, rfl, _, rfl, _, rfl, .mk szn szs szf fun H7 sm7 => ⟨true, rfl, iteF ?_⟩⟩
        exact ⟨sm5.trans (sm6.trans sm7), _, _, _, _, _, _, rfl⟩
      · rintro σ H5 ⟨sm5, z2, z3, z4, z7, z8, z9, rfl⟩
        exact ⟨sm4.trans sm5, _, _, _, _, _, _, _, _, rfl⟩
    · rintro σ H2 ⟨sm2, y2, y3, y4, y5, y6, y7, y8, y9, rfl⟩
      refine ⟨1, 24, rfl, ⟨by decide, by decide, by decide, by decide⟩, ?_⟩
      refine for_range (lo := 1) (n := (24 - 1 : Int).toNat) (fun i σ H' => Same H H' ∧ ∃ y2 y3 y4 y5 y6 y7 y8 y9, σ = [some (.ref a), some (.int wh), y2, y3, y4, y5, y6, y7, y8, y9]) ⟨sm2, _, _, _, _, _, _, _, _, rfl⟩ ?_ ?_
      · rintro i σ H3 hi ⟨sm3, z2, z3, z4, z5, z6, z7, z8, z9, rfl⟩
        have hi2 : i < 23 := hi
        have m1 : 0 ≤ wh % 7 := Int.emod_nonneg _ (by decide)
        have m2 : wh % 7 < 7 := Int.emod_lt_of_pos _ (by decide)
        have m3 : 0 ≤ wh / 7 % 7 := Int.emod_nonneg _ (by decide)
        have m4 : wh / 7 % 7 < 7 := Int.emod_lt_of_pos _ (by decide)
        refine ⟨_, rfl, _, rfl, _, _, rfl, rfl, by show (0 : Int) < 7; decide, _, _, rfl, rfl, ?_⟩
        refine ⟨_, rfl, _, _, rfl, rfl, divOk_lit (by decide) (by decide), _, _, rfl, rfl, by show (0 : Int) < 7; decide, _, _, rfl, rfl, ?_⟩
        refine SpRight.mk (sz_of_lt ?_ ?_) (sz_of_lt ?_ ?_) (sz_of_lt ?_ ?_) fun H4 sm4 => ⟨true, rfl, iteF ⟨sm3.trans sm4, _, _, _, _, _, _, _, _, rfl⟩⟩ <;> omega
      · rintro σ H3 ⟨sm3, z2, z3, z4, z5, z6, z7, z8, z9, rfl⟩
        have e1 : parts 7 3 5 = none := parts_eq (x := none) (by decide) (by rintro m n ⟨h1, h2, h3⟩; omega)
        have e2 : parts 8 3 5 = some (1, 1) := parts_eq (x := some (1, 1)) (by decide) ⟨⟨by decide, by decide, by decide⟩, by rintro m n ⟨h1, h2, h3⟩; show 1 ≤ m; omega⟩
        have e3 : parts (10 ^ (40 : Int).toNat) 1 (10 ^ (20 : Int).toNat) = some (0, 10 ^ (20 : Int).toNat) := parts_eq (x := some (0, 10 ^ (20 : Int).toNat)) (by decide) ⟨⟨by decide, by decide, by decide⟩, by rintro m n ⟨h1, h2, h3⟩; exact h1⟩
        refine .mk (sz_of_lt (by decide) (by decide)) (sz_of_lt (by decide) (by decide)) (sz_of_lt (by decide) (by decide)) (tell_of fun v H4 sm4 tv => ?_)
        rw [e1] at tv
        obtain rfl : v = .non := tv
        refine ⟨rfl, true, rfl, iteT ?_⟩
        refine .mk (sz_of_lt (by decide) (by decide)) (sz_of_lt (by decide) (by decide)) (sz_of_lt (by decide) (by decide)) (tell_of fun v H5 sm5 tv => ?_)
        rw [e2] at tv
        obtain ⟨p5, rfl, hp5⟩ := tv
        refine ⟨by show 2 ≤ sizeLine; decide, fun p6 hp6 => ?_⟩
        have hp5' := same_upd (o := .tup [.int 1, .int 1]) hp6 _ _ hp5
        refine ⟨.tuple [.int 1, .int 1], .tuple [.int 1, .int 1], .tup (sqT hp5') (.cons (.int 1) (.cons (.int 1) .nil)), .tup (sqT upd_same) (.cons (.int 1) (.cons (.int 1) .nil)), rfl, rfl, true, rfl, iteT ?_⟩
        refine ⟨_, _, rfl, rfl, ⟨by decide, by decide, by decide⟩, _, _, rfl, rfl, ⟨by decide, by decide, by decide⟩, ?_⟩
        refine .mk (sz_of_lt (by decide) (by decide)) (sz_of_lt (by decide) (by decide)) (sz_of_lt (by decide) (by decide)) (tell_of fun v H7 sm7 tv => ?_)
        rw [e3] at tv
        obtain ⟨p7, rfl, hp7⟩ := tv
        refine ⟨_, _, rfl, rfl, ⟨by decide, by decide, by decide⟩, by show 2 ≤ sizeLine; decide, fun p8 hp8 => ?_⟩
        have hp7' := same_upd (o := .tup [.int 0, .int (10 ^ (20 : Int).toNat)]) hp8 _ _ hp7
        refine ⟨.tuple [.int 0, .int (10 ^ (20 : Int).toNat)], .tuple [.int 0, .int (10 ^ (20 : Int).toNat)], .tup (sqT hp7') (.cons (.int _) (.cons (.int _) .nil)), .tup (sqT upd_same) (.cons (.int _) (.cons (.int _) .nil)), rfl, rfl, ?_⟩
        rw [SeqAt.eqv_refl]
        · exact q _
        · rfl
end
end BF

namespace BF
open PySem PySem.Spec PyProof.Rows L2
/-! ### what the top leaves: each def by name -/
def d_is_number : He.DefD := ⟨("is_number", none), "is_number", "is_number", defArgs s_is_number, defBody s_is_number, defScope s_is_number, [], []⟩
def d_check_sizes : He.DefD := ⟨("check_sizes", none), "check_sizes", "check_sizes", defArgs s_check_sizes, defBody s_check_sizes, defScope s_check_sizes, [], []⟩
def d_shared : He.DefD := ⟨("shared", none), "shared", "shared", defArgs s_shared, defBody s_shared, defScope s_shared, [], []⟩
def d_parts_of : He.DefD := ⟨("parts_of", none), "parts_of", "parts_of", defArgs s_parts_of, defBody s_parts_of, defScope s_parts_of, [], []⟩
def d_sum_of : He.DefD := ⟨("sum_of", none), "sum_of", "sum_of", defArgs s_sum_of, defBody s_sum_of, defScope s_sum_of, [], []⟩
def d__law_number : He.DefD := ⟨("_law_number", none), "_law_number", "_law_number", defArgs s__law_number, defBody s__law_number, defScope s__law_number, [], []⟩
def d__law_whole : He.DefD := ⟨("_law_whole", none), "_law_whole", "_law_whole", defArgs s__law_whole, defBody s__law_whole, defScope s__law_whole, [], []⟩
def d__law_common : He.DefD := ⟨("_law_common", none), "_law_common", "_law_common", defArgs s__law_common, defBody s__law_common, defScope s__law_common, [], []⟩
def d__law_few : He.DefD := ⟨("_law_few", none), "_law_few", "_law_few", defArgs s__law_few, defBody s__law_few, defScope s__law_few, [], []⟩
def d__law_right : He.DefD := ⟨("_law_right", none), "_law_right", "_law_right", defArgs s__law_right, defBody s__law_right, defScope s__law_right, [], []⟩
def d_law : He.DefD := ⟨("law", none), "law", "law", defArgs s_law, defBody s_law, defScope s_law, [], []⟩
def fns : List He.DefD := [d_is_number, d_check_sizes, d_shared, d_parts_of, d_sum_of, d__law_number, d__law_whole, d__law_common, d__law_few, d__law_right, d_law]
def fas : List He.Fa := [.glo "is_number", .glo "check_sizes", .glo "shared", .glo "parts_of", .glo "sum_of", .glo "_law_number", .glo "_law_whole", .glo "_law_common", .glo "_law_few", .glo "_law_right", .glo "law", .free "bool", .free "int", .free "isinstance", .free "len", .free "max", .free "min", .free "range", .free "sum", .free "tuple"]
def loose0 : List PySem.Str := ["FloorError", "BadSize", "is_number", "check_sizes", "shared", "parts_of", "sum_of", "_law_number", "_law_whole", "_law_common", "_law_few", "_law_right"]
def looseN : List PySem.Str := loose0
def tfs : List He.Defn := []
abbrev R : PySem.W.OpenRow := PySem.W.OpenLaw.row PySem.Challenge.rw_brickfloor_k03_whole_sums
abbrev hk : PySem.W.Hook := He.hookX 4 fas fns [] tfs (fun _ => true)
def ob (s : PySem.W.SharedT) : He.AlX := He.obsX 4 fas fns [] tfs (fun _ => true) (HandSHeadRun.getT s)
theorem ob_eq (s : PySem.W.SharedT) : ob s = hk.obs s.abs := He.obsX_eq (HandSHeadRun.getT_eq s)
theorem run (w : World) : HandSHeadRun.RunEq R (PySem.W.view R.prog [15]) hk ob 4000 looseN w := by
  intro os
  kernel_rfl
abbrev Says (w : World) (h : Heap) (K : PySem.W.Frag) : Prop := He.SaysX fas fns [] tfs (fun _ => true) w h K
section
variable {w : World} {K : PySem.W.Frag} {h : Heap} {mg : Str → Option Value}
theorem pl_is_number (X : K.In h) (G : h.Ns mainGlobals mg) (c : Says w h K) : Pl K mg "is_number" s_is_number := by
  obtain ⟨fd, F⟩ := c.t.d.def_ 0 (d := d_is_number) rfl
  exact ⟨_, fd, F, He.glo_ok X G (c.t.d.fact 0 (f := .glo "is_number") rfl)⟩
theorem pl_check_sizes (X : K.In h) (G : h.Ns mainGlobals mg) (c : Says w h K) : Pl K mg "check_sizes" s_check_sizes := by
  obtain ⟨fd, F⟩ := c.t.d.def_ 1 (d := d_check_sizes) rfl
  exact ⟨_, fd, F, He.glo_ok X G (c.t.d.fact 1 (f := .glo "check_sizes") rfl)⟩
theorem pl_shared (X : K.In h) (G : h.Ns mainGlobals mg) (c : Says w h K) : Pl K mg "shared" s_shared := by
  obtain ⟨fd, F⟩ := c.t.d.def_ 2 (d := d_shared) rfl
  exact ⟨_, fd, F, He.glo_ok X G (c.t.d.fact 2 (f := .glo "shared") rfl)⟩
theorem pl_parts_of (X : K.In h) (G : h.Ns mainGlobals mg) (c : Says w h K) : Pl K mg "parts_of" s_parts_of := by
  obtain ⟨fd, F⟩ := c.t.d.def_ 3 (d := d_parts_of) rfl
  exact ⟨_, fd, F, He.glo_ok X G (c.t.d.fact 3 (f := .glo "parts_of") rfl)⟩
theorem pl_sum_of (X : K.In h) (G : h.Ns mainGlobals mg) (c : Says w h K) : Pl K mg "sum_of" s_sum_of := by
  obtain ⟨fd, F⟩ := c.t.d.def_ 4 (d := d_sum_of) rfl
  exact ⟨_, fd, F, He.glo_ok X G (c.t.d.fact 4 (f := .glo "sum_of") rfl)⟩
theorem pl__law_number (X : K.In h) (G : h.Ns mainGlobals mg) (c : Says w h K) : Pl K mg "_law_number" s__law_number := by
  obtain ⟨fd, F⟩ := c.t.d.def_ 5 (d := d__law_number) rfl
  exact ⟨_, fd, F, He.glo_ok X G (c.t.d.fact 5 (f := .glo "_law_number") rfl)⟩
theorem pl__law_whole (X : K.In h) (G : h.Ns mainGlobals mg) (c : Says w h K) : Pl K mg "_law_whole" s__law_whole := by
  obtain ⟨fd, F⟩ := c.t.d.def_ 6 (d := d__law_whole) rfl
  exact ⟨_, fd, F, He.glo_ok X G (c.t.d.fact 6 (f := .glo "_law_whole") rfl)⟩
theorem pl__law_common (X : K.In h) (G : h.Ns mainGlobals mg) (c : Says w h K) : Pl K mg "_law_common" s__law_common := by
  obtain ⟨fd, F⟩ := c.t.d.def_ 7 (d := d__law_common) rfl
  exact ⟨_, fd, F, He.glo_ok X G (c.t.d.fact 7 (f := .glo "_law_common") rfl)⟩
theorem pl__law_few (X : K.In h) (G : h.Ns mainGlobals mg) (c : Says w h K) : Pl K mg "_law_few" s__law_few := by
  obtain ⟨fd, F⟩ := c.t.d.def_ 8 (d := d__law_few) rfl
  exact ⟨_, fd, F, He.glo_ok X G (c.t.d.fact 8 (f := .glo "_law_few") rfl)⟩
theorem pl__law_right (X : K.In h) (G : h.Ns mainGlobals mg) (c : Says w h K) : Pl K mg "_law_right" s__law_right := by
  obtain ⟨fd, F⟩ := c.t.d.def_ 9 (d := d__law_right) rfl
  exact ⟨_, fd, F, He.glo_ok X G (c.t.d.fact 9 (f := .glo "_law_right") rfl)⟩
theorem pl_law (X : K.In h) (G : h.Ns mainGlobals mg) (c : Says w h K) : Pl K mg "law" s_law := by
  obtain ⟨fd, F⟩ := c.t.d.def_ 10 (d := d_law) rfl
  exact ⟨_, fd, F, He.glo_ok X G (c.t.d.fact 10 (f := .glo "law") rfl)⟩
theorem bi_ok (X : K.In h) (G : h.Ns mainGlobals mg) (c : Says w h K) : Bi mg := ⟨He.free_ok X G (c.t.d.fact 11 (f := .free "bool") rfl), He.free_ok X G (c.t.d.fact 12 (f := .free "int") rfl), He.free_ok X G (c.t.d.fact 13 (f := .free "isinstance") rfl), He.free_ok X G (c.t.d.fact 14 (f := .free "len") rfl), He.free_ok X G (c.t.d.fact 15 (f := .free "max") rfl), He.free_ok X G (c.t.d.fact 16 (f := .free "min") rfl), He.free_ok X G (c.t.d.fact 17 (f := .free "range") rfl), He.free_ok X G (c.t.d.fact 18 (f := .free "sum") rfl), He.free_ok X G (c.t.d.fact 19 (f := .free "tuple") rfl)⟩
end
end BF
namespace BF
open PySem PySem.Spec PyProof.Rows L2
def lawLevel : Nat := 5
section
variable {w : World} {K : PySem.W.Frag} {h : Heap} {mg : Str → Option Value} {P : Program} {base : Heap}
theorem has_law (X : K.In h) (G : h.Ns mainGlobals mg) (c : Says w h K) : Has P w K mg base CX0 5 "law" ["_law_script"] (SpLaw K) := by
  have B := bi_ok X G c
  have h1 := H_is_number (P := P) (w := w) (base := base) (pl_is_number X G c) B
  have h2 := H_check_sizes (pl_check_sizes X G c) h1
  have h3 := H_shared (P := P) (w := w) (base := base) (pl_shared X G c)
  have h4 := H_parts_of (pl_parts_of X G c) h3
  have h5 := H_sum_of (pl_sum_of X G c) h2 h4
  have h6 := H__law_number (P := P) (w := w) (base := base) (pl__law_number X G c)
  have h7 := H__law_whole (P := P) (w := w) (base := base) (pl__law_whole X G c) B
  have h8 := H__law_common (P := P) (w := w) (base := base) (pl__law_common X G c)
  have h9 := H__law_few (pl__law_few X G c) h8
  have h10 := H__law_right (pl__law_right X G c) B h5 h9 h7
  exact H_law (pl_law X G c) B h5 h6 h10
theorem law_at {f : Addr} (X : K.In h) (G : h.Ns mainGlobals mg) (c : Says w h K) (g : mg ("law" : Str) = some (.ref f)) : LamX.LawAtS PySem.Challenge.rw_brickfloor_k03_whole_sums w K CX0 lawLevel 63 "_law_script" mg f h := by
  obtain ⟨f', fd, F, g'⟩ := pl_law X G c
  have e := g.symm.trans g'
  cases e
  refine ⟨fd, [], SpLaw K, (fun _ z => nomatch z), (fun _ z => nomatch z), (fun _ z => nomatch z), fun s u => FunD.bindsA (ps := ["_law_script"]) F (fun _ _ _ _ _ _ us hl => match us, hl with | [_], _ => rfl) s [u] rfl, fun H a ns hl hb _ hS => .mk hl hb hS fun _ => rfl, fun base hK hG _ => (has_law X G c).at F g'⟩
end
end BF

open PySem PySem.W PySem.Calls PyProof.Rows
set_option maxRecDepth 100000 in
set_option maxHeartbeats 8000000 in
theorem PySem.Challenge.cw_brickfloor_k03_whole_sums_holds : PySem.Challenge.rw_brickfloor_k03_whole_sums.Holds := by
  w_on; o_law
  refine HandSHeadRun.head_any (r := OpenLaw.row PySem.Challenge.rw_brickfloor_k03_whole_sums) (q := view (OpenLaw.row PySem.Challenge.rw_brickfloor_k03_whole_sums).prog [15]) (H := BF.hk) (ob := BF.ob) (loose := BF.looseN) (d := HandSHeadRun.topDef (OpenLaw.row PySem.Challenge.rw_brickfloor_k03_whole_sums).prog 15) (kwd := []) BF.ob_eq
    (by kernel_rfl) (fun s => by kernel_rfl) BF.run (by kernel_rfl) (by kernel_rfl) (by kernel_rfl) (by rfl) (by first | assumption | decide +kernel) (by decide +kernel) ⟨rfl, rfl, rfl, rfl, rfl, by decide +kernel⟩ ?hw ?hc
  case hw => w_witness2
  case hc =>
    refine LamX.walk_ofTsE (l := PySem.Challenge.rw_brickfloor_k03_whole_sums) (n := 63) (k := BF.lawLevel) (x := "_law_script") (CX := fun _ => L2.CX0) rfl (by decide) (by kernel_rfl) ⟨rfl, by decide, by decide⟩ ?F (fun _ _ _ _ _ z => z)
    intro w mg fa h Y G hmg0
    obtain ⟨K, KX, c⟩ := Y
    have hmg : mg ("law" : PySem.Str) = some (.ref fa) := by
      have e : (HandSHeadRun.topDef (OpenLaw.row PySem.Challenge.rw_brickfloor_k03_whole_sums).prog 15).name = ("law" : PySem.Str) := by kernel_rfl
      rw [← e]
      exact hmg0
    exact ⟨K, KX, BF.law_at KX G c hmg⟩
