import PyProof.Rows.All
import Wide.All
import OpenK.AllK
import Wide.FinOn
import KE.KStateDown
import HandS.ForMost
import HandS.ForExc
import HandS.More
import HandS.Wide
import HandS.WideBits
import HandS.Style
import HandS.Flow
import HandS.Zip
import HandS.TupLen
import HandS.Deep
import HandS.IsInst
import HandS.Defaults
import HandS.Head0
import HandS.Head1
import HandS.Head2
import HandS.HeadEnd
import HandS.HeadHook1
import HandS.HeadHook2
import HandS.HeadHook3
import HandS.HeadHook4
import HandS.HeadWalk
import HandS.Evl
import KE.DataMinMax
import KE.GoesMore
import KE.KeyNested
import KE.SortData
import HandS.Conv
import HandS.ExcIs
import HandS.ExcCtx
import HandS.HotCalls
import HandS.SetFor
import HandS.Strs
import HandS.Nested
import PySem.Challenge.RW_brickfloor_k11_promises_by_hand
set_option pp.maxSteps 700
set_option Elab.async false
set_option linter.all false
set_option maxRecDepth 100000
set_option maxHeartbeats 4000000
/-! ### a def of the top, where it stands, and its promise -/
namespace BF
open PySem PySem.Spec PyProof.Rows L2
abbrev FnP (K : PySem.W.Frag) (x q : Str) (st : Stmt) (f : Addr) (fd : FuncData) : Prop := FunD K x q (defArgs st) (defBody st) (defScope st) [] [] f fd
/-- the def x of the top stands where the module's name says -/
def Pl (K : PySem.W.Frag) (mg : Str → Option Value) (x : Str) (st : Stmt) : Prop := ∃ f fd, FnP K x x st f fd ∧ mg x = some (.ref f)
/-- the def x keeps its promise, by calls at most k deep -/
def Has (P : Program) (w : World) (K : PySem.W.Frag) (mg : Str → Option Value) (base : Heap) (C : CXT) (k : Nat) (x : Str) (ps : List Str) (sp : Sp) : Prop :=
  ∃ f fd, FnOk P w K mg base C k f fd ps sp ∧ mg x = some (.ref f) ∧ PySem.W.keepIn K (.ref f) = true ∧ Binds K fd ps [] ∧ ∃ oc od osl, K.lookup f = some ⟨oc, od, .func fd, osl⟩
section
variable {P : Program} {w : World} {K : PySem.W.Frag} {mg : Str → Option Value} {base : Heap} {x : Str} {st : Stmt} {N ps : List Str} {k : Nat} {sp : Sp}
theorem Pl.mkX {C : CXT} (p : Pl K mg x st) (S : FnScope N ps (defScope st))
    (hb : ∀ (kV doc pm : Value) (an : Option Addr) (cdv ct : Value) (us : List Value), us.length = ps.length → bindArgs (PySem.W.fnOf x x (defArgs st) (defBody st) (defScope st) .none kV doc pm an cdv ct) ⟨us, []⟩ = pure (ps.zip us))
    (len : ∀ vs H Q E, sp vs H Q E → vs.length = ps.length)
    (body : ∀ (f : Addr) (cdv : Value) (A : Around) (outer : List Env) (s : Shared) (H : Hp) (vs : List V) (Q : VK) (E : XK), Room k (A.deeper (envOfC x (defScope st) s.heap.objs.size f cdv)) → sp vs H Q E →
      ∃ t, PSs (cxOf C P w K mg base N x (defScope st) f cdv A outer s H E) (defBody st) t ∧ t { nx := fun _ H' => Q .non H', rt := Q } (start N vs) H) : Has P w K mg base C (k + 1) x ps sp := by
  obtain ⟨f, fd, F, g⟩ := p
  obtain ⟨oc, od, _, _, _, _, _, _, _, osl, _, lk, _⟩ := F.ex
  exact ⟨f, fd, F.ok S len (body f), g, F.kp, F.bindsN hb, oc, od, osl, lk⟩
/-- of the def at f (the law) -/
theorem Has.at {C : CXT} {f : Addr} {fd : FuncData} (h : Has P w K mg base C k x ps sp) (F : FnP K x x st f fd) (g : mg x = some (.ref f)) : FnOk P w K mg base C k f fd ps sp := by
  obtain ⟨f', fd', G, g', _, _, oc, od, osl, lk⟩ := h
  obtain ⟨oc2, od2, _, _, _, _, _, _, _, osl2, _, lk2, _⟩ := F.ex
  have e : f' = f := by
    have z := g'.symm.trans g
    cases z
    rfl
  subst e
  have z := lk.symm.trans lk2
  cases z
  exact G
theorem Pl.mk0 (p : Pl K mg x st) (S : FnScope N ps (defScope st))
    (hb : ∀ (kV doc pm : Value) (an : Option Addr) (cdv ct : Value) (us : List Value), us.length = ps.length → bindArgs (PySem.W.fnOf x x (defArgs st) (defBody st) (defScope st) .none kV doc pm an cdv ct) ⟨us, []⟩ = pure (ps.zip us))
    (len : ∀ vs H Q E, sp vs H Q E → vs.length = ps.length)
    (body : ∀ (f : Addr) (cdv : Value) (A : Around) (outer : List Env) (s : Shared) (H : Hp) (vs : List V) (Q : VK) (E : XK), Room k (A.deeper (envOfC x (defScope st) s.heap.objs.size f cdv)) → sp vs H Q E →
      ∃ t, PSs (cxOf CX0 P w K mg base N x (defScope st) f cdv A outer s H E).nox (defBody st) t ∧ t { nx := fun _ H' => Q .non H', rt := Q } (start N vs) H) : Has P w K mg base CX0 (k + 1) x ps sp :=
  p.mkX S hb len fun f cdv A outer s H vs Q E hr h => by
    obtain ⟨t, a, b⟩ := body f cdv A outer s H vs Q E hr h
    exact ⟨t, a.nox, b⟩
end
section
variable {X : Cx} {C : CXT} {k : Nat} {ps : List Str} {sp : Sp} {E : XK} {x : Str} {p pos : Pos} {e : Expr} {es : List Expr} {t : TA}
theorem pe_fn (h : Has X.prog X.w X.K X.mg X.base C k x ps sp) (hr : Room k X.A) (hx : Passes C X E) (ha : PA X (e :: es) t) (hg : Gl X x := by rfl) (hdb : (x == ("__debug__" : Str)) = false := by decide)
    (he : starEach (e :: es) X.env = (false, eval e X.env) :: starEach es X.env := by rfl) (hpl : (backTo pos (starEach es X.env)).any (·.1) = false := by rfl) : PE X (.Call (.Name x p) (e :: es) [] pos) (tCall sp [] E t) := by
  obtain ⟨f, fd, F, hm, hk, hb, _⟩ := h
  exact pe_call F hr hg hm hk hb .nil hx ha hdb he hpl
theorem pe_fn0 (h : Has X.prog X.w X.K X.mg X.base C k x ps sp) (hr : Room k X.A) (hx : Passes C X E) (hg : Gl X x := by rfl) (hdb : (x == ("__debug__" : Str)) = false := by decide) : PE X (.Call (.Name x p) [] [] pos) (tCall sp [] E tNil) := by
  obtain ⟨f, fd, F, hm, hk, hb, _⟩ := h
  exact pe_call0 F hr hg hm hk hb .nil hx hdb
end
theorem pe_const {X : Cx} {x : Str} {i : Int} {pos : Pos} (hg : Gl X x) (h : ∃ t, X.mg x = some (.int i t)) (hd : (x == ("__debug__" : Str)) = false := by decide) : PE X (.Name x pos) (tC (.int i)) := by
  obtain ⟨t, e⟩ := h
  exact pe_glob hg e ⟨_, rfl⟩ hd
/-! ### sizes of ints -/
/-- of less than n bits -/
structure Bn (n : Nat) (x : Int) : Prop where
  lt : x.natAbs < 2 ^ n
theorem Bn.mono {n m : Nat} {x : Int} (h : Bn n x) (l : n ≤ m) : Bn m x := ⟨Nat.lt_of_lt_of_le h.lt (Nat.pow_le_pow_right (by decide) l)⟩
theorem bnl {n : Nat} {x : Int} (h : x.natAbs < 2 ^ n) : Bn n x := ⟨h⟩
theorem bn0 {n : Nat} : Bn n 0 := ⟨Nat.two_pow_pos _⟩
theorem Bn.mul {n m : Nat} {x y : Int} (h : Bn n x) (k : Bn m y) : Bn (n + m) (x * y) := ⟨wide_lt h.lt k.lt⟩
theorem Bn.add {n m : Nat} {x y : Int} (h : Bn n x) (k : Bn m y) : Bn (n + m + 1) (x + y) := by
  have h1 : x.natAbs < 2 ^ n := h.lt
  have h2 : y.natAbs < 2 ^ m := k.lt
  have a : 2 ^ n ≤ 2 ^ (n + m) := Nat.pow_le_pow_right (by decide) (by omega)
  have b : 2 ^ m ≤ 2 ^ (n + m) := Nat.pow_le_pow_right (by decide) (by omega)
  have c : 2 ^ (n + m + 1) = 2 ^ (n + m) * 2 := Nat.pow_succ 2 (n + m)
  have d := Int.natAbs_add_le x y
  refine ⟨?_⟩
  omega
theorem Bn.le {n : Nat} {x y : Int} (h : Bn n y) (l : x.natAbs ≤ y.natAbs) : Bn n x := ⟨Nat.lt_of_le_of_lt l h.lt⟩
theorem Bn.of_le {n : Nat} {x y : Int} (h : Bn n y) (h0 : 0 ≤ x) (l : x ≤ y) : Bn n x := h.le (by omega)
theorem Bn.neg {n : Nat} {x : Int} (h : Bn n x) : Bn n (-x) := h.le (by omega)
theorem Bn.sub {n m : Nat} {x y : Int} (h : Bn n x) (k : Bn m y) : Bn (n + m + 1) (x - y) := by
  rw [Int.sub_eq_add_neg]
  exact h.add k.neg
theorem Bn.mulOk {n m : Nat} {x y : Int} (h : Bn n x) (k : Bn m y) (l : n + m ≤ 134217728) : CMulX x y := mulx_ok h.lt k.lt l
theorem Bn.divOk {n : Nat} {x y : Int} (k : Bn n y) (p : 0 < y) (h0 : 0 < n) (l : n ≤ 9000) : CDivW x y := wide_div p k.lt h0 l
theorem divOk_lit {x : Int} {y : Int} (p : 0 < y) (l : y < 4294967296) : CDivW x y := wide_div (b := 32) p (by omega) (by decide) (by decide)
theorem Bn.div {n : Nat} {x y : Int} (h : Bn n x) (p : 0 < y) : Bn n (x / y) := by
  refine h.le ?_
  have a := Int.emod_add_mul_ediv x y
  have b := Int.emod_nonneg x (Int.ne_of_gt p)
  have c := Int.emod_lt_of_pos x p
  rcases Int.lt_or_le x 0 with hx | hx
  · -- x < 0: x / y ≥ x
    have d : x / y < 0 := Int.ediv_neg_of_neg_of_pos hx p
    have e : y * (x / y) ≤ 1 * (x / y) := Int.mul_le_mul_of_nonpos_right (by omega) (by omega)
    rcases Int.lt_or_le (x / y) x with f | f
    · have q1 : y * (x / y) ≤ y * (x - 1) := Int.mul_le_mul_of_nonneg_left (by omega) (by omega)
      have q2 : y * (x - 1) = y * x - y := by rw [Int.mul_sub, Int.mul_one]
      have q3 : y * x ≤ 1 * x := Int.mul_le_mul_of_nonpos_right (by omega) (by omega)
      omega
    · omega
  · have d : 0 ≤ x / y := Int.ediv_nonneg hx (Int.le_of_lt p)
    have e : 1 * (x / y) ≤ y * (x / y) := Int.mul_le_mul_of_nonneg_right (by omega) d
    omega
theorem Bn.mod {n : Nat} {x y : Int} (h : Bn n y) (p : 0 < y) : Bn n (x % y) := h.of_le (Int.emod_nonneg x (Int.ne_of_gt p)) (Int.le_of_lt (Int.emod_lt_of_pos x p))
theorem bn_bits {n : Nat} {x : Int} (h : Builtin.Int.intBits x ≤ n) : Bn (n + 1) x := by
  unfold Builtin.Int.intBits at h
  refine ⟨?_⟩
  split at h
  · rename_i z
    have e : x = 0 := by simpa using z
    rw [e]
    exact Nat.two_pow_pos _
  · have a : x.natAbs < 2 ^ (x.natAbs.log2 + 1) := Nat.lt_log2_self
    exact Nat.lt_of_lt_of_le a (Nat.pow_le_pow_right (by decide) (by omega))
theorem mulOk_left {x y : Int} (h : x.natAbs < 4294967296) (k : Bn 100000000 y) : CMulX x y := mulx_ok (a := 32) h k.lt (by decide)
/-- a size of the program: from 1 on, of less than so many bits -/
structure Sz (x : Int) : Prop where
  pos : 0 < x
  bn : Bn 1100000 x
/-! ### heaps that grow -/
theorem same_upd {H : Hp} {p : Addr} {o : HO} (h : H p = none) : Same H (upd H p o) := fun b x e => by
  rw [upd_ne (ne_of_none e h)]
  exact e
theorem newH {H H2 : Hp} {p : Addr} {o : HO} (e : upd H p o = H2) (hp : H p = none) : Same H H2 ∧ H2 p = some o := by
  rw [← e]
  exact ⟨same_upd hp, upd_same⟩
theorem Same.tup {K : PySem.W.Frag} {H H' : Hp} {a : Addr} {xs : List V} (e : Same H H') (h : SqT K H a xs) : SqT K H' a xs := by
  rcases h with (h | ⟨o, h⟩) | h
  · exact .inl (.inl (e _ _ h))
  · exact .inl (.inr ⟨o, e _ _ h⟩)
  · exact .inr h
theorem sqL {K : PySem.W.Frag} {H : Hp} {a : Addr} {xs : List V} (h : H a = some (.lst xs)) : SqL K H a xs := .inl (.inl h)
theorem sqT {K : PySem.W.Frag} {H : Hp} {a : Addr} {xs : List V} (h : H a = some (.tup xs)) : SqT K H a xs := .inl (.inl h)
/-- the int that a slot holds, as a measure -/
def slotN (σ : L2.St) (i : Nat) : Nat := match σ[i]? with
  | some (some (.int n)) => n.toNat
  | _ => 0
section
variable {A B : Prop} {i j : Int}
theorem iteD {p : Prop} [Decidable p] (h1 : p → A) (h2 : ¬ p → B) : if decide p = true then A else B := ite2 (fun c => h1 (of_decide_eq_true c)) fun c => h2 fun z => c (decide_eq_true z)
theorem iteEq (h1 : i = j → A) (h2 : i ≠ j → B) : if decide (V.int i = V.int j) = true then A else B := iteD (fun c => h1 (V.int.inj c)) fun c => h2 fun z => c (by rw [z])
theorem iteNe (h1 : i ≠ j → A) (h2 : i = j → B) : if (!decide (V.int i = V.int j)) = true then A else B := by
  by_cases c : i = j
  · rw [decide_eq_true (show V.int i = V.int j by rw [c])]
    exact iteF (h2 c)
  · rw [decide_eq_false (show ¬ V.int i = V.int j from fun z => c (V.int.inj z))]
    exact iteT (h1 c)
theorem iteP {p : Prop} [Decidable p] (hp : p) (h : A) : if decide p = true then A else B := by
  rw [decide_eq_true hp]
  exact iteT h
theorem iteN {p : Prop} [Decidable p] (hp : ¬ p) (h : B) : if decide p = true then A else B := by
  rw [decide_eq_false hp]
  exact iteF h
theorem iteNP {p : Prop} [Decidable p] (hp : p) (h : B) : if (!decide p) = true then A else B := by
  rw [decide_eq_true hp]
  exact iteF h
theorem iteNN {p : Prop} [Decidable p] (hp : ¬ p) (h : A) : if (!decide p) = true then A else B := by
  rw [decide_eq_false hp]
  exact iteT h
theorem iteB {b : Bool} (h1 : b = true → A) (h2 : b = false → B) : if b = true then A else B := by
  cases b with
  | true => exact iteT (h1 rfl)
  | false => exact iteF (h2 rfl)
end
def rLen2 (K : PySem.W.Frag) : List V → Hp → VK → Prop := fun xs H Q => ∃ p ys, xs = [.ref p] ∧ (SqL K H p ys ∨ SqT K H p ys) ∧ Q (.int ys.length) H
theorem lc_yes {σ : L2.St} {H : Hp} {A B : Hp → Prop} (h : A H) : tYes σ H fun b H3 => if b = true then A H3 else B H3 := by
  show if true = true then A H else B H
  rw [if_pos rfl]
  exact h
/-- if t: .. where t is not so, in whatever way it is told -/
theorem if_no {T : TT} {R U : TS} {D : Ends} {σ : L2.St} {H H' : Hp} (hT : ∀ r : Bool → Hp → Prop, r false H' → T σ H r) (hU : U D σ H') : tSeq (tIfS T R tNext) U D σ H :=
  hT _ (by
    show if false = true then _ else _
    exact iteF hU)
theorem tn {D : Ends} {σ : L2.St} {H : Hp} (h : D.nx σ H) : tNext D σ H := h
theorem mul_in {x y A B : Int} (hx : 0 ≤ x) (ha : x ≤ A) (hy : 0 ≤ y) (hb : y ≤ B) : 0 ≤ x * y ∧ x * y ≤ A * B :=
  ⟨Int.mul_nonneg hx hy, Int.le_trans (Int.mul_le_mul_of_nonneg_left hb hx) (Int.mul_le_mul_of_nonneg_right ha (Int.le_trans hy hb))⟩
/-- go on from a word -/
theorem enter {t : TS} {D : Ends} {σ : L2.St} {H : Hp} (M : L2.St → Hp → Prop) (h : M σ H) (k : ∀ σ H, M σ H → t D σ H) : t D σ H := k σ H h
theorem u65 {k : Nat} {A : Around} (r : Room k A) : A.units + 65 < cLine := by have := r.un; omega
theorem size4 {n : Nat} (h : n ≤ 1000000) : n ≤ sizeLine := Nat.le_trans h (by decide)
end BF

/-! ### great sizes: where _pylong has no part -/
namespace BF
open PySem PySem.Spec PyProof.Rows L2
/-- a small size -/
structure Ss (x : Int) : Prop where
  pos : 0 < x
  bn : Bn 2000 x
theorem Ss.sz {x : Int} (h : Ss x) : Sz x := ⟨h.pos, h.bn.mono (by decide)⟩
theorem ss_lit {x : Int} (h0 : 0 < x) (h : x < 1000000) : Ss x := ⟨h0, (bnl (n := 20) (by omega)).mono (by decide)⟩
/-- by a small divisor, or by one that is no less -/
def CDivY (i j : Int) : Prop := 0 < j ∧ (j.natAbs < 2 ^ 9000 ∨ i.natAbs ≤ j.natAbs)
theorem noPy {i j : Int} (h0 : 0 < j) (h : j.natAbs < 2 ^ 9000 ∨ i.natAbs ≤ j.natAbs) : Builtin.divisionGoesByPylong i j = false := by
  rcases h with h | h
  · exact PyProof.noPylong_of_log2 (PySem.Flt.log2_lt_of (by decide) h)
  · have hj : j.natAbs ≠ 0 := by omega
    have key : (if i == 0 then 0 else i.natAbs.log2 / 30 + 1) ≤ (if j == 0 then 0 else j.natAbs.log2 / 30 + 1) + 150 := by
      by_cases hi : (i == 0) = true
      · rw [if_pos hi]; exact Nat.zero_le _
      · have hi0 : i.natAbs ≠ 0 := fun z => hi (by rw [Int.natAbs_eq_zero.mp z]; rfl)
        have hj0 : ¬ (j == 0) = true := fun z => by
          have z2 : j = 0 := by simpa using z
          omega
        rw [if_neg hi, if_neg hj0]
        have l : i.natAbs.log2 ≤ j.natAbs.log2 := (Nat.le_log2 hj).mpr (Nat.le_trans (Nat.log2_self_le hi0) h)
        have d : i.natAbs.log2 / 30 ≤ j.natAbs.log2 / 30 := Nat.div_le_div_right l
        omega
    show (_ && decide ((if i == 0 then 0 else i.natAbs.log2 / 30 + 1) > (if j == 0 then 0 else j.natAbs.log2 / 30 + 1) + 150)) = false
    rw [decide_eq_false (Nat.not_lt.mpr key), Bool.and_false]
theorem op_fdivY {X : Cx} : OpR X (binaryOp .FloorDiv) (rI CDivY fun i j => .int (i / j)) := opI fun i j _ _ _ _ _ hc q => by
  have h1 : (0 : Int) < j := hc.1
  exact floordiv_int (by omega) (by rw [Int.fdiv_eq_ediv_of_nonneg i (by omega)]; exact q) (.inl (noPy hc.1 hc.2))
theorem Bn.divY {n : Nat} {x y : Int} (k : Bn n y) (p : 0 < y) (l : n ≤ 9000) : CDivY x y := ⟨p, .inl (k.mono l).lt⟩
/-- the divisor b is small, or no less than s -/
def Dz (s b : Int) : Prop := Bn 2000 b ∨ s ≤ b
theorem Dz.ok {s b x : Int} (h : Dz s b) (hb : 0 < b) (h0 : 0 ≤ x) (hx : x ≤ s) : CDivY x b := by
  rcases h with h | h
  · exact h.divY hb (by decide)
  · exact ⟨hb, .inr (by omega)⟩
/-- one of two is small -/
def Sm (a b : Int) : Prop := Bn 2000 b ∨ Bn 2000 a
theorem Sm.ok {a b : Int} (h : Sm a b) (hb : 0 < b) : CDivY a b := by
  by_cases c : Bn 2000 b
  · exact c.divY hb (by decide)
  · refine ⟨hb, .inr ?_⟩
    rcases h with h | h
    · exact absurd h c
    · have l := h.lt
      have m : ¬ b.natAbs < 2 ^ 2000 := fun z => c ⟨z⟩
      omega
theorem Sm.turn {a b : Int} (h : Sm a b) (ha : 0 ≤ a) (hb : 0 < b) : Sm b (a - a / b * b) := by
  have e : a - a / b * b = a % b := by rw [Int.emod_def, Int.mul_comm]
  rw [e]
  have n0 := Int.emod_nonneg a (Int.ne_of_gt hb)
  rcases h with h | h
  · exact .inl (h.of_le n0 (Int.le_of_lt (Int.emod_lt_of_pos a hb)))
  · refine .inl (h.of_le n0 ?_)
    have := Int.emod_add_mul_ediv a b
    have q := Int.mul_nonneg (Int.le_of_lt hb) (Int.ediv_nonneg ha (Int.le_of_lt hb))
    omega
/-- what the walks ask of a floor and a brick -/
structure Fl (L W f s : Int) : Prop where
  sm : Sm f s
  l : Dz L s
  w : Dz W s
theorem Fl.of {L W f s : Int} (hs : Ss s) : Fl L W f s := ⟨.inl hs.bn, .inl hs.bn, .inl hs.bn⟩
end BF

/-! Plain mathematics: a size as a sum of two others, the fewest of the first one. -/
namespace BF
/-- m of the first and n of the second make the size -/
def Rep (s a b m n : Int) : Prop := 0 ≤ m ∧ 0 ≤ n ∧ m * a + n * b = s
def IsParts (s a b : Int) : Option (Int × Int) → Prop
  | none => ∀ m n, ¬ Rep s a b m n
  | some x => Rep s a b x.1 x.2 ∧ ∀ m n, Rep s a b m n → x.1 ≤ m
theorem IsParts.unique {s a b : Int} (hb : 0 < b) : ∀ {x y : Option (Int × Int)}, IsParts s a b x → IsParts s a b y → x = y
  | none, none, _, _ => rfl
  | none, some y, h, k => absurd k.1 (h _ _)
  | some x, none, h, k => absurd h.1 (k _ _)
  | some (m, n), some (m', n'), h, k => by
    have h1 := h.2 _ _ k.1
    have h2 := k.2 _ _ h.1
    have e : m = m' := Int.le_antisymm h1 h2
    subst e
    have e1 := h.1.2.2
    have e2 := k.1.2.2
    simp only at e1 e2
    have e3 : n * b = n' * b := by omega
    have e4 : n = n' := Int.eq_of_mul_eq_mul_right (Int.ne_of_gt hb) e3
    rw [e4]
open Classical in
/-- how s is a sum of a and b -/
noncomputable def parts (s a b : Int) : Option (Int × Int) := if h : ∃ x, IsParts s a b x then h.choose else none
theorem parts_eq {s a b : Int} {x : Option (Int × Int)} (hb : 0 < b) (h : IsParts s a b x) : parts s a b = x := by
  unfold parts
  have e : ∃ x, IsParts s a b x := ⟨x, h⟩
  rw [dif_pos e]
  exact IsParts.unique hb e.choose_spec h
/-- g goes into both, t of the first leave it by the second -/
structure Good (a b g t : Int) : Prop where
  pos : 0 < g
  ga : g ∣ a
  gb : g ∣ b
  mod : b ∣ t * a - g
theorem few_core {s a b g t : Int} (ha : 0 < a) (hb : 0 < b) (G : Good a b g t) (hs : g ∣ s) :
    b ∣ s - (s / g * t % (b / g)) * a ∧ 0 ≤ s / g * t % (b / g) ∧ ∀ m, 0 ≤ m → b ∣ s - m * a → s / g * t % (b / g) ≤ m := by
  obtain ⟨hg, ⟨a', ea⟩, ⟨b', eb⟩, ⟨k, ek⟩⟩ := G
  obtain ⟨s', es⟩ := hs
  have hb' : 0 < b' := by
    have h2 : 0 < g * b' := by rw [← eb]; exact hb
    rcases Int.lt_or_le 0 b' with h | h
    · exact h
    · have h3 : g * b' ≤ g * 0 := Int.mul_le_mul_of_nonneg_left h (Int.le_of_lt hg)
      omega
  have e1 : s / g = s' := by rw [es]; exact Int.mul_ediv_cancel_left s' (Int.ne_of_gt hg)
  have e2 : b / g = b' := by rw [eb]; exact Int.mul_ediv_cancel_left b' (Int.ne_of_gt hg)
  rw [e1, e2]
  have hmod := Int.emod_add_mul_ediv (s' * t) b'
  generalize hf : s' * t % b' = f at hmod ⊢
  generalize s' * t / b' = q at hmod
  have h0 : 0 ≤ f := by rw [← hf]; exact Int.emod_nonneg _ (Int.ne_of_gt hb')
  have h1 : f < b' := by rw [← hf]; exact Int.emod_lt_of_pos _ hb'
  have key : b ∣ s - f * a := by
    -- f = s't - b'q, so s - f a = s - s't a + b' q a = s - s'(g + bk) + b'q g a' = b (q a' - s' k)
    refine ⟨q * a' - s' * k, ?_⟩
    have ef : f = s' * t - b' * q := by omega
    have et : t * a = g + b * k := by omega
    calc s - f * a = s - (s' * t - b' * q) * a := by rw [ef]
      _ = s - s' * (t * a) + b' * q * a := by rw [Int.sub_mul, Int.mul_assoc s' t a]; omega
      _ = s - s' * (g + b * k) + b' * q * (g * a') := by rw [et, ← ea]
      _ = b * (q * a' - s' * k) := by
        rw [Int.mul_add, Int.mul_sub, es, eb]
        have x1 : s' * g = g * s' := Int.mul_comm _ _
        have x2 : s' * (g * b' * k) = g * b' * (s' * k) := by
          rw [Int.mul_left_comm]
        have x3 : b' * q * (g * a') = g * b' * (q * a') := by
          rw [Int.mul_comm g b', Int.mul_assoc b' q, Int.mul_assoc b' g, Int.mul_left_comm q g a']
        rw [x1, x2, x3]
        omega
  refine ⟨key, h0, fun m hm hd => ?_⟩
  -- b | (m - f) a, so b | (m - f) g, so b' | m - f
  have d1 : b ∣ (m - f) * a := by
    have : (m - f) * a = (s - f * a) - (s - m * a) := by rw [Int.sub_mul]; omega
    rw [this]
    exact Int.dvd_sub key hd
  have d2 : b ∣ (m - f) * g := by
    have e3 : (m - f) * g = (m - f) * a * t - b * ((m - f) * k) := by
      have et : t * a = g + b * k := by omega
      have : (m - f) * a * t = (m - f) * (t * a) := by rw [Int.mul_assoc, Int.mul_comm a t]
      rw [this, et, Int.mul_add, Int.mul_left_comm (m - f) b k]
      omega
    rw [e3]
    exact Int.dvd_sub (Int.dvd_trans d1 (Int.dvd_mul_right _ _)) (Int.dvd_mul_right _ _)
  have d3 : b' ∣ m - f := by
    obtain ⟨c, ec⟩ := d2
    refine ⟨c, ?_⟩
    have : g * (m - f) = g * (b' * c) := by rw [Int.mul_comm g (m - f), ec, eb, Int.mul_assoc]
    exact Int.eq_of_mul_eq_mul_left (Int.ne_of_gt hg) this
  obtain ⟨c, ec⟩ := d3
  -- m = f + b' c with m ≥ 0, f < b': c ≥ 0
  have hc : 0 ≤ c := by
    rcases Int.lt_or_le c 0 with hc | hc
    · have h2 : b' * c ≤ b' * (-1) := Int.mul_le_mul_of_nonneg_left (by omega) (Int.le_of_lt hb')
      omega
    · exact hc
  have h3 : 0 ≤ b' * c := Int.mul_nonneg (Int.le_of_lt hb') hc
  omega
theorem parts_good {s a b g t : Int} (ha : 0 < a) (hb : 0 < b) (G : Good a b g t) :
    parts s a b = if s % g ≠ 0 then none else if s / g * t % (b / g) * a > s then none else some (s / g * t % (b / g), (s - s / g * t % (b / g) * a) / b) := by
  refine parts_eq hb ?_
  by_cases hs : s % g ≠ 0
  · rw [if_pos hs]
    rintro m n ⟨_, _, e⟩
    refine hs (Int.emod_eq_zero_of_dvd ?_)
    rw [← e]
    exact Int.dvd_add (Int.dvd_trans G.ga (Int.dvd_mul_left _ _)) (Int.dvd_trans G.gb (Int.dvd_mul_left _ _))
  · rw [if_neg hs]
    have hd : g ∣ s := Int.dvd_of_emod_eq_zero (by omega)
    obtain ⟨k1, k2, k3⟩ := few_core ha hb G hd
    generalize s / g * t % (b / g) = f at k1 k2 k3
    have least : ∀ m n, Rep s a b m n → f ≤ m := fun m n ⟨h1, h2, h3⟩ => k3 m h1 ⟨n, by rw [Int.mul_comm b n]; omega⟩
    by_cases hf : f * a > s
    · rw [if_pos hf]
      rintro m n R
      have l := least m n R
      obtain ⟨h1, h2, h3⟩ := R
      have p1 : f * a ≤ m * a := Int.mul_le_mul_of_nonneg_right l (Int.le_of_lt ha)
      have p2 : 0 ≤ n * b := Int.mul_nonneg h2 (Int.le_of_lt hb)
      omega
    · rw [if_neg hf]
      refine ⟨⟨k2, Int.ediv_nonneg (by omega) (Int.le_of_lt hb), ?_⟩, least⟩
      show f * a + (s - f * a) / b * b = s
      rw [Int.ediv_mul_cancel k1]
      omega
/-- the law's number: the fewest of the first, -1 where there is none -/
def fewI : Option (Int × Int) → Int
  | none => -1
  | some x => x.1
theorem parts_some {s a b m n : Int} (hb : 0 < b) (h : parts s a b = some (m, n)) (ex : ∃ x, IsParts s a b x) : IsParts s a b (some (m, n)) := by
  obtain ⟨x, hx⟩ := ex
  have e := parts_eq hb hx
  rw [h] at e
  rw [e]
  exact hx
end BF

/-! ### plain mathematics of the loop in shared -/
namespace BF
structure ShInv (a b one other mine theirs : Int) : Prop where
  o1 : 0 < one
  o2 : 0 ≤ other
  l1 : one ≤ a ∨ one ≤ b
  l2 : other ≤ b
  dv : ∀ d : Int, (d ∣ one ∧ d ∣ other) ↔ (d ∣ a ∧ d ∣ b)
  m1 : b ∣ mine * a - one
  m2 : b ∣ theirs * a - other
  bd : ∃ M T : Int, 0 ≤ M ∧ 0 ≤ T ∧ M ≤ b ∧ T ≤ b ∧ T * one + M * other = b ∧ ((mine = M ∧ theirs = -T) ∨ (mine = -M ∧ theirs = T))
theorem ShInv.start {a b : Int} (ha : 0 < a) (hb : 0 < b) : ShInv a b a b 1 0 where
  o1 := ha
  o2 := Int.le_of_lt hb
  l1 := .inl (Int.le_refl _)
  l2 := Int.le_refl _
  dv := fun d => Iff.rfl
  m1 := by rw [Int.one_mul, Int.sub_self]; exact Int.dvd_zero b
  m2 := by rw [Int.zero_mul, Int.zero_sub]; exact Int.dvd_neg.mpr (Int.dvd_refl b)
  bd := ⟨1, 0, by omega, by omega, by omega, by omega, by omega, .inl ⟨rfl, by omega⟩⟩
theorem ShInv.turn {a b one other mine theirs : Int} (h : ShInv a b one other mine theirs) (ho : 0 < other) :
    ShInv a b other (one - one / other * other) theirs (mine - one / other * theirs) ∧ one - one / other * other < other ∧ 0 ≤ one - one / other * other := by
  obtain ⟨o1, o2, l1, l2, dv, m1, m2, M, T, hM, hT, lM, lT, e, sg⟩ := h
  have hm : one - one / other * other = one % other := by
    have := Int.emod_add_mul_ediv one other
    rw [Int.mul_comm] at this
    omega
  have h0 : 0 ≤ one % other := Int.emod_nonneg _ (Int.ne_of_gt ho)
  have h1 : one % other < other := Int.emod_lt_of_pos _ ho
  have hq : 0 ≤ one / other := Int.ediv_nonneg (Int.le_of_lt o1) o2
  refine ⟨?_, by omega, by omega⟩
  generalize hqq : one / other = q at *
  have key : (M + q * T) * other + T * (one - q * other) = b := by
    have x1 : (M + q * T) * other = M * other + q * T * other := Int.add_mul _ _ _
    have x2 : T * (one - q * other) = T * one - q * T * other := by rw [Int.mul_sub, ← Int.mul_assoc, Int.mul_comm T q]
    omega
  have hqT : 0 ≤ q * T := Int.mul_nonneg hq hT
  have hn : 0 ≤ T * (one - q * other) := Int.mul_nonneg hT (by omega)
  have l3 : M + q * T ≤ b := by
    have : (M + q * T) * 1 ≤ (M + q * T) * other := Int.mul_le_mul_of_nonneg_left (by omega) (by omega)
    omega
  refine ⟨ho, by omega, .inr l2, by omega, fun d => ?_, m2, ?_, T, M + q * T, hT, by omega, lT, l3, key, ?_⟩
  · rw [← dv d]
    constructor
    · rintro ⟨a1, a2⟩
      refine ⟨?_, a1⟩
      have : one = (one - q * other) + q * other := by omega
      rw [this]
      exact Int.dvd_add a2 (Int.dvd_trans a1 (Int.dvd_mul_left _ _))
    · rintro ⟨a1, a2⟩
      exact ⟨a2, Int.dvd_sub a1 (Int.dvd_trans a2 (Int.dvd_mul_left _ _))⟩
  · have : (mine - q * theirs) * a - (one - q * other) = (mine * a - one) - q * (theirs * a - other) := by
      rw [Int.sub_mul, Int.mul_sub, Int.mul_assoc]
      omega
    rw [this]
    exact Int.dvd_sub m1 (Int.dvd_trans m2 (Int.dvd_mul_left _ _))
  · rcases sg with ⟨r1, r2⟩ | ⟨r1, r2⟩
    · right
      subst r1 r2
      refine ⟨rfl, ?_⟩
      rw [Int.mul_neg]
      omega
    · left
      subst r1 r2
      exact ⟨rfl, by omega⟩
theorem ShInv.done {a b one mine theirs : Int} (ha : 0 < a) (hb : 0 < b) (h : ShInv a b one 0 mine theirs) : Good a b one (mine % b) ∧ one ≤ b := by
  have d := (h.dv one).mp ⟨Int.dvd_refl _, Int.dvd_zero _⟩
  refine ⟨⟨h.o1, d.1, d.2, ?_⟩, Int.le_of_dvd hb d.2⟩
  have e : mine % b * a - one = (mine * a - one) - b * (mine / b * a) := by
    have := Int.emod_add_mul_ediv mine b
    have x : mine % b = mine - b * (mine / b) := by omega
    rw [x, Int.sub_mul, Int.mul_assoc]
    omega
  rw [e]
  exact Int.dvd_sub h.m1 (Int.dvd_mul_right _ _)
theorem ShInv.theirs_le {a b one other mine theirs : Int} (h : ShInv a b one other mine theirs) : theirs.natAbs ≤ b.natAbs ∧ mine.natAbs ≤ b.natAbs := by
  obtain ⟨M, T, hM, hT, lM, lT, _, sg⟩ := h.bd
  rcases sg with ⟨r1, r2⟩ | ⟨r1, r2⟩ <;> (subst r1 r2; omega)
end BF

/-! ### plain mathematics of the law's own reckoning: the divisions' rows, and the way back -/
namespace BF
/-- rows: the quotients of the divisions that begin at one, other -/
inductive Eu : Int → Int → List Int → Prop where
  | nil {one : Int} (h : 0 < one) : Eu one 0 []
  | cons {one other : Int} {r : List Int} (h1 : 0 < one) (h2 : 0 < other) (h : Eu other (one % other) r) : Eu one other (one / other :: r)
def back : List Int → Int × Int
  | [] => (1, 0)
  | q :: r => ((back r).2, (back r).1 - q * (back r).2)
theorem Eu.pos : ∀ {one other : Int} {r : List Int}, Eu one other r → 0 < one ∧ 0 ≤ other
  | _, _, _, .nil h => ⟨h, Int.le_refl _⟩
  | _, _, _, .cons h1 h2 _ => ⟨h1, Int.le_of_lt h2⟩
theorem Eu.back : ∀ {one other : Int} {r : List Int}, Eu one other r → ∃ g, 0 < g ∧ (∀ d : Int, d ∣ g ↔ d ∣ one ∧ d ∣ other) ∧ (back r).1 * one + (back r).2 * other = g ∧ (r ≠ [] → (BF.back r).1.natAbs ≤ other.natAbs ∧ (BF.back r).2.natAbs ≤ one.natAbs)
  | _, _, _, .nil (one := one) h => by
    refine ⟨one, h, fun d => ⟨fun e => ⟨e, Int.dvd_zero d⟩, fun e => e.1⟩, ?_, fun z => absurd rfl z⟩
    show (1 : Int) * one + 0 * 0 = one
    omega
  | _, _, _, .cons (one := one) (other := other) (r := r) h1 h2 h => by
    obtain ⟨g, hg, dv, e, bd⟩ := Eu.back h
    have hm := Int.emod_add_mul_ediv one other
    have hq : 0 ≤ one / other := Int.ediv_nonneg (Int.le_of_lt h1) (Int.le_of_lt h2)
    have hr0 : 0 ≤ one % other := Int.emod_nonneg _ (Int.ne_of_gt h2)
    refine ⟨g, hg, fun d => ?_, ?_, fun _ => ?_⟩
    · rw [dv d]
      constructor
      · rintro ⟨a1, a2⟩
        refine ⟨?_, a1⟩
        rw [← hm]
        exact Int.dvd_add a2 (Int.dvd_trans a1 (Int.dvd_mul_right _ _))
      · rintro ⟨a1, a2⟩
        refine ⟨a2, ?_⟩
        have : one % other = one - other * (one / other) := by omega
        rw [this]
        exact Int.dvd_sub a1 (Int.dvd_trans a2 (Int.dvd_mul_right _ _))
    · show (BF.back r).2 * one + ((BF.back r).1 - one / other * (BF.back r).2) * other = g
      generalize (BF.back r).1 = m at *
      generalize (BF.back r).2 = t at *
      generalize one / other = q at *
      have x1 : (m - q * t) * other = m * other - t * (other * q) := by
        rw [Int.sub_mul, Int.mul_comm q t, Int.mul_assoc, Int.mul_comm q other]
      have x2 : t * one = t * (one % other) + t * (other * q) := by rw [← Int.mul_add, hm]
      omega
    · show (BF.back r).2.natAbs ≤ other.natAbs ∧ ((BF.back r).1 - one / other * (BF.back r).2).natAbs ≤ one.natAbs
      cases r with
      | nil =>
        show (0 : Int).natAbs ≤ other.natAbs ∧ ((1 : Int) - one / other * 0).natAbs ≤ one.natAbs
        omega
      | cons q' r' =>
        obtain ⟨b1, b2⟩ := bd (by simp)
        refine ⟨b2, ?_⟩
        generalize (BF.back (q' :: r')).1 = m at *
        generalize (BF.back (q' :: r')).2 = t at *
        have x3 : (one / other * t).natAbs ≤ (other * (one / other)).natAbs := by
          rw [Int.natAbs_mul, Int.natAbs_mul, Nat.mul_comm other.natAbs]
          exact Nat.mul_le_mul_left _ b2
        have x4 : 0 ≤ other * (one / other) := Int.mul_nonneg (Int.le_of_lt h2) hq
        omega
theorem Eu.drop {B : Int} : ∀ {one other : Int} {r : List Int}, Eu one other r → one ≤ B → other ≤ B → ∀ k, k ≤ r.length → ∃ x y, Eu x y (r.drop k) ∧ x ≤ B ∧ y ≤ B
  | _, _, _, .nil h, l1, l2, k, hk => ⟨_, _, by rw [List.drop_nil]; exact .nil h, l1, l2⟩
  | _, _, _, .cons h1 h2 h, l1, l2, 0, _ => ⟨_, _, .cons h1 h2 h, l1, l2⟩
  | _, _, _, .cons (one := one) (other := other) h1 h2 h, l1, l2, k + 1, hk => by
    have h3 : one % other < other := Int.emod_lt_of_pos _ h2
    exact Eu.drop h l2 (by omega) k (by simpa using hk)
theorem emod_le_self {x y : Int} (h : 0 < x) (hy : 0 < y) : x % y ≤ x := by
  have hm := Int.emod_add_mul_ediv x y
  have hq : 0 ≤ x / y := Int.ediv_nonneg (Int.le_of_lt h) (Int.le_of_lt hy)
  have : 0 ≤ y * (x / y) := Int.mul_nonneg (Int.le_of_lt hy) hq
  omega
/-- the loop that gathers the rows -/
structure FwInv (a b : Int) (rows : List Int) (one other : Int) : Prop where
  o1 : 0 < one
  o2 : 0 ≤ other
  l1 : one ≤ a ∨ one ≤ b
  l2 : other ≤ b
  go : ∀ r, Eu one other r → Eu a b (rows ++ r)
  less : rows ≠ [] → other < one
  fst : rows = [] → one = a ∧ other = b
  len : one * other * 2 ^ rows.length ≤ 2 * (a * b)
theorem FwInv.start {a b : Int} (ha : 0 < a) (hb : 0 < b) : FwInv a b [] a b where
  o1 := ha
  o2 := Int.le_of_lt hb
  l1 := .inl (Int.le_refl _)
  l2 := Int.le_refl _
  go := fun r h => h
  less := fun z => absurd rfl z
  fst := fun _ => ⟨rfl, rfl⟩
  len := by
    have : 0 < a * b := Int.mul_pos ha hb
    show a * b * 1 ≤ 2 * (a * b)
    omega
theorem FwInv.turn {a b one other : Int} {rows : List Int} (h : FwInv a b rows one other) (ho : 0 < other) : FwInv a b (rows ++ [one / other]) other (one % other) := by
  obtain ⟨o1, o2, l1, l2, go, less, fst, len⟩ := h
  have h0 : 0 ≤ one % other := Int.emod_nonneg _ (Int.ne_of_gt ho)
  have h1 : one % other < other := Int.emod_lt_of_pos _ ho
  refine ⟨ho, h0, .inr l2, by omega, fun r hr => ?_, fun _ => h1, fun z => by simp at z, ?_⟩
  · rw [List.append_assoc]
    exact go _ (.cons o1 ho hr)
  · rw [List.length_append, List.length_singleton, Int.pow_succ]
    have hp : (0 : Int) ≤ 2 ^ rows.length := Int.pow_nonneg (by decide)
    cases rows with
    | nil =>
      show other * (one % other) * (1 * 2) ≤ 2 * (a * b)
      obtain ⟨e1, e2⟩ := fst rfl
      subst e1 e2
      have x : other * (one % other) ≤ other * one := Int.mul_le_mul_of_nonneg_left (emod_le_self o1 ho) o2
      rw [Int.mul_comm other one] at x
      omega
    | cons q r =>
      have hl := less (by simp)
      have x : 2 * (one % other) ≤ one := by
        have hm := Int.emod_add_mul_ediv one other
        have hq : 1 ≤ one / other := by
          rcases Int.lt_or_le (one / other) 1 with c | c
          · have : other * (one / other) ≤ other * 0 := Int.mul_le_mul_of_nonneg_left (by omega) o2
            omega
          · exact c
        have : other * 1 ≤ other * (one / other) := Int.mul_le_mul_of_nonneg_left hq o2
        omega
      have y : other * (one % other) * ((2 : Int) ^ (q :: r).length * 2) = (other * (2 * (one % other))) * 2 ^ (q :: r).length := by
        rw [Int.mul_comm ((2 : Int) ^ (q :: r).length) 2, ← Int.mul_assoc, Int.mul_assoc other, Int.mul_comm (one % other) 2]
      rw [y]
      refine Int.le_trans (Int.mul_le_mul_of_nonneg_right ?_ hp) len
      rw [Int.mul_comm one other]
      exact Int.mul_le_mul_of_nonneg_left x o2
theorem two_pow_cast (n : Nat) : ((2 ^ n : Nat) : Int) = (2 : Int) ^ n := by
  rw [Int.natCast_pow]
  rfl
/-- at most 4001 rows -/
theorem FwInv.few {a b one other : Int} {rows : List Int} (h : FwInv a b rows one other) (ho : 0 < other) (ha : a.natAbs < 2 ^ 2000) (hb : b.natAbs < 2 ^ 2000) : rows.length ≤ 4001 := by
  have e := h.len
  have h1 : 1 ≤ one * other := Int.mul_pos h.o1 ho
  have hp : (0 : Int) ≤ 2 ^ rows.length := by
    rw [← two_pow_cast]
    exact Int.natCast_nonneg _
  have h2 : (1 : Int) * 2 ^ rows.length ≤ one * other * 2 ^ rows.length := Int.mul_le_mul_of_nonneg_right h1 hp
  have h3 : (a * b).natAbs < 2 ^ 4000 := by
    rw [Int.natAbs_mul, show (4000 : Nat) = 2000 + 2000 from rfl, Nat.pow_add]
    exact Nat.mul_lt_mul'' ha hb
  have h4 : ((2 ^ rows.length : Nat) : Int) ≤ 2 * (a * b) := by
    rw [two_pow_cast]
    omega
  have h5 : 2 ^ rows.length < 2 ^ 4001 := by
    rw [show (4001 : Nat) = 4000 + 1 from rfl, Nat.pow_succ]
    generalize 2 ^ 4000 = Z at *
    generalize 2 ^ rows.length = Y at *
    omega
  have h6 : rows.length < 4001 := (Nat.pow_lt_pow_iff_right (by decide)).mp h5
  omega
/-- the law's way back gives what the program's way gives -/
theorem few_back {s a b g g2 : Int} {rows : List Int} (hs : 0 < s) (ha : 0 < a) (hb : 0 < b) (hg : 0 < g) (dg : ∀ d : Int, d ∣ g ↔ d ∣ a ∧ d ∣ b) (E : Eu (a / g) (b / g) rows) (hz : s % g = 0) :
    fewI (parts s a b) = if s / g * (back rows).1 % (b / g) * (a / g) ≤ s / g then s / g * (back rows).1 % (b / g) else -1 := by
  obtain ⟨da, db⟩ := (dg g).mp (Int.dvd_refl g)
  obtain ⟨a', ea⟩ := da
  obtain ⟨b', eb⟩ := db
  obtain ⟨s', es⟩ := Int.dvd_of_emod_eq_zero hz
  have e1 : s / g = s' := by rw [es]; exact Int.mul_ediv_cancel_left s' (Int.ne_of_gt hg)
  have e2 : b / g = b' := by rw [eb]; exact Int.mul_ediv_cancel_left b' (Int.ne_of_gt hg)
  have e3 : a / g = a' := by rw [ea]; exact Int.mul_ediv_cancel_left a' (Int.ne_of_gt hg)
  rw [e2, e3] at E
  obtain ⟨h, hh, dh, eh, _⟩ := E.back
  have h1 : h = 1 := by
    obtain ⟨x1, x2⟩ := (dh h).mp (Int.dvd_refl h)
    have d1 : g * h ∣ g := (dg _).mpr ⟨by rw [ea]; exact Int.mul_dvd_mul_left g x1, by rw [eb]; exact Int.mul_dvd_mul_left g x2⟩
    have l1 := Int.le_of_dvd hg d1
    rcases Int.lt_or_le 1 h with c | c
    · have : g * 2 ≤ g * h := Int.mul_le_mul_of_nonneg_left (by omega) (Int.le_of_lt hg)
      omega
    · omega
  have G : Good a b g (back rows).1 := by
    refine ⟨hg, ⟨a', ea⟩, ⟨b', eb⟩, -(back rows).2, ?_⟩
    rw [h1] at eh
    generalize (back rows).1 = m at *
    generalize (back rows).2 = t at *
    have x1 : m * a = g * (m * a') := by rw [ea, Int.mul_left_comm]
    have x2 : b * -t = -(g * (t * b')) := by rw [Int.mul_neg, eb, Int.mul_assoc, Int.mul_comm b' t]
    have x3 : g * (m * a' + t * b') = g * 1 := by rw [eh]
    rw [Int.mul_add] at x3
    omega
  rw [parts_good ha hb G, if_neg (by simp [hz]), e1, e2, e3]
  have key : (s' * (back rows).1 % b' * a > s) ↔ ¬ (s' * (back rows).1 % b' * a' ≤ s') := by
    generalize s' * (back rows).1 % b' = f
    have x : f * a = g * (f * a') := by rw [ea, Int.mul_left_comm]
    rw [x, es]
    constructor
    · intro q z
      have := Int.mul_le_mul_of_nonneg_left z (Int.le_of_lt hg)
      omega
    · intro q
      have := Int.mul_lt_mul_of_pos_left (show s' < f * a' by omega) hg
      omega
  by_cases c : s' * (back rows).1 % b' * a' ≤ s'
  · rw [if_neg (fun z => key.mp z c), if_pos c]
    rfl
  · rw [if_pos (key.mpr c), if_neg c]
    rfl
theorem few_none {s a b g : Int} (hb : 0 < b) (dg : ∀ d : Int, d ∣ g ↔ d ∣ a ∧ d ∣ b) (hz : s % g ≠ 0) : fewI (parts s a b) = -1 := by
  have e : parts s a b = none := parts_eq hb (x := none) (by
    rintro m n ⟨_, _, e⟩
    obtain ⟨x1, x2⟩ := (dg g).mp (Int.dvd_refl g)
    refine hz (Int.emod_eq_zero_of_dvd ?_)
    rw [← e]
    exact Int.dvd_add (Int.dvd_trans x1 (Int.dvd_mul_left _ _)) (Int.dvd_trans x2 (Int.dvd_mul_left _ _)))
  rw [e]
  rfl
end BF

/-! ### there is always an answer; a search among few -/
namespace BF
theorem eu_ex : ∀ (n : Nat) (a b : Int), 0 < a → 0 ≤ b → b.toNat ≤ n → ∃ rows, Eu a b rows
  | 0, a, b, ha, hb, h => by
    have e : b = 0 := by omega
    subst e
    exact ⟨[], .nil ha⟩
  | n + 1, a, b, ha, hb, h => by
    rcases Int.lt_or_le 0 b with c | c
    · have h0 : 0 ≤ a % b := Int.emod_nonneg _ (Int.ne_of_gt c)
      have h1 : a % b < b := Int.emod_lt_of_pos _ c
      obtain ⟨r, hr⟩ := eu_ex n b (a % b) c h0 (by omega)
      exact ⟨_, .cons ha c hr⟩
    · have e : b = 0 := by omega
      subst e
      exact ⟨[], .nil ha⟩
theorem good_ex {a b : Int} (ha : 0 < a) (hb : 0 < b) : ∃ g t, Good a b g t := by
  obtain ⟨rows, E⟩ := eu_ex _ a b ha (Int.le_of_lt hb) (Nat.le_refl _)
  obtain ⟨g, hg, dv, e, _⟩ := E.back
  obtain ⟨d1, d2⟩ := (dv g).mp (Int.dvd_refl g)
  refine ⟨g, (back rows).1, hg, d1, d2, -(back rows).2, ?_⟩
  rw [Int.mul_neg, Int.mul_comm b]
  omega
theorem parts_is {s a b : Int} (ha : 0 < a) (hb : 0 < b) : IsParts s a b (parts s a b) := by
  obtain ⟨g, t, G⟩ := good_ex ha hb
  have ex : ∃ x, IsParts s a b x := by
    by_cases hs : s % g ≠ 0
    · refine ⟨none, ?_⟩
      rintro m n ⟨_, _, e⟩
      refine hs (Int.emod_eq_zero_of_dvd ?_)
      rw [← e]
      exact Int.dvd_add (Int.dvd_trans G.ga (Int.dvd_mul_left _ _)) (Int.dvd_trans G.gb (Int.dvd_mul_left _ _))
    · have hd : g ∣ s := Int.dvd_of_emod_eq_zero (by omega)
      obtain ⟨k1, k2, k3⟩ := few_core ha hb G hd
      generalize s / g * t % (b / g) = f at k1 k2 k3
      have least : ∀ m n, Rep s a b m n → f ≤ m := fun m n ⟨h1, h2, h3⟩ => k3 m h1 ⟨n, by rw [Int.mul_comm b n]; omega⟩
      by_cases hf : f * a > s
      · refine ⟨none, ?_⟩
        rintro m n R
        have l := least m n R
        obtain ⟨h1, h2, h3⟩ := R
        have p1 : f * a ≤ m * a := Int.mul_le_mul_of_nonneg_right l (Int.le_of_lt ha)
        have p2 : 0 ≤ n * b := Int.mul_nonneg h2 (Int.le_of_lt hb)
        omega
      · refine ⟨some (f, (s - f * a) / b), ⟨k2, Int.ediv_nonneg (by omega) (Int.le_of_lt hb), ?_⟩, least⟩
        show f * a + (s - f * a) / b * b = s
        rw [Int.ediv_mul_cancel k1]
        omega
  obtain ⟨x, hx⟩ := ex
  rw [parts_eq hb hx]
  exact hx
theorem few_neg {s a b : Int} (ha : 0 < a) (hb : 0 < b) : fewI (parts s a b) < 0 ↔ parts s a b = none := by
  have h := parts_is (s := s) ha hb
  cases e : parts s a b with
  | none => simp [fewI]
  | some x =>
    rw [e] at h
    have := h.1.1
    simp only [fewI, reduceCtorEq, iff_false]
    omega
/-- the counts of the first below n that leave a multiple of the second -/
def hits (s a b : Int) (n : Nat) : List Int := ((List.range n).filter (fun m : Nat => decide ((s - (m : Int) * a) % b = 0))).map (fun m : Nat => (m : Int))
theorem hits_succ (s a b : Int) (n : Nat) : hits s a b (n + 1) = hits s a b n ++ (if (s - (n : Int) * a) % b = 0 then [(n : Int)] else []) := by
  unfold hits
  rw [List.range_succ, List.filter_append, List.map_append]
  congr 1
  by_cases c : (s - (n : Int) * a) % b = 0
  · rw [if_pos c]
    simp [List.filter_cons, c]
  · rw [if_neg c]
    simp [List.filter_cons, c]
theorem hits_len (s a b : Int) (n : Nat) : (hits s a b n).length ≤ n := by
  unfold hits
  rw [List.length_map]
  exact Nat.le_trans (List.length_filter_le _ _) (by rw [List.length_range]; exact Nat.le_refl _)
theorem hits_few {s a b : Int} (hs : 0 < s) (ha : 0 < a) (hb : 0 < b) : (hits s a b (s / a + 1).toNat ++ [-1])[0]? = some (fewI (parts s a b)) := by
  have hq : 0 ≤ s / a := Int.ediv_nonneg (Int.le_of_lt hs) (Int.le_of_lt ha)
  have hm := Int.emod_add_mul_ediv s a
  have hr := Int.emod_nonneg s (Int.ne_of_gt ha)
  have rep : ∀ m : Nat, m < (s / a + 1).toNat → (s - (m : Int) * a) % b = 0 → Rep s a b m ((s - (m : Int) * a) / b) := fun m hl hz => by
    have l1 : (m : Int) ≤ s / a := by omega
    have l2 : a * (m : Int) ≤ a * (s / a) := Int.mul_le_mul_of_nonneg_left l1 (Int.le_of_lt ha)
    rw [Int.mul_comm a (m : Int)] at l2
    refine ⟨Int.natCast_nonneg m, Int.ediv_nonneg (by omega) (Int.le_of_lt hb), ?_⟩
    rw [Int.ediv_mul_cancel (Int.dvd_of_emod_eq_zero hz)]
    omega
  have h := parts_is (s := s) ha hb
  cases e : parts s a b with
  | none =>
    rw [e] at h
    have e0 : hits s a b (s / a + 1).toNat = [] := by
      unfold hits
      rw [List.filter_eq_nil_iff.mpr fun m hm2 => ?_]
      · rfl
      · intro z
        exact h _ _ (rep m (List.mem_range.mp hm2) (of_decide_eq_true z))
    rw [e0]
    rfl
  | some x =>
    rw [e] at h
    obtain ⟨⟨h1, h2, h3⟩, least⟩ := h
    obtain ⟨m, n⟩ := x
    simp only at h1 h2 h3 least
    obtain ⟨k, rfl⟩ := Int.eq_ofNat_of_zero_le h1
    have n0 : 0 ≤ n * b := Int.mul_nonneg h2 (Int.le_of_lt hb)
    have kl : (k : Int) ≤ s / a := by
      rcases Int.lt_or_le (s / a) k with c | c
      · have hl := Int.emod_lt_of_pos s ha
        have : a * (s / a + 1) ≤ a * (k : Int) := Int.mul_le_mul_of_nonneg_left (by omega) (Int.le_of_lt ha)
        rw [Int.mul_add, Int.mul_one, Int.mul_comm a (k : Int)] at this
        omega
      · exact c
    have hf : (List.range (s / a + 1).toNat).find? (fun m : Nat => decide ((s - (m : Int) * a) % b = 0)) = some k := by
      rw [List.find?_range_eq_some]
      refine ⟨decide_eq_true ?_, List.mem_range.mpr (by omega), fun j hj => ?_⟩
      · have : s - (k : Int) * a = n * b := by omega
        rw [this]
        exact Int.mul_emod_left n b
      · rw [Bool.not_eq_true', decide_eq_false_iff_not]
        intro z
        have := least _ _ (rep j (by omega) z)
        omega
    have hh : (hits s a b (s / a + 1).toNat)[0]? = some (k : Int) := by
      unfold hits
      rw [List.getElem?_map, ← List.head?_eq_getElem?, List.head?_filter, hf]
      rfl
    rw [List.getElem?_append_left (by
      rw [List.getElem?_eq_some_iff] at hh
      exact hh.1), hh]
    rfl
end BF

/-! ### plain mathematics of the stripes -/
namespace BF
/-- pairs below l and h that come to t -/
def pairsI (l h t : Int) : Int := max 0 (min t (l - 1) - max 0 (t - h + 1) + 1)
def alikeI (L W s c : Int) : Int := L / s * W + L % s * (W / s) + pairsI (L % s) (W % s) c + pairsI (L % s) (W % s) (c + s)
theorem pairs_swap {l h t : Int} (hl : 0 ≤ l) (hh : 0 ≤ h) : pairsI l h t = pairsI h l t := by
  unfold pairsI
  omega
theorem pairs_zero {l t : Int} (hl : 0 ≤ l) (ht : 0 ≤ t) : pairsI l 0 t = 0 := by
  unfold pairsI
  omega
theorem pairs_step {l h t : Int} (hl : 0 ≤ l) (hh : 0 ≤ h) (ht : 0 ≤ t) : pairsI l (h + 1) t = pairsI l h t + if h ≤ t ∧ t < h + l then 1 else 0 := by
  unfold pairsI
  split <;> omega
theorem pairs_full {l s c : Int} (hl : 0 ≤ l) (hs : l < s) (h0 : 0 ≤ c) (h1 : c < s) : pairsI l s c + pairsI l s (c + s) = l := by
  unfold pairsI
  omega
theorem alike_swap {L W s c : Int} (hs : 0 < s) : alikeI L W s c = alikeI W L s c := by
  have h1 := Int.emod_nonneg L (Int.ne_of_gt hs)
  have h2 := Int.emod_nonneg W (Int.ne_of_gt hs)
  unfold alikeI
  rw [pairs_swap (t := c) h1 h2, pairs_swap (t := c + s) h1 h2]
  have e1 := Int.emod_add_mul_ediv L s
  have e2 := Int.emod_add_mul_ediv W s
  have k : L / s * W + L % s * (W / s) = W / s * L + W % s * (L / s) := by
    generalize L / s = q at *
    generalize W / s = r at *
    generalize L % s = l at *
    generalize W % s = h at *
    have x1 : q * W = q * h + q * (s * r) := by rw [← Int.mul_add, e2]
    have x2 : r * L = r * l + r * (s * q) := by rw [← Int.mul_add, e1]
    have x3 : q * (s * r) = r * (s * q) := by rw [Int.mul_left_comm, Int.mul_left_comm r s q, Int.mul_comm q r]
    have x4 : l * r = r * l := Int.mul_comm _ _
    have x5 : h * q = q * h := Int.mul_comm _ _
    omega
  rw [k]
/-- how many below n leave less than l behind them -/
def cntI (c s l : Int) (n : Nat) : Int := (((List.range n).filter (fun u : Nat => decide ((c - (u : Int)) % s < l))).length : Int)
theorem cnt_succ (c s l : Int) (n : Nat) : cntI c s l (n + 1) = cntI c s l n + if (c - (n : Int)) % s < l then 1 else 0 := by
  unfold cntI
  rw [List.range_succ, List.filter_append, List.length_append]
  by_cases h : (c - (n : Int)) % s < l
  · rw [if_pos h]
    simp [List.filter_cons, h]
  · rw [if_neg h]
    simp [List.filter_cons, h]
theorem cnt_eq {c s l : Int} (hl : 0 ≤ l) (hls : l < s) (h0 : 0 ≤ c) (h1 : c < s) : ∀ n : Nat, cntI c s l n = l * ((n : Int) / s) + pairsI l ((n : Int) % s) c + pairsI l ((n : Int) % s) (c + s)
  | 0 => by
    have hs : 0 < s := by omega
    have e1 : ((0 : Nat) : Int) / s = 0 := Int.zero_ediv s
    have e2 : ((0 : Nat) : Int) % s = 0 := Int.zero_emod s
    rw [e1, e2, pairs_zero hl h0, pairs_zero hl (by omega)]
    show (0 : Int) = l * 0 + 0 + 0
    omega
  | n + 1 => by
    have hs : 0 < s := by omega
    rw [cnt_succ, cnt_eq hl hls h0 h1 n]
    have e := Int.emod_add_mul_ediv (n : Int) s
    have g0 := Int.emod_nonneg (n : Int) (Int.ne_of_gt hs)
    have g1 := Int.emod_lt_of_pos (n : Int) hs
    have ec : ((n + 1 : Nat) : Int) = (n : Int) + 1 := by omega
    rw [ec]
    generalize hr : (n : Int) / s = r at *
    generalize hh : (n : Int) % s = h at *
    -- (c - n) % s
    have em : (c - (n : Int)) % s = if h ≤ c then c - h else c - h + s := by
      split
      · have : c - (n : Int) = (c - h) + s * (-r) := by rw [Int.mul_neg]; omega
        rw [this, Int.add_mul_emod_self_left, Int.emod_eq_of_lt (by omega) (by omega)]
      · have : c - (n : Int) = (c - h + s) + s * (-r - 1) := by rw [Int.mul_sub, Int.mul_neg]; omega
        rw [this, Int.add_mul_emod_self_left, Int.emod_eq_of_lt (by omega) (by omega)]
    rcases Int.lt_or_le (h + 1) s with hlt | hge
    · have d1 : ((n : Int) + 1) / s = r := by
        have : (n : Int) + 1 = (h + 1) + s * r := by omega
        rw [this, Int.add_mul_ediv_left _ _ (Int.ne_of_gt hs), Int.ediv_eq_zero_of_lt (by omega) hlt]
        omega
      have d2 : ((n : Int) + 1) % s = h + 1 := by
        have : (n : Int) + 1 = (h + 1) + s * r := by omega
        rw [this, Int.add_mul_emod_self_left, Int.emod_eq_of_lt (by omega) hlt]
      rw [d1, d2, pairs_step hl g0 h0, pairs_step hl g0 (by omega : 0 ≤ c + s), em]
      generalize pairsI l h c = p1
      generalize pairsI l h (c + s) = p2
      generalize l * r = lr
      split <;> split <;> split <;> split <;> omega
    · have eh : h = s - 1 := by omega
      have d1 : ((n : Int) + 1) / s = r + 1 := by
        have : (n : Int) + 1 = s * (r + 1) := by rw [Int.mul_add]; omega
        rw [this, Int.mul_ediv_cancel_left _ (Int.ne_of_gt hs)]
      have d2 : ((n : Int) + 1) % s = 0 := by
        have : (n : Int) + 1 = s * (r + 1) := by rw [Int.mul_add]; omega
        rw [this, Int.mul_emod_right]
      have f := pairs_full hl hls h0 h1
      have s1 := pairs_step (l := l) (h := h) (t := c) hl g0 h0
      have s2 := pairs_step (l := l) (h := h) (t := c + s) hl g0 (by omega)
      have e3 : h + 1 = s := by omega
      rw [e3] at s1 s2
      rw [d1, d2, pairs_zero hl h0, pairs_zero hl (by omega), em, Int.mul_add]
      generalize pairsI l h c = p1 at *
      generalize pairsI l h (c + s) = p2 at *
      generalize pairsI l s c = p3 at *
      generalize pairsI l s (c + s) = p4 at *
      generalize l * r = lr
      split at s1 <;> split at s2 <;> split <;> split at em <;> omega
/-- the law's own count, row by row -/
theorem law_alike_few {L s c : Int} {W : Nat} (h0 : 0 ≤ c) (h1 : c < s) : L / s * (W : Int) + cntI c s (L % s) W = alikeI L W s c := by
  have hs : 0 < s := by omega
  rw [cnt_eq (Int.emod_nonneg L (Int.ne_of_gt hs)) (Int.emod_lt_of_pos L hs) h0 h1]
  unfold alikeI
  omega
/-- sums below n -/
def sumI (f : Int → Int) : Nat → Int
  | 0 => 0
  | n + 1 => sumI f n + f n
theorem sumI_add (f g : Int → Int) : ∀ n, sumI (fun i => f i + g i) n = sumI f n + sumI g n
  | 0 => rfl
  | n + 1 => by
    show sumI (fun i => f i + g i) n + (f n + g n) = (sumI f n + f n) + (sumI g n + g n)
    rw [sumI_add f g n]
    omega
theorem sumI_const (k : Int) : ∀ n : Nat, sumI (fun _ => k) n = n * k
  | 0 => by
    show (0 : Int) = ((0 : Nat) : Int) * k
    omega
  | n + 1 => by
    show sumI (fun _ => k) n + k = ((n + 1 : Nat) : Int) * k
    rw [sumI_const k n]
    have e : ((n + 1 : Nat) : Int) = (n : Int) + 1 := by omega
    rw [e, Int.add_mul]
    omega
theorem sumI_congr {f g : Int → Int} : ∀ {n : Nat}, (∀ i : Nat, i < n → f i = g i) → sumI f n = sumI g n
  | 0, _ => rfl
  | n + 1, h => by
    show sumI f n + f n = sumI g n + g n
    rw [sumI_congr (n := n) (fun i hi => h i (by omega)), h n (by omega)]
theorem sumI_ind (a b : Int) (h0 : 0 ≤ a) : ∀ n : Nat, sumI (fun t => if a ≤ t ∧ t < a + b then 1 else 0) n = max 0 (min b ((n : Int) - a))
  | 0 => by
    show (0 : Int) = max 0 (min b (((0 : Nat) : Int) - a))
    omega
  | n + 1 => by
    show sumI (fun t => if a ≤ t ∧ t < a + b then 1 else 0) n + (if a ≤ (n : Int) ∧ (n : Int) < a + b then 1 else 0) = _
    rw [sumI_ind a b h0 n]
    split <;> omega
theorem ifc {p q : Prop} [Decidable p] [Decidable q] (h : p ↔ q) {a b : Int} : (if p then a else b) = if q then a else b := by
  by_cases c : p
  · rw [if_pos c, if_pos (h.mp c)]
  · rw [if_neg c, if_neg (fun z => c (h.mpr z))]
theorem sum_pairs {l s : Int} {n : Nat} (hl : 0 ≤ l) (hls : l ≤ s) (hn : (n : Int) = s) : ∀ h : Nat, (h : Int) ≤ s → sumI (fun c => pairsI l h c + pairsI l h (c + s)) n = l * h
  | 0, _ => by
    rw [sumI_congr (g := fun _ => 0) (fun i _ => by
      show pairsI l ((0 : Nat) : Int) i + pairsI l ((0 : Nat) : Int) (i + s) = 0
      rw [show ((0 : Nat) : Int) = 0 from rfl, pairs_zero hl (by omega), pairs_zero hl (by omega)]
      rfl), sumI_const]
    show (n : Int) * 0 = l * 0
    omega
  | h + 1, hh => by
    have ih := sum_pairs hl hls hn h (by omega)
    have e : ((h + 1 : Nat) : Int) = (h : Int) + 1 := by omega
    have step : sumI (fun c => pairsI l ((h + 1 : Nat) : Int) c + pairsI l ((h + 1 : Nat) : Int) (c + s)) n
        = sumI (fun c => (pairsI l h c + pairsI l h (c + s)) + ((if (h : Int) ≤ c ∧ c < (h : Int) + l then 1 else 0) + (if (h : Int) - s ≤ c ∧ c < (h : Int) - s + l then 1 else 0))) n := by
      refine sumI_congr fun i hi => ?_
      rw [e, pairs_step hl (by omega) (by omega), pairs_step hl (by omega) (by omega : 0 ≤ (i : Int) + s)]
      have q1 : ((h : Int) ≤ (i : Int) + s ∧ (i : Int) + s < (h : Int) + l) ↔ ((h : Int) - s ≤ (i : Int) ∧ (i : Int) < (h : Int) - s + l) := by omega
      rw [ifc q1]
      omega
    have z : sumI (fun c => (if (h : Int) - s ≤ c ∧ c < (h : Int) - s + l then (1 : Int) else 0)) n = sumI (fun c => if (0 : Int) ≤ c ∧ c < 0 + max 0 ((h : Int) - s + l) then 1 else 0) n := by
      refine sumI_congr fun i hi => ?_
      have q1 : ((h : Int) - s ≤ (i : Int) ∧ (i : Int) < (h : Int) - s + l) ↔ ((0 : Int) ≤ (i : Int) ∧ (i : Int) < 0 + max 0 ((h : Int) - s + l)) := by omega
      show (if (h : Int) - s ≤ (i : Int) ∧ (i : Int) < (h : Int) - s + l then (1 : Int) else 0) = if (0 : Int) ≤ (i : Int) ∧ (i : Int) < 0 + max 0 ((h : Int) - s + l) then 1 else 0
      rw [ifc q1]
    rw [step, sumI_add, ih, sumI_add, z, sumI_ind _ _ (by omega), sumI_ind _ _ (by omega), e, Int.mul_add]
    omega
theorem sum_alike {L W s : Int} {n : Nat} (hs : 0 < s) (hn : (n : Int) = s) (hW : 0 ≤ W) : sumI (fun c => alikeI L W s c) n = L * W := by
  have h1 := Int.emod_nonneg L (Int.ne_of_gt hs)
  have h2 := Int.emod_nonneg W (Int.ne_of_gt hs)
  have g1 := Int.emod_lt_of_pos L hs
  have g2 := Int.emod_lt_of_pos W hs
  have e1 := Int.emod_add_mul_ediv L s
  have e2 := Int.emod_add_mul_ediv W s
  have e : sumI (fun c => alikeI L W s c) n = sumI (fun c => (L / s * W + L % s * (W / s)) + (pairsI (L % s) (W % s) c + pairsI (L % s) (W % s) (c + s))) n := sumI_congr fun i _ => by
    unfold alikeI
    omega
  obtain ⟨h, hh⟩ := Int.eq_ofNat_of_zero_le h2
  rw [e, sumI_add, sumI_const, hh, sum_pairs h1 (by omega) hn h (by omega), ← hh, hn]
  generalize L / s = q at *
  generalize W / s = r at *
  generalize L % s = l at *
  generalize W % s = k at *
  have x1 : L * W = (l + s * q) * W := by rw [e1]
  have x2 : (l + s * q) * W = l * W + s * q * W := Int.add_mul _ _ _
  have x3 : l * W = l * k + l * (s * r) := by rw [← Int.mul_add, e2]
  have x4 : s * (q * W + l * r) = s * q * W + l * (s * r) := by rw [Int.mul_add, Int.mul_assoc, Int.mul_left_comm s l r]
  omega
/-- two colours that aren't alike many -/
theorem alike_differ {L W s : Int} (hs : 0 < s) (hl : 0 < L % s) (hh : 0 < W % s) : ∃ c d : Int, 0 ≤ c ∧ c < s ∧ 0 ≤ d ∧ d < s ∧ alikeI L W s c ≠ alikeI L W s d := by
  have g1 := Int.emod_lt_of_pos L hs
  have g2 := Int.emod_lt_of_pos W hs
  refine ⟨min (L % s) (W % s) - 1, s - 1, by omega, by omega, by omega, by omega, ?_⟩
  unfold alikeI pairsI
  generalize L / s * W = x
  generalize L % s * (W / s) = y
  omega
theorem alike_same {L W s c : Int} (hs : 0 < s) (h0 : 0 ≤ c) (h : L % s = 0 ∨ W % s = 0) : alikeI L W s c = L / s * W + L % s * (W / s) := by
  have h1 := Int.emod_nonneg L (Int.ne_of_gt hs)
  have h2 := Int.emod_nonneg W (Int.ne_of_gt hs)
  unfold alikeI
  rcases h with e | e
  · rw [e, pairs_swap (t := c) (by omega) h2, pairs_swap (t := c + s) (by omega) h2, pairs_zero h2 h0, pairs_zero h2 (by omega)]
    omega
  · rw [e, pairs_zero h1 h0, pairs_zero h1 (by omega)]
    omega
end BF

namespace BF
open PySem PySem.Spec PyProof.Rows L2
def topS (i : Nat) : Stmt := PySem.Challenge.pw_brickfloor_k11_promises_by_hand.main.body.getD i (.Pass ⟨0, 0, 0, 0⟩)
abbrev s_is_number : Stmt := topS 9
abbrev s_check_sizes : Stmt := topS 10
abbrev s_shared : Stmt := topS 11
abbrev s_parts_of : Stmt := topS 12
abbrev s_sum_of : Stmt := topS 13
abbrev s_is_striped : Stmt := topS 16
abbrev s_what_bars : Stmt := topS 17
abbrev s_Laid_shows : Stmt := inClass (topS 18) 0
abbrev s_Striped___init__ : Stmt := inClass (topS 19) 0
abbrev s_Striped_shows : Stmt := inClass (topS 19) 1
abbrev s_Short___init__ : Stmt := inClass (topS 20) 0
abbrev s_Short_shows : Stmt := inClass (topS 20) 1
abbrev s_cells_of : Stmt := topS 21
abbrev s_is_beyond : Stmt := topS 22
abbrev s_covers : Stmt := topS 23
abbrev s_is_cell : Stmt := topS 24
abbrev s_often : Stmt := topS 25
abbrev s_Full_shows : Stmt := inClass (topS 26) 0
abbrev s_Beyond___init__ : Stmt := inClass (topS 27) 0
abbrev s_Beyond_shows : Stmt := inClass (topS 27) 1
abbrev s_Twice___init__ : Stmt := inClass (topS 28) 0
abbrev s_Twice_shows : Stmt := inClass (topS 28) 1
abbrev s_Bare___init__ : Stmt := inClass (topS 29) 0
abbrev s_Bare_shows : Stmt := inClass (topS 29) 1
abbrev s_told : Stmt := topS 31
abbrev s_check_laid : Stmt := topS 32
abbrev s_plan : Stmt := topS 33
abbrev s_brick_on : Stmt := topS 34
abbrev s_lying : Stmt := topS 35
abbrev s_standing : Stmt := topS 36
abbrev s_is_brick : Stmt := topS 39
abbrev s_judged : Stmt := topS 40
abbrev s_pairs_to : Stmt := topS 42
abbrev s_alike : Stmt := topS 43
abbrev s__law_word : Stmt := topS 45
abbrev s__law_told_right : Stmt := topS 46
abbrev s__law_cells_of : Stmt := topS 47
abbrev s__law_laying_right : Stmt := topS 48
abbrev s__law_far_laying : Stmt := topS 49
abbrev s__law_laying_refused : Stmt := topS 50
abbrev s__law_colours_right : Stmt := topS 51
abbrev s__law_judged_right : Stmt := topS 52
abbrev s__law_judges_right : Stmt := topS 53
abbrev s_law : Stmt := topS 54
theorem sc_is_number : FnScope ["thing"] ["thing"] (defScope s_is_number) := ⟨rfl, rfl, rfl, by decide +kernel, rfl, by decide +kernel, by decide +kernel⟩
theorem sc_check_sizes : FnScope ["some", "one"] ["some"] (defScope s_check_sizes) := ⟨rfl, rfl, rfl, by decide +kernel, rfl, by decide +kernel, by decide +kernel⟩
theorem sc_shared : FnScope ["one", "other", "mine", "theirs", "by", "often"] ["one", "other"] (defScope s_shared) := ⟨rfl, rfl, rfl, by decide +kernel, rfl, by decide +kernel, by decide +kernel⟩
theorem sc_parts_of : FnScope ["size", "first", "second", "by", "turned", "few"] ["size", "first", "second"] (defScope s_parts_of) := ⟨rfl, rfl, rfl, by decide +kernel, rfl, by decide +kernel, by decide +kernel⟩
theorem sc_sum_of : FnScope ["size", "first", "second"] ["size", "first", "second"] (defScope s_sum_of) := ⟨rfl, rfl, rfl, by decide +kernel, rfl, by decide +kernel, by decide +kernel⟩
theorem sc_is_striped : FnScope ["length", "width", "side"] ["length", "width", "side"] (defScope s_is_striped) := ⟨rfl, rfl, rfl, by decide +kernel, rfl, by decide +kernel, by decide +kernel⟩
theorem sc_what_bars : FnScope ["length", "width", "first", "second", "striped", "short", "which", "side"] ["length", "width", "first", "second"] (defScope s_what_bars) := ⟨rfl, rfl, rfl, by decide +kernel, rfl, by decide +kernel, by decide +kernel⟩
theorem sc_Laid_shows : FnScope ["self", "length", "width", "first", "second"] ["self", "length", "width", "first", "second"] (defScope s_Laid_shows) := ⟨rfl, rfl, rfl, by decide +kernel, rfl, by decide +kernel, by decide +kernel⟩
theorem sc_Striped___init__ : FnScope ["self", "which"] ["self", "which"] (defScope s_Striped___init__) := ⟨rfl, rfl, rfl, by decide +kernel, rfl, by decide +kernel, by decide +kernel⟩
theorem sc_Striped_shows : FnScope ["self", "length", "width", "first", "second"] ["self", "length", "width", "first", "second"] (defScope s_Striped_shows) := ⟨rfl, rfl, rfl, by decide +kernel, rfl, by decide +kernel, by decide +kernel⟩
theorem sc_Short___init__ : FnScope ["self", "which"] ["self", "which"] (defScope s_Short___init__) := ⟨rfl, rfl, rfl, by decide +kernel, rfl, by decide +kernel, by decide +kernel⟩
theorem sc_Short_shows : FnScope ["self", "length", "width", "first", "second"] ["self", "length", "width", "first", "second"] (defScope s_Short_shows) := ⟨rfl, rfl, rfl, by decide +kernel, rfl, by decide +kernel, by decide +kernel⟩
theorem sc_cells_of : FnScope ["first", "second", "brick", "long", "high", "found", "along", "up"] ["first", "second", "brick"] (defScope s_cells_of) := ⟨rfl, rfl, rfl, by decide +kernel, rfl, by decide +kernel, by decide +kernel⟩
theorem sc_is_beyond : FnScope ["length", "width", "first", "second", "brick", "long", "high"] ["length", "width", "first", "second", "brick"] (defScope s_is_beyond) := ⟨rfl, rfl, rfl, by decide +kernel, rfl, by decide +kernel, by decide +kernel⟩
theorem sc_covers : FnScope ["first", "second", "brick", "cell", "long", "high"] ["first", "second", "brick", "cell"] (defScope s_covers) := ⟨rfl, rfl, rfl, by decide +kernel, rfl, by decide +kernel, by decide +kernel⟩
theorem sc_is_cell : FnScope ["length", "width", "thing"] ["length", "width", "thing"] (defScope s_is_cell) := ⟨rfl, rfl, rfl, by decide +kernel, rfl, by decide +kernel, by decide +kernel⟩
theorem sc_often : FnScope ["first", "second", "bricks", "cell", "brick"] ["first", "second", "bricks", "cell"] (defScope s_often) := ⟨rfl, rfl, rfl, by decide +kernel, rfl, by decide +kernel, by decide +kernel⟩
theorem sc_Full_shows : FnScope ["self", "length", "width", "first", "second", "bricks", "seen", "brick", "cell"] ["self", "length", "width", "first", "second", "bricks"] (defScope s_Full_shows) := ⟨rfl, rfl, rfl, by decide +kernel, rfl, by decide +kernel, by decide +kernel⟩
theorem sc_Beyond___init__ : FnScope ["self", "count"] ["self", "count"] (defScope s_Beyond___init__) := ⟨rfl, rfl, rfl, by decide +kernel, rfl, by decide +kernel, by decide +kernel⟩
theorem sc_Beyond_shows : FnScope ["self", "length", "width", "first", "second", "bricks"] ["self", "length", "width", "first", "second", "bricks"] (defScope s_Beyond_shows) := ⟨rfl, rfl, rfl, by decide +kernel, rfl, by decide +kernel, by decide +kernel⟩
theorem sc_Twice___init__ : FnScope ["self", "cell"] ["self", "cell"] (defScope s_Twice___init__) := ⟨rfl, rfl, rfl, by decide +kernel, rfl, by decide +kernel, by decide +kernel⟩
theorem sc_Twice_shows : FnScope ["self", "length", "width", "first", "second", "bricks"] ["self", "length", "width", "first", "second", "bricks"] (defScope s_Twice_shows) := ⟨rfl, rfl, rfl, by decide +kernel, rfl, by decide +kernel, by decide +kernel⟩
theorem sc_Bare___init__ : FnScope ["self", "cell"] ["self", "cell"] (defScope s_Bare___init__) := ⟨rfl, rfl, rfl, by decide +kernel, rfl, by decide +kernel, by decide +kernel⟩
theorem sc_Bare_shows : FnScope ["self", "length", "width", "first", "second", "bricks"] ["self", "length", "width", "first", "second", "bricks"] (defScope s_Bare_shows) := ⟨rfl, rfl, rfl, by decide +kernel, rfl, by decide +kernel, by decide +kernel⟩
theorem sc_told : FnScope ["length", "width", "first", "second", "striped", "short"] ["length", "width", "first", "second"] (defScope s_told) := ⟨rfl, rfl, rfl, by decide +kernel, rfl, by decide +kernel, by decide +kernel⟩
theorem sc_check_laid : FnScope ["length", "width", "first", "second"] ["length", "width", "first", "second"] (defScope s_check_laid) := ⟨rfl, rfl, rfl, by decide +kernel, rfl, by decide +kernel, by decide +kernel⟩
theorem sc_plan : FnScope ["length", "width", "first", "second"] ["length", "width", "first", "second"] (defScope s_plan) := ⟨rfl, rfl, rfl, by decide +kernel, rfl, by decide +kernel, by decide +kernel⟩
theorem sc_brick_on : FnScope ["length", "width", "first", "second", "cell", "along", "up", "begin", "low", "corner"] ["length", "width", "first", "second", "cell"] (defScope s_brick_on) := ⟨rfl, rfl, rfl, by decide +kernel, rfl, by decide +kernel, by decide +kernel⟩
theorem sc_lying : FnScope ["length", "width", "first", "second", "along", "up"] ["length", "width", "first", "second"] (defScope s_lying) := ⟨rfl, rfl, rfl, by decide +kernel, rfl, by decide +kernel, by decide +kernel⟩
theorem sc_standing : FnScope ["length", "width", "first", "second", "many"] ["length", "width", "first", "second"] (defScope s_standing) := ⟨rfl, rfl, rfl, by decide +kernel, rfl, by decide +kernel, by decide +kernel⟩
theorem sc_is_brick : FnScope ["thing"] ["thing"] (defScope s_is_brick) := ⟨rfl, rfl, rfl, by decide +kernel, rfl, by decide +kernel, by decide +kernel⟩
theorem sc_judged : FnScope ["length", "width", "first", "second", "bricks", "count", "brick", "along", "up", "many"] ["length", "width", "first", "second", "bricks"] (defScope s_judged) := ⟨rfl, rfl, rfl, by decide +kernel, rfl, by decide +kernel, by decide +kernel⟩
theorem sc_pairs_to : FnScope ["long", "high", "sum_wanted"] ["long", "high", "sum_wanted"] (defScope s_pairs_to) := ⟨rfl, rfl, rfl, by decide +kernel, rfl, by decide +kernel, by decide +kernel⟩
theorem sc_alike : FnScope ["length", "width", "size", "colour", "long", "high", "whole"] ["length", "width", "size", "colour"] (defScope s_alike) := ⟨rfl, rfl, rfl, by decide +kernel, rfl, by decide +kernel, by decide +kernel⟩
theorem sc__law_word : FnScope ["_law_ask", "_law_thing", "error", "_law_kinds"] ["_law_ask", "_law_thing"] (defScope s__law_word) := ⟨rfl, rfl, rfl, by decide +kernel, rfl, by decide +kernel, by decide +kernel⟩
theorem sc__law_told_right : FnScope ["_law_far", "_law_cases", "_law_length", "_law_width", "_law_first", "_law_second", "_law_due", "_law_found", "_law_shown", "_law_size"] ["_law_far"] (defScope s__law_told_right) := ⟨rfl, rfl, rfl, by decide +kernel, rfl, by decide +kernel, by decide +kernel⟩
theorem sc__law_cells_of : FnScope ["_law_first", "_law_second", "_law_corner", "_law_lies", "_law_long", "_law_high", "_law_found", "_law_along", "_law_up"] ["_law_first", "_law_second", "_law_corner", "_law_lies"] (defScope s__law_cells_of) := ⟨rfl, rfl, rfl, by decide +kernel, rfl, by decide +kernel, by decide +kernel⟩
theorem sc__law_laying_right : FnScope ["_law_far", "_law_floors", "_law_length", "_law_width", "_law_first", "_law_second", "_law_counts", "_law_bricks", "_law_along", "_law_up", "_law_corner", "_law_lies", "_law_one", "_law_other"] ["_law_far"] (defScope s__law_laying_right) := ⟨rfl, rfl, rfl, by decide +kernel, rfl, by decide +kernel, by decide +kernel⟩
theorem sc__law_far_laying : FnScope ["_law_far", "_law_length", "_law_width", "_law_cell", "_law_corner", "_law_lies", "_law_cells", "_law_one", "_law_along", "_law_up"] ["_law_far"] (defScope s__law_far_laying) := ⟨rfl, rfl, rfl, by decide +kernel, rfl, by decide +kernel, by decide +kernel⟩
theorem sc__law_laying_refused : FnScope ["_law_asks", "_law_bads", "_law_ask", "_law_bad"] [] (defScope s__law_laying_refused) := ⟨rfl, rfl, rfl, by decide +kernel, rfl, by decide +kernel, by decide +kernel⟩
theorem sc__law_colours_right : FnScope ["_law_far", "_law_length", "_law_width", "_law_size", "_law_some", "_law_colour", "_law_bad"] ["_law_far"] (defScope s__law_colours_right) := ⟨rfl, rfl, rfl, by decide +kernel, rfl, by decide +kernel, by decide +kernel⟩
theorem sc__law_judged_right : FnScope ["_law_far", "_law_lie", "_law_stand", "_law_cases", "_law_length", "_law_width", "_law_bricks", "_law_answer", "_law_due"] ["_law_far"] (defScope s__law_judged_right) := ⟨rfl, rfl, rfl, by decide +kernel, rfl, by decide +kernel, by decide +kernel⟩
theorem sc__law_judges_right : FnScope ["_law_lie", "_law_stand", "_law_bads", "_law_bad"] [] (defScope s__law_judges_right) := ⟨rfl, rfl, rfl, by decide +kernel, rfl, by decide +kernel, by decide +kernel⟩
theorem sc_law : FnScope ["_law_script", "_law_far"] ["_law_script"] (defScope s_law) := ⟨rfl, rfl, rfl, by decide +kernel, rfl, by decide +kernel, by decide +kernel⟩
/-- the built-ins that the text names are free -/
structure Bi (mg : Str → Option Value) : Prop where
  ValueError : mg "ValueError" = none
  abs : mg "abs" = none
  all : mg "all" = none
  any : mg "any" = none
  bool : mg "bool" = none
  enumerate : mg "enumerate" = none
  int : mg "int" = none
  isinstance : mg "isinstance" = none
  len : mg "len" = none
  list : mg "list" = none
  max : mg "max" = none
  min : mg "min" = none
  range : mg "range" = none
  sum : mg "sum" = none
  tuple : mg "tuple" = none
end BF

/-! ### small helpers for the laws: the script's cells, picks out of four, sizes of drawn numbers -/
namespace BF
open PySem PySem.Spec PyProof.Rows L2
inductive SpLaw (K : PySem.W.Frag) : Sp where
  | mk {a : Addr} {ns : List Int} {H : Hp} {Q : VK} {E : XK} (hl : ns.length ≤ 63) (hb : ∀ z ∈ ns, Builtin.Int.intBits z ≤ 1048576) (hS : SqL K H a (ns.map V.int)) (q : ∀ H', Q (.bl true) H') : SpLaw K [.ref a] H Q E
theorem bn_of_lt {x : Int} (h0 : 0 ≤ x) (h : x < 10 ^ 60) : Bn 200 x := by
  refine ⟨?_⟩
  have e : (10 : Int) ^ 60 = ((10 ^ 60 : Nat) : Int) := by decide
  have l : (10 : Nat) ^ 60 < 2 ^ 200 := by decide
  rw [e] at h
  omega
theorem sz_of_lt {x : Int} (h0 : 0 < x) (h : x < 10 ^ 60) : Sz x := ⟨h0, (bn_of_lt (by omega) h).mono (by decide)⟩
theorem cut_map {α β : Type} (f : α → β) (xs : List α) (lo hi : Nat) : ((xs.map f).drop lo).take hi = ((xs.drop lo).take hi).map f := by
  rw [← List.map_drop, ← List.map_take]
theorem cut_ints (ns : List Int) (lo hi : Option Int) : ∃ ms : List Int, cutV (ns.map V.int) lo hi = ms.map V.int := by
  unfold cutV
  exact ⟨_, cut_map V.int ns _ _⟩
theorem at_cell {ns : List Int} {k : Int} (h0 : -(ns.length : Int) ≤ k) (h1 : k < ns.length) : ∃ c, c ∈ ns ∧ atI (ns.map V.int) k = some (.int c) := by
  rcases Int.lt_or_le k 0 with hk | hk
  · have hj : (k + ns.length).toNat < ns.length := by omega
    refine ⟨ns[(k + ns.length).toNat], List.getElem_mem _, ?_⟩
    have e : ixN (ns.map V.int).length k = some (k + ns.length).toNat := by
      unfold ixN
      rw [List.length_map, if_neg (by omega), if_pos (by omega)]
    unfold atI
    rw [e]
    show (ns.map V.int)[(k + ns.length).toNat]? = _
    rw [List.getElem?_map, List.getElem?_eq_getElem hj]
    rfl
  · have hj : k.toNat < ns.length := by omega
    refine ⟨ns[k.toNat], List.getElem_mem _, ?_⟩
    obtain ⟨j, rfl⟩ := Int.eq_ofNat_of_zero_le hk
    refine atI_nat ?_
    rw [List.getElem?_map]
    have hj2 : j < ns.length := by omega
    rw [List.getElem?_eq_getElem hj2]
    rfl
theorem pick4 {x0 x1 x2 x3 : V} {k : Int} (h0 : 0 ≤ k) (h4 : k < 4) : ∃ v, atI [x0, x1, x2, x3] k = some v ∧ (v = x0 ∨ v = x1 ∨ v = x2 ∨ v = x3) := by
  have e : k = 0 ∨ k = 1 ∨ k = 2 ∨ k = 3 := by omega
  rcases e with rfl | rfl | rfl | rfl
  · exact ⟨x0, rfl, .inl rfl⟩
  · exact ⟨x1, rfl, .inr (.inl rfl)⟩
  · exact ⟨x2, rfl, .inr (.inr (.inl rfl))⟩
  · exact ⟨x3, rfl, .inr (.inr (.inr rfl))⟩
end BF

/-! ### lambdas with parameters, kept and called later -/
namespace BF
open PySem PySem.Spec PyProof.Rows L2 LamX NdefX
/-- a lambda: its words, the cells that it captured, its code object -/
structure LF where
  qual : Str
  params : Arguments
  body : Expr
  scope : Scope
  cl : List (Str × Addr)
  c : Addr
abbrev LF.nf (F : LF) : NF := ⟨"<lambda>", F.qual, F.params, [], F.scope, F.cl, F.c⟩
abbrev LF.fd (F : LF) (pm ctv : Value) : FuncData := PySem.W.kla_fn "<lambda>" F.qual F.params F.body F.scope F.cl pm (.ref F.c) ctv
def LamO (f : Addr) (F : LF) : HO := .ext fun h => ∃ (od : Option Addr) (sl : Array (Option Value)) (pm ctv : Value), h.get? f = some (⟨.type "function", od, .func (F.fd pm ctv), sl⟩ : Obj)
theorem lamO_ne {f : Addr} {F : LF} (ps : Array Value) : LamO f F ≠ .tbl ps := fun z => by
  unfold LamO at z
  cases z
theorem lamO_at {P : Program} {w : World} {H : Hp} {h : Heap} {f : Addr} {F : LF} (hok : HOk P w H h) (e : H f = some (LamO f F)) : ∃ (od : Option Addr) (sl : Array (Option Value)) (pm ctv : Value), h.get? f = some (⟨.type "function", od, .func (F.fd pm ctv), sl⟩ : Obj) := by
  obtain ⟨z, _, _⟩ := hok f _ e
  exact z
section
variable {X : Cx} {pins : List (Addr × Obj)} {σ : L2.St} {H : Hp} {s : Shared}
theorem inv_lam {F : LF} {o : Obj} {t' : Nat} {pm ctv : Value} (I : Inv X pins σ H s) (ho : o = { cls := .type "function", data := .func (F.fd pm ctv) }) :
    Inv X pins σ (upd H s.heap.objs.size (LamO s.heap.objs.size F)) { s with heap := s.heap.push o, toks := t' } := by
  subst ho
  refine I.laid (a := s.heap.objs.size) (fun b u e => Heap.get?_push_of_some _ e) (Nat.le_refl _) ?_
  have e : (s.heap.push ({ cls := .type "function", data := .func (F.fd pm ctv) } : Obj)).get? s.heap.objs.size = some ({ cls := .type "function", data := .func (F.fd pm ctv) } : Obj) := Heap.get?_push_size _ rfl
  exact ⟨⟨_, _, pm, ctv, e⟩, ⟨_, e⟩, fun h1 h2 ⟨od, sl, p, t, z⟩ st => ⟨od, sl, p, t, st _ z⟩⟩
/-- the reading of a lambda: a new function; the tables may grow -/
def tLamp (T : List (Addr × Str)) (mk : Addr → LF) : TE := fun _ H Q => Tabs T H ∧ ∀ (f c' : Addr) (H1 : Hp), ExtN H H1 → Tabs T H1 → H f = none → H1 f = some (LamO f (mk c')) → H1 c' = some (CodeO c' (mk c').qual) → Q (.ref f) H1
theorem lamp_make {T : List (Addr × Str)} {c P : Addr} {params : Arguments} {body : Expr} {scope : Scope} {pos : Pos} {E : Value → Shared → Prop} {Q : Value → Shared → Prop} (I : Inv X pins σ H s) (TB : TabB X.base X.mg c P) (hcode : X.env.code = .ref c)
    (hm : (P, X.env.qual ++ "<lambda>") ∈ T) (hu : ∀ p ∈ T, p.1 = P → p.2 = X.env.qual ++ "<lambda>") (hT : Tabs T H) (hdef : defaultsOf params X.env = ([], [])) (hfree : ∀ y ∈ scope.names, y.2 = .free → ∃ c, X.env.cells.lookup y.1 = some c)
    (h : ∀ (f c' : Addr) (H1 : Hp) (s' : Shared), Inv X pins σ H1 s' → ExtN H H1 → Tabs T H1 → H f = none → H1 f = some (LamO f ⟨X.env.qual ++ "<lambda>", params, body, scope, cloFrom X.env.cells scope.names [], c'⟩) → H1 c' = some (CodeO c' (X.env.qual ++ "<lambda>")) → Q (.ref f) s') :
    wpAny (model X.prog X.w) X.A (eval (.Lambda params body scope pos) X.env) Q E s := by
  obtain ⟨ps, hP, ht, ha⟩ := (show TabS H P (X.env.qual ++ "<lambda>") from hT _ hm)
  refine PySem.W.kla_eval hdef ?_
  have bP : s.heap.BuiltinsAt X.mg P := TB.bm.keeps I.bk
  have hP' : s.heap.get? P = some { cls := .none, data := .fields ps } := I.hok P _ hP
  cases hc : codeAmong pos ps.toList with
  | none =>
    refine PySem.W.kla_makeFunction (mg := X.mg) (c := c) (P := P) (ps := ps) (closure_ok hfree) I.ok.glob (I.mod.glob.keeps I.bk) hcode (TB.code.keeps I.bk) hP' ht hc TB.gP bP fun c' ctv h' tk hx hge hlt hrec htb => ?_
    obtain ⟨c2, oc, vs, t, e2, hoc, hd, hv⟩ := hrec
    cases e2
    have nC : H c' = none := I.hok.fresh hge
    have I1 := inv_table (t' := tk) (more := #[rawInt pos.line, rawInt pos.col, .ref c']) (h' := h') I hP (fun b o hb e => hx b o hb e) htb hge ⟨oc, vs, t, hoc, hd, hv⟩
    have hE : ExtN H (upd (upd H P (.tbl (ps ++ #[rawInt pos.line, rawInt pos.col, .ref c']))) c' (CodeO c' (X.env.qual ++ "<lambda>"))) := fun b o e n => by
      rw [upd_ne (ne_of_none e nC), upd_ne (fun z => n ps (Option.some.inj (e.symm.trans (by rw [z]; exact hP))))]
      exact e
    have eL : (ps ++ #[rawInt pos.line, rawInt pos.col, .ref c']).toList = ps.toList ++ [rawInt pos.line, rawInt pos.col, .ref c'] := by simp
    have T1 : Tabs T (upd (upd H P (.tbl (ps ++ #[rawInt pos.line, rawInt pos.col, .ref c']))) c' (CodeO c' (X.env.qual ++ "<lambda>"))) := fun p hp => by
      by_cases hb : p.1 = P
      · rw [hu p hp hb, hb]
        refine ⟨_, by rw [upd_ne (ne_of_none hP nC), upd_same], by rw [eL]; exact PySem.TriplesOk_snoc _ _ _ _ ht, fun p' cv hcv => ?_⟩
        rw [eL] at hcv
        rcases among_app _ ht hcv with z | z
        · obtain ⟨c0, e1, e2⟩ := ha p' cv z
          exact ⟨c0, e1, hE _ _ e2 codeO_ne⟩
        · exact ⟨c', z, upd_same⟩
      · obtain ⟨ps', a1, a2, a3⟩ := hT p hp
        refine ⟨ps', by rw [upd_ne (ne_of_none a1 nC), upd_ne hb]; exact a1, a2, fun p' cv hcv => ?_⟩
        obtain ⟨c0, e1, e2⟩ := a3 p' cv hcv
        exact ⟨c0, e1, hE _ _ e2 codeO_ne⟩
    have nF := I1.hok.fresh (Nat.le_refl _)
    have I2 := inv_lam (F := ⟨X.env.qual ++ "<lambda>", params, body, scope, cloFrom X.env.cells scope.names [], c'⟩) (t' := tk) (pm := (X.mg "__name__").getD .none) (ctv := ctv) I1 rfl
    refine h h'.objs.size c' _ _ I2 (fun b o e n => ?_) (T1.ext fun b o e => ?_) (I.hok.fresh (Nat.le_trans hge (Nat.le_of_lt hlt))) upd_same ?_
    · have e1 := hE b o e n
      exact (upd_ne (ne_of_none e1 nF)).trans e1
    · exact (upd_ne (ne_of_none e nF)).trans e
    · exact (upd_ne (Nat.ne_of_lt hlt)).trans upd_same
  | some cv =>
    obtain ⟨c', e, hco⟩ := ha pos cv hc
    subst e
    refine PySem.W.kla_makeFunctionHit (mg := X.mg) (c := c) (P := P) (ps := ps) (closure_ok hfree) I.ok.glob (I.mod.glob.keeps I.bk) hcode (TB.code.keeps I.bk) hP' ht hc bP fun ctv h' tk hx hsz => ?_
    have I1 : Inv X pins σ H { s with heap := h', toks := tk } := I.kept hx
    have nF : H h'.objs.size = none := I1.hok.fresh (Nat.le_refl _)
    have I2 := inv_lam (F := ⟨X.env.qual ++ "<lambda>", params, body, scope, cloFrom X.env.cells scope.names [], c'⟩) (t' := tk) (pm := (X.mg "__name__").getD .none) (ctv := ctv) I1 rfl
    refine h h'.objs.size c' _ _ I2 (fun b o e n => ?_) (hT.ext fun b o e => ?_) nF upd_same ?_
    · exact (upd_ne (ne_of_none e nF)).trans e
    · exact (upd_ne (ne_of_none e nF)).trans e
    · exact (upd_ne (ne_of_none hco nF)).trans hco
end
/-- lambda ..: body -/
theorem pe_lamp {X : Cx} {T : List (Addr × Str)} {c P : Addr} {params : Arguments} {body : Expr} {scope : Scope} {pos : Pos} (TB : TabB X.base X.mg c P) (hcode : X.env.code = .ref c) (hm : (P, X.env.qual ++ "<lambda>") ∈ T) (hu : ∀ p ∈ T, p.1 = P → p.2 = X.env.qual ++ "<lambda>")
    (hdef : defaultsOf params X.env = ([], [])) (hfree : ∀ y ∈ scope.names, y.2 = .free → X.env.scope.names.lookup y.1 = some .cell ∨ X.env.scope.names.lookup y.1 = some .free) :
    PE X (.Lambda params body scope pos) (tLamp T fun c' => ⟨X.env.qual ++ "<lambda>", params, body, scope, cloFrom X.env.cells scope.names [], c'⟩) := by
  refine ⟨fun pins s σ H Q I h => ?_⟩
  obtain ⟨hT, h⟩ := h
  refine lamp_make I TB hcode hm hu hT hdef (fun y hy e => (hfree y hy e).elim (fun z => I.ok.has _ (.inl z)) fun z => I.ok.has _ (.inr z)) fun f c' H1 s' I1 eN T1 hn hf hc => ?_
  exact ⟨.ref f, H1, I1, rfl, h f c' H1 eN T1 hn hf hc⟩
/-- the promise of the lambda F at f: sp ws, ws what its captured cells hold at the call -/
structure LOk (P : Program) (w : World) (K : PySem.W.Frag) (mg : Str → Option Value) (base : Heap) (CX : CXT) (k : Nat) (f : Addr) (F : LF) (ps fr : List Str) (sp : List (Option V) → Sp) : Prop where
  len : ∀ ws vs H Q E, sp ws vs H Q E → vs.length = ps.length
  run : ∀ (A : Around) (outer : List Env) (s : Shared) (H : Hp) (us : List Value) (vs : List V) (ws : List (Option V)) (Q : VK) (E : XK), Room k A → Env0 P w K mg base A outer s H → H f = some (LamO f F) → H F.c = some (CodeO F.c F.qual) →
    CellsAt F.cl fr ws s.heap H → Vals vs us → sp ws vs H Q E → codeAny (model P w) A (.call (.ref f) ⟨us, []⟩) (CR CX outer P w H s Q E) s
section
variable {CX : CXT} {P : Program} {w : World} {K : PySem.W.Frag} {mg : Str → Option Value} {base : Heap} {N ps fr : List Str} {F : LF} {f : Addr} {k j : Nat} {sp sp' : List (Option V) → Sp}
/-- a lambda by its body -/
theorem lok_of (S : NScope N ps fr F.scope) (hb : ∀ (pm ctv : Value) (us : List Value), us.length = ps.length → bindArgs (F.fd pm ctv) ⟨us, []⟩ = pure (ps.zip us)) (len : ∀ ws vs H Q E, sp ws vs H Q E → vs.length = ps.length)
    (hbody : ∀ (A : Around) (outer : List Env) (s : Shared) (H : Hp) (vs : List V) (ws : List (Option V)) (Q : VK) (E : XK), Room k (A.deeper (envF F.nf f s.heap.objs.size)) → ws.length = fr.length → sp ws vs H Q E →
      ∃ t, PE (ncx CX P w K mg base N F.nf f A outer s H E) F.body t ∧ t (startF N vs ws) H Q) :
    LOk P w K mg base CX (k + 1) f F ps fr sp := by
  refine ⟨len, fun A outer s H us vs ws Q E hr e0 hf hc C r hsp => ?_⟩
  have hl := len _ _ _ _ _ hsp
  have lim : s.heap.NoLimit := e0.mod.nolimit.keeps fun b o e => (e0.bs b o e).1
  obtain ⟨od, sl, pm, ctv, ho⟩ := lamO_at e0.hok hf
  refine PySem.W.kla_callFunE hr.depth ho rfl S.co S.gen rfl (codeO_at e0.hok hc) ?_
  rw [hb pm ctv us (by rw [← r.length]; exact hl)]
  refine wpAny_pure (wpAny_newFunctionEnv S.nocell (fun ⟨n, _⟩ hy => S.par n (List.of_mem_zip hy).1) (fun h₁ hns hsb => ⟨lim.fresh _ hsb, ?_⟩) S.kind)
  show codeAny _ _ (.expr F.body (envF F.nf f s.heap.objs.size)) _ _
  have kp : ∀ b o, s.heap.get? b = some o → h₁.get? b = some o := fun b o e => hsb.extBut b o (Nat.ne_of_lt (Heap.lt_size e)) (Heap.get?_push_of_some _ e)
  obtain ⟨t, ht, hq⟩ := hbody A outer s H vs ws Q E (hr.deeper _) C.len hsp
  have I : Inv (ncx CX P w K mg base N F.nf f A outer s H E) [] (startF N vs ws) H { s with heap := h₁, toks := s.toks + (ps.zip us).length } := inv_startN (F := F.nf) S hr.hd e0 hl r C hns kp
  refine PySem.W.kla_codeExpr (wpAny_mono (ht.run [] _ (startF N vs ws) H Q I hq) (fun v s' hs => ?_) fun e s' hs => hs)
  obtain ⟨v', H', J, rv, q⟩ := hs
  exact ⟨v', H', J.os, J.bare, J.base, J.hok, rv, q⟩
end
section
variable {X : Cx} {pins : List (Addr × Obj)} {σ : L2.St} {H : Hp} {s : Shared} {cl : List (Str × Addr)} {fr : List Str} {ws : List (Option V)}
/-- what the cells held when the running frame began they hold still -/
theorem cells_later (C : CellsAt cl fr ws X.s_0.heap X.H_0) (hx : X.ex = []) (I : Inv X pins σ H s) : CellsAt cl fr ws s.heap H := by
  have nx : ∀ c : Addr, c ∉ X.ex := fun c => by rw [hx]; simp
  have kp : ∀ y c, cl.lookup y = some c → ∀ v, X.s_0.heap.IsCell c v → s.heap.IsCell c v := fun y c e v ⟨o, ho, hd⟩ => by
    obtain ⟨sl, q⟩ := I.base.any ho (C.all y c e).1 (nx c)
    exact ⟨_, q, hd⟩
  refine ⟨C.len, fun y c e => ?_, C.inj, fun i y e => ?_⟩
  · obtain ⟨n, v, z⟩ := C.all y c e
    refine ⟨?_, v, kp y c e v z⟩
    obtain ⟨o, ho, _⟩ := z
    exact I.base.free c o ho n (nx c)
  · obtain ⟨c, hc, hv⟩ := C.has i y e
    refine ⟨c, hc, fun v ev => ?_⟩
    obtain ⟨u, r, z⟩ := hv v ev
    exact ⟨u, r, kp y c hc _ z⟩
theorem fnAt_lam {f : Addr} {F : LF} (I : Inv X pins σ H s) (e : H f = some (LamO f F)) : PySem.W.FnAt f s.heap := by
  obtain ⟨od, sl, pm, ctv, ho⟩ := lamO_at I.hok e
  exact ⟨_, od, _, sl, ho⟩
end
/-- x(..), x a name that holds the lambda F at f -/
def tCallL (f : Addr) (F : LF) (i : Nat) (ws : List (Option V)) (sp : List (Option V) → Sp) (E : XK) (t : TA) : TE := fun σ H Q => σ[i]? = some (some (.ref f)) ∧ H f = some (LamO f F) ∧
  t σ H fun vs H1 => H1 f = some (LamO f F) ∧ H1 F.c = some (CodeO F.c F.qual) ∧ sp ws vs H1 Q E
section
variable {X : Cx} {CX : CXT} {F : LF} {f : Addr} {ps fr : List Str} {i j k : Nat} {x : Str} {sp : List (Option V) → Sp} {ws : List (Option V)} {E : XK} {t : TA} {e : Expr} {es : List Expr} {p pos : Pos}
theorem pe_calll (Fn : LOk X.prog X.w X.K X.mg X.base CX k f F ps fr sp) (C : CellsAt F.cl fr ws X.s_0.heap X.H_0) (hex : X.ex = []) (hr : Room j X.A) (hk : k ≤ j) (hx : Passes CX X E) (hN : X.N[i]? = some x) (hv : Vis X.env.scope x) (ha : PA X (e :: es) t)
    (hd : (x == ("__debug__" : Str)) = false := by decide) (hcd : (x == ("__classdict__" : Str)) = false := by decide)
    (he : starEach (e :: es) X.env = (false, eval e X.env) :: starEach es X.env := by rfl) (hpl : (backTo pos (starEach es X.env)).any (·.1) = false := by rfl) :
    PE X (.Call (.Name x p) (e :: es) [] pos) (tCallL f F i ws sp E t) := by
  refine ⟨fun pins s σ H Q I h => ?_⟩
  obtain ⟨hs, hf, ht⟩ := h
  refine wpAny_Call_Name_kw (thn ((pe_var (pos := p) hN hv hd hcd).run pins s σ H (fun v H1 => v = .ref f ∧ H1 = H) I ⟨.ref f, hs, rfl, rfl⟩) fun u s1 ⟨v, H1, I1, r1, q1⟩ => ?_)
  obtain ⟨ev, eH⟩ := q1
  subst ev
  rw [eH] at I1
  obtain rfl : u = Value.ref f := r1
  refine PySem.W.callWith_F (first := []) (fnAt_lam I1 hf) (thn (ha.run pos pins s1 σ H _ I1 ht) fun us s2 ⟨vs, H2, I2, r, h1, h2, q⟩ => ⟨fnAt_lam I2 h1, ?_⟩) he hpl
  show wpAny _ _ (call (.ref f) us) _ _ _
  refine wpAny_call (codeAny_mono (Fn.run X.A X.stack s2 H2 us vs _ Q E (hr.mono hk) I2.env0 h1 h2 (cells_later C hex I2) r q) fun r s' hq => ?_)
  cases r with
  | error e => exact hx pins σ H2 s2 e s' I2 hq
  | ok fl =>
    cases fl with
    | ret u => exact I2.after hq
    | next => exact False.elim hq
    | brk => exact False.elim hq
    | cont => exact False.elim hq
end
end BF

/-! ### data at any depth, in a heap that grows -/
namespace BF
open PySem PySem.Spec PyProof.Rows L2
theorem at0 {x : V} {xs : List V} : atI (x :: xs) 0 = some x := by
  show atI (x :: xs) ((0 : Nat) : Int) = some x
  exact atI_nat rfl
mutual
theorem dpS {K : PySem.W.Frag} {H H' : Hp} (sm : Same H H') : ∀ {d : PyData} {v : V}, Dp K H v d → Dp K H' v d
  | .none, _, h => by cases h; exact .non
  | .bool b, _, h => by cases h; exact .bl b
  | .int i, _, h => by cases h; exact .int i
  | .str x, _, h => by cases h; exact .str x
  | .list ds, _, h => by
    cases h with
    | lst hs ha => exact .lst (sm.seq hs) (dpsS sm ha)
  | .tuple ds, _, h => by
    cases h with
    | tup hs ha => exact .tup (Same.tup sm hs) (dpsS sm ha)
theorem dpsS {K : PySem.W.Frag} {H H' : Hp} (sm : Same H H') : ∀ {ds : List PyData} {vs : List V}, DpAll K H vs ds → DpAll K H' vs ds
  | [], _, h => by cases h; exact .nil
  | d :: ds, _, h => by
    cases h with
    | cons h1 h2 => exact .cons (dpS sm h1) (dpsS sm h2)
end
/-- shaped, at most n deep -/
structure Shp (n : Nat) (d : PyData) : Prop where
  c : PyData.canLay0 d = true
  h : PyData.depth d ≤ n
theorem Shp.ok {n : Nat} {d : PyData} (s : Shp n d) (h : n ≤ 64) : SeqAt.shaped d = true := Bool.and_eq_true_iff.mpr ⟨s.c, decide_eq_true (Nat.le_trans s.h h)⟩
theorem shp_all {n : Nat} : ∀ {ds : List PyData}, (∀ d ∈ ds, Shp n d) → PyData.canLayAll0 ds = true ∧ PyData.depthAll ds ≤ n
  | [], _ => ⟨rfl, by simp [PyData.depthAll]⟩
  | d :: ds, h => by
    obtain ⟨a, b⟩ := shp_all (ds := ds) fun d hd => h d (List.mem_cons_of_mem _ hd)
    have c := h d (by simp)
    refine ⟨?_, ?_⟩
    · rw [PyData.canLayAll0, c.c, a]
      rfl
    · rw [PyData.depthAll]
      exact Nat.max_le.mpr ⟨c.h, b⟩
theorem shp_list {n : Nat} {ds : List PyData} (h : ∀ d ∈ ds, Shp n d) : Shp (n + 1) (.list ds) := by
  obtain ⟨a, b⟩ := shp_all h
  refine ⟨by rw [PyData.canLay0]; exact a, ?_⟩
  rw [PyData.depth]
  omega
theorem shp_tuple {n : Nat} {ds : List PyData} (h : ∀ d ∈ ds, Shp n d) : Shp (n + 1) (.tuple ds) := by
  obtain ⟨a, b⟩ := shp_all h
  refine ⟨by rw [PyData.canLay0]; exact a, ?_⟩
  rw [PyData.depth]
  omega
theorem shp_int (i : Int) : Shp 1 (.int i) := ⟨rfl, by simp [PyData.depth]⟩
theorem shp_bool (b : Bool) : Shp 1 (.bool b) := ⟨rfl, by simp [PyData.depth]⟩
theorem shp_ints (xs : List Int) : SeqAt.shaped (.list (xs.map .int)) = true := (shp_list (n := 1) fun d hd => by
  obtain ⟨i, _, rfl⟩ := List.mem_map.mp hd
  exact shp_int i).ok (by decide)
theorem ne_nil (xs : List Int) : (!PyData.eqv (.list (xs.map .int)) (.list [])) = !xs.isEmpty := by
  cases xs with
  | nil => rfl
  | cons x xs => rfl
theorem dp_ints {K : PySem.W.Frag} {H : Hp} : ∀ xs : List Int, DpAll K H (xs.map V.int) (xs.map PyData.int)
  | [] => .nil
  | x :: xs => .cons (.int x) (dp_ints xs)
end BF

/-! ### xs.count(y), flat items -/
namespace BF
open PySem PySem.Spec PyProof.Rows L2
theorem count_eqU {x : V} : ∀ {xs : List V} {us : List Value}, Vals xs us → xs.all flatV = true → us.countP (eqU x) = xs.countP fun y => eqV y x
  | _, _, .nil, _ => rfl
  | y :: xs, u :: us, .cons r t, f => by
    rw [List.all_cons, Bool.and_eq_true] at f
    rw [List.countP_cons, List.countP_cons, count_eqU t f.2, eqU_of r f.1]
def rCntV (K : PySem.W.Frag) : V → List V → Hp → VK → Prop := fun x xs H Q => ∃ (p : Addr) (ys : List V) (y : V), x = .ref p ∧ xs = [y] ∧ SqL K H p ys ∧ flatV y = true ∧ ys.all flatV = true ∧ Q (.int (ys.countP (fun z => eqV z y) : Nat)) H
theorem mt_count {X : Cx} : MtR X "list.count" (rCntV X.K) := by
  intro pins s σ H x xs v us Q I rx rxs h
  obtain ⟨p, ys, y, rfl, rfl, hs, fy, fa, q⟩ := h
  cases rx
  obtain ⟨u, rfl, ru⟩ := rxs.one
  obtain ⟨its, rv, ⟨⟨cls, dd, data, sl⟩, n, ho, hc, hdn, hd⟩, hlen⟩ := I.list hs
  simp only at hc hd
  subst hc hd
  refine call_meets PySem.F.slot_list_count ⟨_, ho, rfl⟩ PySem.F.entry_list_count (PySem.F.args_list_count_2 _ _) (SeqAt.list_countAt p its.toArray n dd sl u (eqU y)) ⟨ho, fun z hz => mem_eqAt ru fy rv fa z (by simpa using hz), ?_⟩
  have ec : its.toArray.toList.countP (eqU y) = ys.countP (fun z => eqV z y) := count_eqU rv fa
  refine ⟨.int (ys.countP (fun z => eqV z y) : Nat), H, I.tok _, ⟨s.toks, ?_⟩, q⟩
  rw [ec]
end BF

/-! ### enumerate(tuple) -/
namespace BF
open PySem PySem.Spec PyProof.Rows L2
open PySem.AutoSeq1 (wpAny_loadPart')
theorem enum_newT (l : Addr) (its : Array Value) (n : Nat) (dd : Option Addr) (sl : Array (Option Value)) :
    Meets (Builtin.«enumerate.__new__» ⟨[.type "enumerate", .ref l], []⟩) (fun _ R s => s.heap.get? l = some { cls := .type "tuple", dict := dd, data := .seq its n, slots := sl } ∧
      R (.ok (.ret (.ref (s.heap.push { cls := .type "tuple_iterator", data := .fields #[.ref l, .int 0 0] }).objs.size)))
        { s with heap := (s.heap.push { cls := .type "tuple_iterator", data := .fields #[.ref l, .int 0 0] }).push { cls := .type "enumerate", data := .fields #[.none, .bool false, .ref s.heap.objs.size, rawInt 0, .none, .none] } }) :=
  .of_wp fun prog w A R s h => by
    obtain ⟨hp, g, d, tk, os⟩ := s
    obtain ⟨hl, h⟩ := h
    have sub := sub_enumerate
    have tl : Heap.IsTuple (Shared.heap ⟨hp, g, d, tk, os⟩) l its := ⟨_, hl, rfl, n, rfl⟩
    wp_walk using wpAny_loadPart' hl
    refine wpAny_stack_any fun st => wpAny_pure ?_
    split
    · rename_i c _ _ _ _ _
      cases (c == Value.type "enumerate") <;> (wp_walk using wpAny_loadPart' hl, wpAny_pyIter_tuple tl; exact ⟨_, rfl, h⟩)
    · wp_walk using wpAny_loadPart' hl, wpAny_pyIter_tuple tl
      exact ⟨_, rfl, h⟩
theorem call_enumT {prog : Program} {w : World} {A : Around} {E : Value → Shared → Prop} {s : Shared} {l : Addr} {items : Array Value} {Q : Value → Shared → Prop} (hL : IsTup s.heap l items)
    (h : ∀ h', IsEnum h' (s.heap.objs.size + 1) s.heap.objs.size 0 .none → h'.IsTupleIter s.heap.objs.size l 0 → (∀ b o, s.heap.get? b = some o → h'.get? b = some o) → Q (.ref (s.heap.objs.size + 1)) { s with heap := h' }) :
    wpAny (model prog w) A (call (.type "enumerate") [.ref l]) Q E s := by
  obtain ⟨⟨c, dd, dt, sl⟩, hl, e1, n, e2⟩ := hL
  simp only at e1 e2
  subst e1 e2
  refine callType_new F.called_enumerate (by decide) (F.typeCall_enumerate_1 _) (F.newCall_enumerate_1 _) (fun obj => F.args_object_init_2 obj _) F.entry_enumerate_new (enum_newT l items n dd sl) ⟨hl, ?_⟩
  have hz : (s.heap.push { cls := .type "tuple_iterator", data := .fields #[.ref l, .int 0 0] }).objs.size = s.heap.objs.size + 1 := Heap.size_push ..
  show _ ∧ _
  rw [hz]
  have he : IsEnum ((s.heap.push { cls := .type "tuple_iterator", data := .fields #[.ref l, .int 0 0] }).push { cls := .type "enumerate", data := .fields #[.none, .bool false, .ref s.heap.objs.size, rawInt 0, .none, .none] }) (s.heap.objs.size + 1) s.heap.objs.size 0 .none := by
    have z := Heap.get?_push_size (s.heap.push { cls := .type "tuple_iterator", data := .fields #[.ref l, .int 0 0] }) (o := { cls := .type "enumerate", data := .fields #[.none, .bool false, .ref s.heap.objs.size, rawInt 0, .none, .none] }) rfl
    rw [hz] at z
    exact z
  exact ⟨⟨_, he, rfl⟩, h _ he ⟨_, Heap.get?_push_of_some _ (Heap.get?_push_size _ rfl), rfl, rfl⟩ fun b o x => Heap.get?_push_of_some _ (Heap.get?_push_of_some _ x)⟩
theorem enum_endT {prog : Program} {w : World} {A : Around} {E : Value → Shared → Prop} {s : Shared} {e it t : Addr} {j : Nat} {i : Int} {old : Value} {items : Array Value} {Q : Option Value → Shared → Prop} (hh : A.in1.handled = none) (he : IsEnum s.heap e it i old)
    (hit : s.heap.IsTupleIter it t j) (ht : s.heap.IsTuple t items) (hx : items[j]? = none) (hQ : ∀ h', Heap.ExtBut it s.heap h' → Q none { s with heap := h' }) : wpAny (model prog w) A (pyNext (.ref e)) Q E s := by
  have ty : s.TypeIs (.ref e) "enumerate" := ⟨_, he, rfl⟩
  unfold pyNext
  refine wpAny_bind (wpAny_attempt (wpAny_callSpecial?_slot (name := Str.ofString "__next__") ty F.slot_enumerate_next (wpAny_call_entry F.slot_enumerate_next ty F.entry_enumerate_next ?_ (F.args_enumerate_next_1 _))))
  show wpAny _ _ (field (.ref e) 2 >>= _) _ _ _
  refine wpAny_bind (wpAny_field he rfl (x := .ref it) rfl (wpAny_bind (wpAny_nextOf_tuple_end hh hit ht hx fun h' x he' ⟨o, ho, hc⟩ => ?_)))
  exact wpAny_bind (wpAny_isInstance (T := "StopIteration") (b := true) ⟨o, ho, hc⟩ isSubtype_stop (wpAny_pure (hQ _ he')))
/-- the tuple at a, each item in a new pair -/
def IteT (K : PySem.W.Frag) (a : Addr) : It :=
  ⟨fun i H => ∃ (xs : List V) (x : V), SqT K H a xs ∧ xs[i]? = some x, fun i H v H' => ∃ T x, v = .ref T ∧ H T = none ∧ H' = upd H T (.tup [.int (i : Nat), x]) ∧ ∀ xs, SqT K H a xs → xs[i]? = some x, fun i H => ∃ xs : List V, SqT K H a xs ∧ xs.length ≤ i⟩
theorem turn_enumT {P : Program} {w : World} {K : PySem.W.Frag} {elts : List Expr} {kk : Nat} {tpos : Pos} (a e it : Addr) :
    Turn P w K (.Tuple elts kk tpos) (IteT K a) [e, it] e (fun i h => (∃ old, IsEnum h e it ((i : Nat) : Int) old) ∧ h.IsTupleIter it a i ∧ e ≠ it ∧ a ≠ it ∧ e ≠ a) where
  mem := by simp
  obj := fun i h st b hb => by
    obtain ⟨⟨old, he⟩, ⟨o, ho, hc, hd⟩, _⟩ := st
    have z : b = e ∨ b = it := by simpa using hb
    rcases z with rfl | rfl
    · exact ⟨_, he, fun v q => nomatch q⟩
    · exact ⟨o, ho, fun v q => by rw [hd] at q; cases q⟩
  keep := fun i h h' st k => let ⟨⟨old, he⟩, hi, r⟩ := st; ⟨⟨old, k e (by simp) _ he⟩, hi.at fun o q => k it (by simp) o q, r⟩
  item := by
    intro X hP hw hK hc i pins s σ H E I hf st hg
    subst hP hw hK
    obtain ⟨⟨old, he⟩, hit, hne, hai, hea⟩ := st
    obtain ⟨xs, x, hq, hx⟩ := hg
    obtain ⟨its, rv, p, hz⟩ := I.tuple hq
    obtain ⟨u, hu, ru⟩ := rv.get hx
    have hel : e < s.heap.objs.size := Heap.lt_size he
    have hil : it < s.heap.objs.size := by obtain ⟨_, q, _⟩ := hit; exact Heap.lt_size q
    have hd : X.A.in1.handled = none := I.ok.hd hc
    have hlt : i < its.toArray.size := by
      have := (List.getElem?_eq_some_iff.mp hu).1
      simpa using this
    refine wpAny_pyNext_enum_itemD (Draws.tuple hd it a hai its.toArray) he ⟨hit, p⟩ hlt hne (by simp [hne, hea]) fun u' h' tk hu' ho hst hT hsz hk => ?_
    have eu : u' = u := by
      have hu2 : its[i]? = some u' := by simpa using hu'
      rw [hu] at hu2
      exact (Option.some.inj hu2).symm
    subst eu
    refine ⟨_, rfl, wpAny_letOwnedTupleGo_enum (s := { s with heap := h', toks := tk + 1 }) ho fun h'' he' sb => ?_⟩
    have hT2 : h''.get? s.heap.objs.size = some { cls := .type "tuple", data := .seq #[.int i tk, u'] } := (sb.2 _ (Nat.ne_of_gt hel)).trans hT
    have new : ObjOk X.prog X.w (upd H s.heap.objs.size (.tup [.int (i : Nat), x])) h'' s.heap.objs.size (.tup [.int (i : Nat), x]) := ⟨by show 2 ≤ sizeLine; decide, [.int i tk, u'], .cons ⟨_, rfl⟩ (.cons ru .nil), ⟨_, hT2, rfl, _, rfl⟩⟩
    have J : Inv X pins σ (upd H s.heap.objs.size (.tup [.int (i : Nat), x])) { s with heap := h'', toks := tk + 1 } := I.turnedNew (ch := [e, it]) (fun b ob hb q => (sb.2 b (fun z => hb (by simp [z]))).trans (hk b ob (fun z => hb (by simp [z])) (fun z => hb (by simp [z])) q)) hf (Nat.le_refl _) new
    refine ⟨.ref s.heap.objs.size, _, J, rfl, ⟨_, x, rfl, I.hok.fresh (Nat.le_refl _), rfl, fun ys hy => by rw [I.tuple_inj hy hq]; exact hx⟩, ⟨⟨u', ?_⟩, hst.1.at fun o q => (sb.2 it (Ne.symm hne)).trans q, hne, hai, hea⟩, fun b hb => ?_⟩
    · rw [show ((i + 1 : Nat) : Int) = (i : Int) + 1 by omega]
      exact he'
    · have hb' : b < s.heap.objs.size := by
        have z : b = e ∨ b = it := by simpa using hb
        rcases z with rfl | rfl
        · exact hel
        · exact hil
      rw [upd_ne (Nat.ne_of_lt hb')]
      exact (hf b hb).1
  done := by
    intro X hP hw hK hc i pins s σ H E I hf st hg
    subst hP hw hK
    obtain ⟨⟨old, he⟩, hit, hne, hai, hea⟩ := st
    obtain ⟨xs, hq, hx⟩ := hg
    obtain ⟨its, rv, p, hz⟩ := I.tuple hq
    obtain ⟨f0, f1, f2, f3, f4, f5⟩ := hf it (by simp)
    have hd : X.A.in1.handled = none := I.ok.hd hc
    have hl := rv.length
    exact enum_endT hd he hit p (by simp; omega) fun h' eb => ⟨rfl, I.turned (t' := s.toks) (fun b o hb q => eb b o hb q) f0 f1 f3 f4 f5⟩
  self := fun A i s Q E st h => let ⟨⟨_, he⟩, _⟩ := st; wpAny_pyIter_enum he h
def iEnumT (K : PySem.W.Frag) (ta : TA) : TI := fun σ H R => ta σ H fun vs H1 => ∃ a xs, vs = [.ref a] ∧ SqT K H1 a xs ∧ R (IteT K a) H1
theorem pi_enumT {X : Cx} {e : Expr} {ta : TA} {p pos tpos : Pos} {elts : List Expr} {kk : Nat} (hg : Gl X "enumerate") (hm : X.mg "enumerate" = none) (ha : PA X [e] ta) (hs : starEach [e] X.env = [(false, eval e X.env)] := by rfl) :
    PI X (.Tuple elts kk tpos) (.Call (.Name "enumerate" p) [e] [] pos) (iEnumT X.K ta) := by
  refine ⟨fun pins s σ H R I h => Call_ (ld_blt I hg hm boot_enumerate (PyProof.Rows.callWith_type1 (thn (ha.run pos pins s σ H _ I h) fun us s1 ⟨vs, H1, J, r1, q1⟩ => ?_) hs rfl))⟩
  obtain ⟨a, xs, ex, hq, q⟩ := q1
  subst ex
  cases r1 with
  | cons r rr =>
    cases rr
    cases r
    obtain ⟨its, rv, tp, hz⟩ := J.tuple hq
    have hal : a < s1.heap.objs.size := by
      obtain ⟨o, ho, _⟩ := tp
      exact Heap.lt_size ho
    refine call_enumT tp fun h' he hit hk => wpAny_pyIter_enum he ?_
    have J2 : Inv X pins σ H1 { s1 with heap := h' } := J.kept (t' := s1.toks) hk
    refine ⟨s1.heap.objs.size + 1, [s1.heap.objs.size + 1, s1.heap.objs.size], _, _, H1, rfl, J2, turn_enumT a (s1.heap.objs.size + 1) s1.heap.objs.size, ⟨⟨.none, he⟩, hit, Nat.succ_ne_self _, Nat.ne_of_lt hal, Nat.ne_of_gt (Nat.lt_succ_of_lt hal)⟩, fun b hb => ?_, q⟩
    have z : b = s1.heap.objs.size + 1 ∨ b = s1.heap.objs.size := by simpa using hb
    have hle : s1.heap.objs.size ≤ b := by
      rcases z with rfl | rfl
      · exact Nat.le_succ _
      · exact Nat.le_refl _
    exact J.fpOk hle (J.hok.fresh hle)
/-- a comprehension over enumerate(tuple) -/
theorem lc_enumT {K : PySem.W.Frag} {a : Addr} {xs : List V} {g : TG} {tt : TT} {te : TE} {vs : List Nat} {σ : L2.St} {H1 : Hp} {D : Addr} {Qd : Hp → Prop} (Pv : Nat → Hp → Prop) (h0 : Pv 0 (upd H1 D (.lst []))) (hl : ∀ i H, i ≤ xs.length → Pv i H → SqT K H a xs)
    (hs : ∀ i x T H, xs[i]? = some x → Pv i H → H T = none → g (.ref T) (wipe σ vs) (upd H T (.tup [.int (i : Nat), x])) fun σ2 H2 => wipe σ2 vs = wipe σ vs ∧ tt σ2 H2 fun b H3 =>
      if b = true then te σ2 H3 fun y H4 => ∃ acc, H4 D = some (.lst acc) ∧ acc.length < sizeLine ∧ Pv (i + 1) (upd H4 D (.lst (acc ++ [y]))) else Pv (i + 1) H3) (hd : ∀ H, Pv xs.length H → Qd H) :
    ∃ W : Nat → Nat → Hp → Prop, (∃ m, W 0 m (upd H1 D (.lst []))) ∧ ∀ i m H, W i m H →
      ((IteT K a).stop i H ∧ Qd H) ∨ ((IteT K a).go i H ∧ ∃ Nx : Hp → Prop, (∀ H', Nx H' → ∃ m', m' < m ∧ W (i + 1) m' H') ∧ ∀ x H', (IteT K a).yld i H x H' → g x (wipe σ vs) H' fun σ2 H2 => wipe σ2 vs = wipe σ vs ∧ tt σ2 H2 fun b H3 =>
        if b = true then te σ2 H3 fun y H4 => ∃ acc, H4 D = some (.lst acc) ∧ acc.length < sizeLine ∧ Nx (upd H4 D (.lst (acc ++ [y]))) else Nx H3) := by
  refine ⟨fun i m H => m = xs.length - i ∧ i ≤ xs.length ∧ Pv i H, ⟨_, rfl, Nat.zero_le _, h0⟩, ?_⟩
  rintro i m H ⟨rfl, hi, p⟩
  have sq := hl i H hi p
  by_cases c : i < xs.length
  · refine .inr ⟨⟨xs, xs[i], sq, by simp [c]⟩, Pv (i + 1), fun H' p' => ⟨xs.length - (i + 1), by omega, rfl, c, p'⟩, fun x H' y => ?_⟩
    obtain ⟨T, z, rfl, hT, rfl, hx⟩ := y
    exact hs i z T H (hx xs sq) p hT
  · have e : i = xs.length := by omega
    subst e
    exact .inl ⟨⟨xs, sq, Nat.le_refl _⟩, hd H p⟩
end BF

/-! ### the answers' classes -/
namespace BF
open PySem PySem.Spec PyProof.Rows L2
inductive Cl where
  | answer | laid | striped | short | full | beyond | twice | bare
deriving DecidableEq
def Cl.nm : Cl → Str
  | .answer => "Answer"
  | .laid => "Laid"
  | .striped => "Striped"
  | .short => "Short"
  | .full => "Full"
  | .beyond => "Beyond"
  | .twice => "Twice"
  | .bare => "Bare"
/-- its field -/
def Cl.fld : Cl → Str
  | .beyond => "count"
  | .twice => "cell"
  | .bare => "cell"
  | _ => "which"
def Cl.has : List Cl := [.answer, .laid, .striped, .short, .full, .beyond, .twice, .bare]
abbrev cl (K : PySem.W.Frag) (x : Cl) : Addr := He.ga K x.nm
structure ClF (K : PySem.W.Frag) (x : Cl) : Prop where
  c : Cls K (cl K x)
  ha : PySem.W.findIn K (.ref (cl K x)) "__class__" = some (some (.builtin "object.__class__"))
  hn : PySem.W.specialIn K (.builtin "object.__class__") "__get__" = some (some (.builtin "getset_descriptor.__get__"))
  tk : PySem.W.takesIn K (.builtin "object.__class__") = some true
  mr : PySem.W.mroIn K (cl K x) (.type "object") = some true
  kp : PySem.W.keepIn K (.ref (cl K x)) = true
  made : PySem.W.makesIn K (cl K x) = true
  no : NoAttr K (cl K x) x.fld
  kit : ∀ y ∈ Cl.has, PySem.W.kitOne K (.ref (cl K x)) (.ref (cl K y)) = some (decide (y = x) || decide (y = .answer))
  tyk : ∀ T ∈ ["int", "bool", "tuple", "list"], PySem.W.kitOne K (.ref (cl K x)) (.type T) = some false
structure ClG (K : PySem.W.Frag) (mg : Str → Option Value) : Prop where
  g : ∀ x ∈ Cl.has, mg x.nm = some (.ref (cl K x))
  f : ∀ x ∈ Cl.has, ClF K x
def clB (K : PySem.W.Frag) (x : Cl) : Bool := (He.Fa.glo x.nm).ok K && ((He.Fa.cls x.nm).ok K && (decide (PySem.W.findIn K (.ref (cl K x)) "__class__" = some (some (.builtin "object.__class__"))) &&
  (decide (PySem.W.specialIn K (.builtin "object.__class__") "__get__" = some (some (.builtin "getset_descriptor.__get__"))) && (decide (PySem.W.takesIn K (.builtin "object.__class__") = some true) &&
  (decide (PySem.W.mroIn K (cl K x) (.type "object") = some true) && (PySem.W.keepIn K (.ref (cl K x)) && (PySem.W.makesIn K (cl K x) && ((He.Fa.noat x.nm x.fld).ok K &&
  ((Cl.has.all fun y => decide (PySem.W.kitOne K (.ref (cl K x)) (.ref (cl K y)) = some (decide (y = x) || decide (y = .answer)))) && (["int", "bool", "tuple", "list"].all fun T => decide (PySem.W.kitOne K (.ref (cl K x)) (.type T) = some false)))))))))))
theorem clB_ok {K : PySem.W.Frag} {h : Heap} {mg : Str → Option Value} (X : K.In h) (G : h.Ns mainGlobals mg) (c : (Cl.has.all (clB K)) = true) : ClG K mg := by
  have a := List.all_eq_true.mp c
  refine ⟨fun x hx => ?_, fun x hx => ?_⟩
  · have b := a x hx
    unfold clB at b
    exact He.glo_ok X G (He.ba b).1
  · have b := a x hx
    unfold clB at b
    obtain ⟨_, b⟩ := He.ba b
    obtain ⟨b1, b⟩ := He.ba b
    obtain ⟨b2, b⟩ := He.ba b
    obtain ⟨b3, b⟩ := He.ba b
    obtain ⟨b4, b⟩ := He.ba b
    obtain ⟨b5, b⟩ := He.ba b
    obtain ⟨b6, b⟩ := He.ba b
    obtain ⟨b7, b⟩ := He.ba b
    obtain ⟨b8, b⟩ := He.ba b
    obtain ⟨b9, b10⟩ := He.ba b
    exact ⟨He.cls_ok b1, of_decide_eq_true b2, of_decide_eq_true b3, of_decide_eq_true b4, of_decide_eq_true b5, b6, b7, He.noat_ok b8, fun y hy => of_decide_eq_true (List.all_eq_true.mp b9 y hy), fun T hT => of_decide_eq_true (List.all_eq_true.mp b10 T hT)⟩
/-- an answer: its class, its field -/
inductive Ans where
  | laid | full
  | striped (v : V) | short (v : V) | beyond (v : V) | twice (v : V) | bare (v : V)
def Ans.cl : Ans → Cl
  | .laid => .laid
  | .full => .full
  | .striped _ => .striped
  | .short _ => .short
  | .beyond _ => .beyond
  | .twice _ => .twice
  | .bare _ => .bare
def Ans.fs : Ans → List (Str × V)
  | .laid => []
  | .full => []
  | .striped v => [("which", v)]
  | .short v => [("which", v)]
  | .beyond v => [("count", v)]
  | .twice v => [("cell", v)]
  | .bare v => [("cell", v)]
def AnsAt (K : PySem.W.Frag) (H : Hp) (p : Addr) (a : Ans) : Prop := ∃ dx, H p = some (.ins (cl K a.cl) dx a.fs)
theorem AnsAt.mono {K : PySem.W.Frag} {H H' : Hp} {p : Addr} {a : Ans} (h : AnsAt K H p a) (sm : Same H H') : AnsAt K H' p a := let ⟨dx, e⟩ := h; ⟨dx, sm _ _ e⟩
theorem AnsAt.ty {K : PySem.W.Frag} {H : Hp} {p : Addr} {a : Ans} (h : AnsAt K H p a) (F : ClF K a.cl) : TyX K H (.ref p) (.ref (BF.cl K a.cl)) := let ⟨_, e⟩ := h; .base (.ins e F.c F.ha F.hn F.tk F.mr)
theorem mem_has (a : Ans) : a.cl ∈ Cl.has := by
  generalize a.cl = x
  cases x <;> decide
/-- isinstance(answer, Class) -/
theorem tyA {K : PySem.W.Frag} {mg : Str → Option Value} {H : Hp} {p : Addr} {a : Ans} (G : ClG K mg) (h : AnsAt K H p a) (ha : a.cl ∈ Cl.has := by exact mem_has _) : TyX K H (.ref p) (.ref (BF.cl K a.cl)) := h.ty (G.f _ ha)
theorem kitA {K : PySem.W.Frag} {mg : Str → Option Value} (G : ClG K mg) (a : Ans) (y : Cl) (ha : a.cl ∈ Cl.has := by exact mem_has _) (hy : y ∈ Cl.has := by decide) : PySem.W.kitOne K (.ref (BF.cl K a.cl)) (.ref (BF.cl K y)) = some (decide (y = a.cl) || decide (y = .answer)) := (G.f _ ha).kit y hy
/-- a method of a class -/
def PlM (K : PySem.W.Frag) (x : Cl) (m q : Str) (st : Stmt) : Prop := ∃ f fd, FnP K m q st f fd ∧ Meth K (cl K x) m f
def HasM (P : Program) (w : World) (K : PySem.W.Frag) (mg : Str → Option Value) (base : Heap) (C : CXT) (k : Nat) (x : Cl) (m : Str) (ps : List Str) (sp : Sp) : Prop :=
  ∃ f fd, FnOk P w K mg base C k f fd ps sp ∧ Meth K (cl K x) m f ∧ Binds K fd ps []
section
variable {P : Program} {w : World} {K : PySem.W.Frag} {mg : Str → Option Value} {base : Heap} {x : Cl} {m q : Str} {st : Stmt} {N ps : List Str} {k : Nat} {sp : Sp}
theorem PlM.mk0 (p : PlM K x m q st) (S : FnScope N ps (defScope st))
    (hb : ∀ (kV doc pm : Value) (an : Option Addr) (cdv ct : Value) (us : List Value), us.length = ps.length → bindArgs (PySem.W.fnOf m q (defArgs st) (defBody st) (defScope st) .none kV doc pm an cdv ct) ⟨us, []⟩ = pure (ps.zip us))
    (len : ∀ vs H Q E, sp vs H Q E → vs.length = ps.length)
    (body : ∀ (f : Addr) (cdv : Value) (A : Around) (outer : List Env) (s : Shared) (H : Hp) (vs : List V) (Q : VK) (E : XK), Room k (A.deeper (envOfC q (defScope st) s.heap.objs.size f cdv)) → sp vs H Q E →
      ∃ t, PSs (cxOf CX0 P w K mg base N q (defScope st) f cdv A outer s H E).nox (defBody st) t ∧ t { nx := fun _ H' => Q .non H', rt := Q } (start N vs) H) : HasM P w K mg base CX0 (k + 1) x m ps sp := by
  obtain ⟨f, fd, F, g⟩ := p
  exact ⟨f, fd, F.ok S len (fun cdv A outer s H vs Q E hr h => by
    obtain ⟨t, a, b⟩ := body f cdv A outer s H vs Q E hr h
    exact ⟨t, a.nox, b⟩), g, F.bindsN hb⟩
end
section
variable {X : Cx} {CX : CXT} {k : Nat} {C : Addr} {ps : List Str} {E : XK} {m : Str} {pos apos : Pos} {e o : Expr} {es : List Expr} {ta : TE} {t : TA} {x : Cl}
theorem pe_any {ι : Type} {e : Expr} {Ok : ι → Prop} {t : ι → TE} (h : ∀ i, Ok i → PE X e (t i)) : PE X e (fun σ H Q => ∃ i, Ok i ∧ t i σ H Q) := ⟨fun pins s σ H Q I ⟨i, hi, q⟩ => (h i hi).run pins s σ H Q I q⟩
/-- o.m(..), o an answer of one of several classes -/
def tMethA (K : PySem.W.Frag) (Ok : Cl → Prop) (m : Str) (sp : Cl → Sp) (E : XK) (ta : TE) (t : TA) : TE := fun σ H Q => ∃ x, Ok x ∧ tMeth (cl K x) m (sp x) [] E ta t σ H Q
theorem pe_methA {pl : Sem Bool} {Ok : Cl → Prop} {sp : Cl → Sp} (h : ∀ x, Ok x → HasM X.prog X.w X.K X.mg X.base CX k x m ps (sp x)) (c : ∀ x, Ok x → Cls X.K (cl X.K x)) (hr : Room k X.A) (hx : Passes CX X E) (he : PE X o ta) (ha : PA X (e :: es) t)
    (hst : starEach (e :: es) X.env = (false, eval e X.env) :: starEach es X.env := by rfl) (hpl : (backTo pos (starEach es X.env)).any (·.1) = false := by rfl)
    (ht : eval (.Call (.Attribute o m apos) (e :: es) [] pos) X.env = (do
      let ov ← eval o X.env
      standAt apos.atName
      let (f, first) ← holding [ov] (getMethod ov m pl)
      callWith pos f first (backTo pos (starEach (e :: es) X.env)) (backToKw pos (keywordEach [] X.env))) := by rfl) :
    PE X (.Call (.Attribute o m apos) (e :: es) [] pos) (tMethA X.K Ok m sp E ta t) :=
  pe_any (Ok := Ok) (t := fun x => tMeth (cl X.K x) m (sp x) [] E ta t) fun x hx' => by
    obtain ⟨f, fd, F, M, b⟩ := h x hx'
    exact pe_meth (pl := pl) he (c x hx') M F hr b .nil hx ha hst hpl ht
/-- __init__(self, v): self.f = v -/
inductive SpInit (K : PySem.W.Frag) (x : Cl) : Sp where
  | mk {p dx : Addr} {v : V} {H : Hp} {Q : VK} {E : XK} (h : H p = some (.ins (cl K x) dx [])) (q : Q .non (upd H p (.ins (cl K x) dx [(x.fld, v)]))) : SpInit K x [.ref p, v] H Q E
def Cl.of : Cl → V → Ans
  | .striped, v => .striped v
  | .short, v => .short v
  | .beyond, v => .beyond v
  | .twice, v => .twice v
  | .bare, v => .bare v
  | .full, _ => .full
  | _, _ => .laid
def Cl.has1 : Cl → Prop
  | .striped => True
  | .short => True
  | .beyond => True
  | .twice => True
  | .bare => True
  | _ => False
theorem Cl.of_cl {x : Cl} (h : x.has1) (v : V) : (x.of v).cl = x ∧ (x.of v).fs = [(x.fld, v)] := by
  cases x <;> first | exact ⟨rfl, rfl⟩ | exact h.elim
/-- Class(e) -/
def tMk1 (K : PySem.W.Frag) (x : Cl) (t : TA) : TE := fun σ H Q => t σ H fun vs H1 => ∃ v, vs = [v] ∧ ∀ p H2, H1 p = none → Same H1 H2 → AnsAt K H2 p (x.of v) → Q (.ref p) H2
theorem pe_mk1 (M : Mk X.K (cl X.K x) (He.ma X.K (cl X.K x) "__init__")) (h : HasM X.prog X.w X.K X.mg X.base CX0 k x "__init__" ps (SpInit X.K x)) (h1 : x.has1) (hr : Room (k + 1) X.A) {y : Str} {p : Pos} (hm : X.mg y = some (.ref (cl X.K x))) (ha : PA X (e :: es) t)
    (hg : Gl X y := by rfl) (hdb : (y == ("__debug__" : Str)) = false := by decide) (he : starEach (e :: es) X.env = (false, eval e X.env) :: starEach es X.env := by rfl) (hpl : (backTo pos (starEach es X.env)).any (·.1) = false := by rfl) :
    PE X (.Call (.Name y p) (e :: es) [] pos) (tMk1 X.K x t) := by
  obtain ⟨f, fd, F, m, b⟩ := h
  refine ⟨fun pins s σ H Q I hh => wpAny_Call_Name_kw (ld_glob I hg hm ?_ hdb)⟩
  refine PySem.W.callWith_K (h₀ := X.base) I.ok.mod.kin M.kp (thn (ha.run pos pins s σ H _ I hh) fun us s1 ⟨vs, H1, J, r, v, ev, z⟩ => ⟨J.kIn, ?_⟩) he hpl
  subst ev
  have M2 : Mk X.K (cl X.K x) f := ⟨M.makes, m.at_, m.fn, M.kp⟩
  refine run_make (dvs := []) (E := E0) M2 F hr b .nil pass0 J r fun q dx nq nd ne => .mk (dx := dx) upd_same ⟨rfl, z q _ nq (fun b o eb => ?_) ?_⟩
  · have b1 := ne_of_none eb nq
    have b2 := ne_of_none eb nd
    rw [upd_ne b1, upd_ne b1, upd_ne b2]
    exact eb
  · refine ⟨dx, ?_⟩
    rw [(Cl.of_cl h1 v).1, (Cl.of_cl h1 v).2]
    exact upd_same
/-- Class(), without an __init__ -/
def tMk0 (K : PySem.W.Frag) (x : Cl) : TE := fun σ H Q => ∀ p H2, H p = none → Same H H2 → (∃ dx, H2 p = some (.ins (cl K x) dx [])) → Q (.ref p) H2
theorem run_plain {pins : List (Addr × Obj)} {σ : L2.St} {H : Hp} {s : Shared} {Q : VK} (hm : PySem.W.makesIn X.K C = true) (hi : PySem.W.findIn X.K (.ref C) "__init__" = some (some (.builtin "object.__init__"))) (I : Inv X pins σ H s)
    (h : ∀ x dx, H x = none → H dx = none → dx ≠ x → Q (.ref x) (upd (upd H dx (.own x)) x (.ins C dx []))) : wpAny (model X.prog X.w) X.A (call (.ref C) []) (EP X pins σ Q) X.xe s := by
  have J := Inv.made (C := C) I
  have z := h (s.heap.objs.size + 1) s.heap.objs.size (I.hok.fresh (Nat.le_succ _)) (I.hok.fresh (Nat.le_refl _)) (Nat.ne_of_lt (Nat.lt_succ_self _))
  have Y := PySem.W.makes_of (M := model X.prog X.w) I.kIn hm
  refine wpAny_call (make_map0 (K := X.K) I.kIn hm hi (fun self => PySem.W.Looks.of_pure (PySem.W.oi_bind self)) ?_)
  have e2 : ((s.heap.push PySem.W.emptyDict).push (PySem.W.instObj C s.heap.objs.size)).get? (s.heap.objs.size + 1) = some (PySem.W.instObj C s.heap.objs.size) := by
    have := Heap.get?_push_size (s.heap.push PySem.W.emptyDict) (o := PySem.W.instObj C s.heap.objs.size) rfl
    rwa [Heap.size_push] at this
  have u1 : PySem.W.Looks (model X.prog X.w) ((s.heap.push PySem.W.emptyDict).push (PySem.W.instObj C s.heap.objs.size)) (typeOf (.ref (s.heap.objs.size + 1))) (.ref C) := (PySem.W.Looks.ld e2).andThen .now
  have u2 : PySem.W.Looks (model X.prog X.w) ((s.heap.push PySem.W.emptyDict).push (PySem.W.instObj C s.heap.objs.size)) (isInstance (.ref (s.heap.objs.size + 1)) (.type "object")) true :=
    u1.andThen (Y.top.keeps fun b o e => Heap.get?_push_of_some _ (Heap.get?_push_of_some _ e))
  refine codeAny_call_builtin PySem.W.oi_plain PySem.W.entry_oi (@PySem.W.check_slot (model X.prog X.w) _ _ _ "object.__init__" "object" "__init__" (.ref (s.heap.objs.size + 1)) [] [] _ PySem.W.oi_kind PySem.W.oi_split u2 (PySem.W.oi_args (.ref (s.heap.objs.size + 1))) ?_)
  rw [PySem.W.oi_run]
  exact wpAny_pure (And.intro rfl ⟨.ref (s.heap.objs.size + 1), _, J, rfl, z⟩)
theorem pe_mk0 (F : ClF X.K x) (hi : PySem.W.findIn X.K (.ref (cl X.K x)) "__init__" = some (some (.builtin "object.__init__"))) {y : Str} {p : Pos} (hm : X.mg y = some (.ref (cl X.K x))) (hg : Gl X y := by rfl) (hdb : (y == ("__debug__" : Str)) = false := by decide) :
    PE X (.Call (.Name y p) [] [] pos) (tMk0 X.K x) := by
  refine ⟨fun pins s σ H Q I h => wpAny_Call_Name_kw (ld_glob I hg hm ?_ hdb)⟩
  refine PySem.W.callWith_K0 I.kIn F.kp (run_plain F.made hi I fun q dx nq nd ne => h q _ nq (fun b o eb => ?_) ⟨dx, upd_same⟩)
  have b1 := ne_of_none eb nq
  have b2 := ne_of_none eb nd
  rw [upd_ne b1, upd_ne b2]
  exact eb
end
structure ClI (P : Program) (w : World) (K : PySem.W.Frag) (mg : Str → Option Value) (base : Heap) : Prop where
  mk1 : ∀ x ∈ Cl.has, x.has1 → Mk K (cl K x) (He.ma K (cl K x) "__init__")
  in1 : ∀ x ∈ Cl.has, x.has1 → HasM P w K mg base CX0 1 x "__init__" ["self", x.fld] (SpInit K x)
  in0 : ∀ x ∈ Cl.has, (x = .laid ∨ x = .full) → PySem.W.findIn K (.ref (cl K x)) "__init__" = some (some (.builtin "object.__init__"))
section
variable {X : Cx} {pos : Pos} {e : Expr} {es : List Expr} {t : TA} {x : Cl}
theorem pe_mkI (CI : ClI X.prog X.w X.K X.mg X.base) (G : ClG X.K X.mg) (hx : x ∈ Cl.has) (h1 : x.has1) (hr : Room 2 X.A) {y : Str} {p : Pos} (ha : PA X (e :: es) t) (hy : y = x.nm := by rfl) (hg : Gl X y := by rfl) (hdb : (y == ("__debug__" : Str)) = false := by decide)
    (he : starEach (e :: es) X.env = (false, eval e X.env) :: starEach es X.env := by rfl) (hpl : (backTo pos (starEach es X.env)).any (·.1) = false := by rfl) : PE X (.Call (.Name y p) (e :: es) [] pos) (tMk1 X.K x t) :=
  pe_mk1 (CI.mk1 x hx h1) (CI.in1 x hx h1) h1 hr (by rw [hy]; exact G.g x hx) ha hg hdb he hpl
theorem pe_mkN (CI : ClI X.prog X.w X.K X.mg X.base) (G : ClG X.K X.mg) (hx : x ∈ Cl.has) (h0 : x = .laid ∨ x = .full) {y : Str} {p : Pos} (hy : y = x.nm := by rfl) (hg : Gl X y := by rfl) (hdb : (y == ("__debug__" : Str)) = false := by decide) :
    PE X (.Call (.Name y p) [] [] pos) (tMk0 X.K x) := pe_mk0 (G.f x hx) (CI.in0 x hx h0) (by rw [hy]; exact G.g x hx) hg hdb
end
theorem HasM.mono {P : Program} {w : World} {K : PySem.W.Frag} {mg : Str → Option Value} {base : Heap} {C : CXT} {j k : Nat} {x : Cl} {m : Str} {ps : List Str} {sp : Sp} (h : HasM P w K mg base C j x m ps sp) (l : j ≤ k) : HasM P w K mg base C k x m ps sp :=
  let ⟨f, fd, F, r⟩ := h; ⟨f, fd, F.mono l, r⟩
def Ok4 (x : Cl) : Prop := x ∈ [Cl.laid, .striped, .short]
def Ok5 (x : Cl) : Prop := x ∈ [Cl.full, .beyond, .twice, .bare]
theorem ok4 {x : Cl} (h : Ok4 x) : x ∈ Cl.has := by
  unfold Ok4 at h
  cases x <;> first | decide | exact absurd h (by decide)
theorem ok5 {x : Cl} (h : Ok5 x) : x ∈ Cl.has := by
  unfold Ok5 at h
  cases x <;> first | decide | exact absurd h (by decide)
end BF

/-! ### the error classes, raising, what an except suite asks -/
namespace BF
open PySem PySem.Spec PyProof.Rows L2
inductive Er where
  | floor | size | cell | colour | bricks | barred | great
deriving DecidableEq
def Er.nm : Er → Str
  | .floor => "FloorError"
  | .size => "BadSize"
  | .cell => "BadCell"
  | .colour => "BadColour"
  | .bricks => "BadBricks"
  | .barred => "Barred"
  | .great => "TooGreat"
def Er.has : List Er := [.floor, .size, .cell, .colour, .bricks, .barred, .great]
theorem mem_er (e : Er) : e ∈ Er.has := by cases e <;> decide
abbrev er (K : PySem.W.Frag) (x : Er) : Addr := He.ga K x.nm
abbrev veB : List Value := [.type "ValueError", .type "Exception", .type "BaseException", .type "object"]
structure ErF (K : PySem.W.Frag) (e : Er) : Prop where
  x : PySem.W.excIn K (er K e) veB "ValueError.__new__" = true
  kp : PySem.W.keepIn K (.ref (er K e)) = true
  b : PySem.W.subIn K (.ref (er K e)) (.type "BaseException") = some true
  t : PySem.W.typeIn K (.ref (er K e)) = some (.type "type")
  ex : PySem.W.exmOne K (.ref (er K e)) (.ref (er K .floor)) = some true
  C : ExcC K (er K e)
  kit : ∀ y ∈ Er.has, PySem.W.kitOne K (.ref (er K e)) (.ref (er K y)) = some (decide (y = e) || decide (y = .floor))
  kitV : PySem.W.kitOne K (.ref (er K e)) (.type "ValueError") = some true
structure ErG (K : PySem.W.Frag) (mg : Str → Option Value) : Prop where
  g : ∀ x : Er, mg x.nm = some (.ref (er K x))
  f : ∀ x : Er, ErF K x
def erB (K : PySem.W.Frag) (e : Er) : Bool := (He.Fa.glo e.nm).ok K && (PySem.W.excIn K (er K e) veB "ValueError.__new__" && (PySem.W.keepIn K (.ref (er K e)) && (decide (PySem.W.subIn K (.ref (er K e)) (.type "BaseException") = some true) &&
  (decide (PySem.W.typeIn K (.ref (er K e)) = some (.type "type")) && (decide (PySem.W.exmOne K (.ref (er K e)) (.ref (er K .floor)) = some true) &&
  (decide (PySem.W.findIn K (.ref (er K e)) "__getattribute__" = some (some (.builtin "BaseException.__getattribute__"))) && (decide (PySem.W.findIn K (.ref (er K e)) "__getattr__" = some none) && (PySem.W.hasDictIn K (er K e) &&
  (decide (PySem.W.findIn K (.ref (er K e)) "__class__" = some (some (.builtin "object.__class__"))) && (decide (PySem.W.specialIn K (.builtin "object.__class__") "__get__" = some (some (.builtin "getset_descriptor.__get__"))) &&
  (decide (PySem.W.takesIn K (.builtin "object.__class__") = some true) && (decide (PySem.W.mroIn K (er K e) (.type "object") = some true) &&
  ((Er.has.all fun y => decide (PySem.W.kitOne K (.ref (er K e)) (.ref (er K y)) = some (decide (y = e) || decide (y = .floor)))) && decide (PySem.W.kitOne K (.ref (er K e)) (.type "ValueError") = some true))))))))))))))
def ersB (K : PySem.W.Frag) : Bool := Er.has.all (erB K)
theorem ersB_ok {K : PySem.W.Frag} {h : Heap} {mg : Str → Option Value} (X : K.In h) (G : h.Ns mainGlobals mg) (c : ersB K = true) : ErG K mg := by
  have a := List.all_eq_true.mp c
  refine ⟨fun x => ?_, fun x => ?_⟩
  · have b := a x (mem_er x)
    unfold erB at b
    exact He.glo_ok X G (He.ba b).1
  · have b := a x (mem_er x)
    unfold erB at b
    obtain ⟨_, b⟩ := He.ba b
    obtain ⟨b1, b⟩ := He.ba b
    obtain ⟨b2, b⟩ := He.ba b
    obtain ⟨b3, b⟩ := He.ba b
    obtain ⟨b4, b⟩ := He.ba b
    obtain ⟨b5, b⟩ := He.ba b
    obtain ⟨b6, b⟩ := He.ba b
    obtain ⟨b7, b⟩ := He.ba b
    obtain ⟨b8, b⟩ := He.ba b
    obtain ⟨b9, b⟩ := He.ba b
    obtain ⟨b10, b⟩ := He.ba b
    obtain ⟨b11, b⟩ := He.ba b
    obtain ⟨b12, b⟩ := He.ba b
    obtain ⟨b13, b14⟩ := He.ba b
    have s := of_decide_eq_true b3
    exact ⟨b1, b2, s, of_decide_eq_true b4, of_decide_eq_true b5, ⟨of_decide_eq_true b6, of_decide_eq_true b7, s, b8, of_decide_eq_true b9, of_decide_eq_true b10, of_decide_eq_true b11, of_decide_eq_true b12⟩, fun y hy => of_decide_eq_true (List.all_eq_true.mp b13 y hy), of_decide_eq_true b14⟩
abbrev CXN (P : Program) (w : World) : CXT := L2N.CX P w
section
variable {X : Cx} {e : Er} {x m : Str} {j : Nat} {p p2 pos : Pos}
/-- Error("..") -/
theorem pmk_err (G : ErG X.K X.mg) (hx : x = e.nm) (hg : Gl X x := by rfl) (hdb : (x == ("__debug__" : Str)) = false := by decide) : L2N.PMk X (.Call (.Name x p) [.Constant (.str m) j p2] [] pos) (fun _ H Q => Q (.ref (er X.K e)) none H) :=
  L2N.pmk_own PySem.F.excBase_ValueError (G.f e).x (by rw [hx]; exact G.g e) (G.f e).kp (raises_own (G.f e).b (G.f e).t) hg hdb
end
section
variable {X : Cx} {k : Nat} {ps : List Str} {sp : Sp} {E : L2.St → XK} {x : Str} {p pos : Pos} {e : Expr} {es : List Expr} {t : TA} {C : CXT}
/-- a call whose errors are caught here -/
theorem pe_fnS (h : Has X.prog X.w X.K X.mg X.base C k x ps sp) (hr : Room k X.A) (hx : ∀ σ, PassesAt C X σ (E σ)) (ha : PA X (e :: es) t) (hg : Gl X x := by rfl) (hdb : (x == ("__debug__" : Str)) = false := by decide)
    (he : starEach (e :: es) X.env = (false, eval e X.env) :: starEach es X.env := by rfl) (hpl : (backTo pos (starEach es X.env)).any (·.1) = false := by rfl) : PE X (.Call (.Name x p) (e :: es) [] pos) (tCallS sp E t) := by
  obtain ⟨f, fd, F, hm, hk, hb, _⟩ := h
  exact pe_callS F hr hg hm hk hb hx ha hdb he hpl
theorem pss_any {ι : Type} {ss : List Stmt} {Ok : ι → Prop} {t : ι → TS} (h : ∀ i, Ok i → PSs X ss (t i)) : PSs X ss (fun D σ H => ∃ i, Ok i ∧ t i D σ H) := ⟨fun pins s σ H D I ⟨i, hi, q⟩ => (h i hi).run pins s σ H D I q⟩
end
theorem takes0N {X : Cx} : L2N.Takes X (fun _ _ _ _ => False) := fun _ _ x => by
  obtain ⟨_, _, _, _, _, _, _, _, _, _, _, _, _, _, _, _, z⟩ := x
  exact z.elim
/-- try: body, except C as n: suite -/
def tTryN (K : PySem.W.Frag) (c : Value) (i : Nat) (ts : Addr → Value → Option Addr → TS) (Wout : WX) (tb : WX → TS) : TS := fun D σ H => tb (wAs K c i ts Wout D) D σ H
theorem ps_tryN {X : Cx} {x n : Str} {c : Value} {i : Nat} {body suite : List Stmt} {b₀ : Stmt} {np pos pos' : Pos} {tb : WX → TS} {ts : Addr → Value → Option Addr → TS} {Wout : WX} (hs : X.stack = X.env :: X.outer) (hf : X.env.frame = some X.env.locals) (hN : X.N.Nodup) (hi : X.N[i]? = some n) (hln : X.env.kindOf n = some .local) (hc : Names X x c) (tk : L2N.Takes X Wout)
    (hb : ∀ (W : WX) (pn : List (Addr × Obj)) (xe : Value → Shared → Prop), L2N.Takes (X.tr pn xe) W → PassesOwn (model X.prog X.w) X.A X.env xe → PSs (X.tr pn xe) body (tb W))
    (hsu : ∀ (a : Addr) (oe : Obj) (cls : Value) (d : Option Addr) (pn : List (Addr × Obj)), L2N.Zn cls d oe → (∃ vs, oe.data = .fields vs) → PSs (X.suite a ((a, oe) :: pn)) (b₀ :: suite) (ts a cls d)) :
    PS X (.Try body [.ExceptHandler (some (.Name x np)) (some n) (b₀ :: suite) pos'] [] [] pos) (tTryN X.K c i ts Wout tb) := L2N.ps_try_as hs hf hN hi hln hc tk hb hsu
/-- the error of a suite is of the class e -/
def IsEr (K : PySem.W.Frag) (cls : Value) (d : Option Addr) (e : Er) : Prop := cls = .ref (er K e) ∧ d = none
section
variable {X : Cx} {a : Addr} {oe : Obj} {cls : Value} {d : Option Addr} {pn : List (Addr × Obj)} {e : Er}
/-- isinstance(error, Class) -/
def rIsX (K : PySem.W.Frag) (e : Er) (a : Addr) : List V → Hp → VK → Prop := fun xs H Q => ∃ y : Er, xs = [.ref a, .ref (er K y)] ∧ Q (.bl (decide (y = e) || decide (y = .floor))) H
theorem call_isX {mg : Str → Option Value} (G : ErG X.K mg) (hi : IsEr X.K cls d e) (hz : L2N.Zn cls d oe) (hf : ∃ vs, oe.data = .fields vs) : CallR (X.suite a ((a, oe) :: pn)) (.builtin "isinstance") (rIsX X.K e a) := by
  obtain ⟨rfl, rfl⟩ := hi
  intro pins s σ H xs us Q I r h
  obtain ⟨y, rfl, q⟩ := h
  exact call_isE (G.f e).C hz.zc hf pins s σ H _ us Q I r ⟨.ref (er X.K y), .ref (er X.K y), _, rfl, fun u hu => hu, (G.f e).kit y (mem_er y), q⟩
/-- isinstance(error, ValueError) -/
def rIsV (a : Addr) : List V → Hp → VK → Prop := fun xs H Q => xs = [.ref a, .ty "ValueError"] ∧ Q (.bl true) H
theorem call_isV {mg : Str → Option Value} (G : ErG X.K mg) (hi : IsEr X.K cls d e) (hz : L2N.Zn cls d oe) (hf : ∃ vs, oe.data = .fields vs) : CallR (X.suite a ((a, oe) :: pn)) (.builtin "isinstance") (rIsV a) := by
  obtain ⟨rfl, rfl⟩ := hi
  intro pins s σ H xs us Q I r h
  obtain ⟨rfl, q⟩ := h
  exact call_isE (G.f e).C hz.zc hf pins s σ H _ us Q I r ⟨.ty "ValueError", .type "ValueError", _, rfl, fun u hu => hu, (G.f e).kitV, q⟩
/-- isinstance(error, (Class, Class)) -/
def rIsX2 (K : PySem.W.Frag) (e : Er) (a : Addr) : List V → Hp → VK → Prop := fun xs H Q => ∃ (y z : Er) (t : Addr), xs = [.ref a, .ref t] ∧ H t = some (.tup [.ref (er K y), .ref (er K z)]) ∧ Q (.bl ((decide (y = e) || decide (y = .floor)) || (decide (z = e) || decide (z = .floor)))) H
theorem call_isX2 {mg : Str → Option Value} (G : ErG X.K mg) (hi : IsEr X.K cls d e) (hz : L2N.Zn cls d oe) (hf : ∃ vs, oe.data = .fields vs) : CallR (X.suite a ((a, oe) :: pn)) (.builtin "isinstance") (rIsX2 X.K e a) := by
  obtain ⟨rfl, rfl⟩ := hi
  intro pins s σ H xs us Q I r h
  obtain ⟨y, z, t, rfl, ht, q⟩ := h
  have C := (G.f e).C
  cases r with
  | cons rx rr =>
    cases rr with
    | cons rt rr =>
      cases rr
      cases rx
      cases rt
      obtain ⟨hget, _⟩ := I.pin (a, oe) (List.mem_append.mpr (.inl List.mem_cons_self))
      obtain ⟨vs, hv⟩ := hf
      have J : PySem.W.InstAt s.heap a oe (er X.K e) none := by
        obtain ⟨oc, od, oda, osl⟩ := oe
        obtain ⟨h1, h2, _⟩ := hz
        dsimp only at h1 h2 hv
        subst h1 h2 hv
        exact ⟨hget, rfl, rfl, trivial⟩
      obtain ⟨_, its, rv, o, ho, hc, n, hd⟩ := I.hok _ _ ht
      have ei : its = [Value.ref (er X.K y), Value.ref (er X.K z)] := by
        cases rv with
        | cons r1 r2 =>
          cases r2 with
          | cons r3 r4 =>
            cases r4
            cases r1
            cases r3
            rfl
      subst ei
      have k1 := (G.f e).kit y (mem_er y)
      have k2 := (G.f e).kit z (mem_er z)
      have ho' : s.heap.get? t = some ⟨.type "tuple", o.dict, .seq [Value.ref (er X.K y), Value.ref (er X.K z)].toArray n, o.slots⟩ := by
        rw [ho]
        obtain ⟨oc, od, oda, osl⟩ := o
        dsimp only at hc hd
        subst hc hd
        rfl
      refine PySem.W.kia_tup (b := ((decide (y = e) || decide (y = .floor)) || (decide (z = e) || decide (z = .floor)))) (PySem.W.handS_kitx_exc C.hg C.hk C.hs C.hd C.ha C.hn C.ht C.hm) I.kIn J ho' ?_ (fun z => nomatch z) fun tk => ⟨.bl _, H, I.kept (t' := tk) fun _ _ z => z, rfl, q⟩
      unfold PySem.W.kitAny
      rw [k1]
      cases (decide (y = e) || decide (y = Er.floor)) with
      | true => rfl
      | false =>
        unfold PySem.W.kitAny
        rw [k2]
        cases (decide (z = e) || decide (z = Er.floor)) with
        | true => rfl
        | false => rfl
end
section
variable {prog : Program} {w : World} {A : Around} {E : Value → Shared → Prop} {s : Shared}
theorem list_end_hot {it l x1 : Addr} {i : Nat} {items : Array Value} {Q : Option Value → Shared → Prop} (hot : HotX.HotAt A x1 s.heap) (hne : x1 ≠ it) (hit : s.heap.IsListIter it l i) (hl : s.heap.IsList l items) (hx : items[i]? = none)
    (hQ : ∀ h', Heap.ExtBut it s.heap h' → Q none { s with heap := h' }) : wpAny (model prog w) A (pyNext (.ref it)) Q E s := by
  obtain ⟨o, ho, hc, hd⟩ := id hit
  obtain ⟨ol, hol, _, nl, hdl⟩ := hl
  obtain ⟨hh, o1, vs1, h1, d1, c1⟩ := hot
  unfold pyNext
  refine wpAny_bind (wpAny_attempt (wpAny_callSpecial?_slot (name := Str.ofString "__next__") hit.typeIs slot_listiter_next
    (wpAny_call_entry slot_listiter_next hit.typeIs entry_listiter_next ?_ (args_listiter_next _))))
  show wpAny _ _ (field (.ref it) 0 >>= _) _ _ s
  refine wpAny_bind (wpAny_field ho hd (x := .ref l) rfl ?_)
  show wpAny _ _ (if (Value.ref l == Value.none) = true then _ else _) _ _ s
  rw [if_neg (show ¬ ((Value.ref l == Value.none) = true) from Bool.false_ne_true)]
  show wpAny _ _ (field (.ref it) 1 >>= _) _ _ s
  refine wpAny_bind (wpAny_field ho hd (x := .int i 0) rfl ?_)
  show wpAny _ _ (seqItems? (.ref l) >>= _) _ _ s
  refine wpAny_bind (wpAny_seqItems hol hdl ?_)
  simp only [Int.toNat_natCast, hx]
  refine wpAny_bind (wpAny_rule (wpAny_bind (wpAny_setField ho hd (by simp) ?_)))
  show wpAny _ _ (newExc (.type "StopIteration") [] >>= _) _ _ _
  refine wpAny_bind ?_
  simp only [newExc, newTuple]
  refine wpAny_bind (wpAny_newObj_type ?_ (by size_fits))
  refine wpAny_bind (m := firstArgMember _ _) (wpAny_of_eq (a := Value.none) (by first | rfl | (simp only [firstArgMember]; rfl)) ?_)
  refine wpAny_newObj_type ?_ (by size_fits)
  have e1 : (s.heap.update it (Obj.mapFields fun x => x.setIfInBounds 0 Value.none)).get? x1 = some o1 := by
    rw [Heap.get?_update_other _ _ hne.symm]
    exact h1
  refine HotX.raiseNew_hot ⟨hh, o1, vs1, Heap.get?_push_of_some _ (Heap.get?_push_of_some _ e1), d1, c1⟩ (Nat.ne_of_lt (Heap.lt_size (Heap.get?_push_of_some _ e1))) (Heap.get?_push_size _ rfl) rfl (by first | (simp; done) | (simp; omega) | (simp only [Array.size_append]; simp; omega)) ?_
  refine wpAny_bind (wpAny_isInstance (T := "StopIteration") (b := true) ⟨_, Heap.get?_update_self _ (Heap.get?_push_size _ rfl) rfl, rfl⟩ isSubtype_stop ?_)
  refine wpAny_pure (hQ _ fun b o hb e => ?_)
  have e2 : (s.heap.update it (Obj.mapFields fun x => x.setIfInBounds 0 Value.none)).get? b = some o := by
    rw [Heap.get?_update_other _ _ (Ne.symm hb)]
    exact e
  rw [Heap.get?_update_other _ _ (Nat.ne_of_gt (Heap.lt_size (Heap.get?_push_of_some _ e2)))]
  exact Heap.get?_push_of_some _ (Heap.get?_push_of_some _ e2)
theorem walks_hot {x1 : Addr} {o1 : Obj} {vs1 : Array Value} (hh : A.handled = some (.ref x1)) (d1 : o1.data = .fields vs1) (c1 : vs1[2]? = some .none) (I ax : Addr) (hne : ax ≠ I) (hx : x1 ≠ I) (items : Array Value) :
    Walks prog w A I [I, ax, x1] [I] items.size (fun i v => items[i]? = some v) (fun i h => (h.IsListIter I ax i ∧ h.IsList ax items) ∧ h.get? x1 = some o1) where
  sub := fun b hb => by simp at hb; simp [hb]
  frame := fun _ _ _ st hk => ⟨⟨st.1.1.at fun o e => hk I (by simp) o e, st.1.2.at fun o e => hk ax (by simp) o e⟩, hk x1 (by simp) _ st.2⟩
  item := fun i s Q E hi st hQ => by
    refine wpAny_pyNext_list_item st.1.1 st.1.2 (x := items[i]) (by simp [hi]) fun h' hit' hs' => ?_
    exact hQ _ h' s.toks (by simp [hi]) ⟨⟨hit', st.1.2.extBut hs'.extBut hne⟩, hs'.extBut _ _ hx st.2⟩ fun b o hb e => hs'.extBut b o (fun h => hb (by simp [h])) e
  done := fun s Q E st hQ => list_end_hot ⟨hh, o1, vs1, st.2, d1, c1⟩ hx st.1.1 st.1.2 (by simp) fun h' he' => hQ h' s.toks fun b o hb e => he' b o (fun h => hb (by simp [h])) e
  self := fun _ _ _ _ st hQ => wpAny_pyIter_listiter st.1.1 hQ
end
section
variable {X : Cx} {a : Addr} {oe : Obj} {cls : Value} {d : Option Addr} {pn : List (Addr × Obj)}
/-- any(list) in an except suite -/
theorem cr_anyH (hz : L2N.Zn cls d oe) (hf : ∃ vs, oe.data = .fields vs) : CallR (X.suite a ((a, oe) :: pn)) (.builtin "any") (rAny X.K) := by
  intro pins s σ H vs us Q I r h
  obtain ⟨l, bs, rfl, hs, q⟩ := h
  obtain ⟨its, rv, hl, _⟩ := I.list hs
  rw [Vals.ref1 r]
  have hb := rv.bls
  obtain ⟨hget, _⟩ := I.pin (a, oe) (List.mem_append.mpr (.inl List.mem_cons_self))
  obtain ⟨vs1, hv⟩ := hf
  refine call_any_walk (iter_any hl.isList fun s₂ e2 st hne => ?_)
  subst e2
  have hlt : a < s.heap.objs.size := Heap.lt_size hget
  refine ⟨_, _, _, _, _, _, _, rfl, walks_hot (A := (X.suite a ((a, oe) :: pn)).A.in1) (x1 := a) (o1 := oe) (vs1 := vs1) rfl hv (hz.2.2 vs1 hv) _ l hne (Nat.ne_of_lt hlt) its.toArray, ⟨st, Heap.get?_push_of_some _ hget⟩, truth_bools hb, fun h' tk hk => ?_⟩
  refine ⟨.bl _, H, I.kept fun b o eo => hk b o (fun hmem => ?_) (Heap.get?_push_of_some _ eo), ?_, q⟩
  · rcases List.mem_cons.mp hmem with e1 | hmem
    · exact absurd (e1 ▸ Heap.lt_size eo) (Nat.lt_irrefl _)
    · cases hmem
  · show Value.bool _ = Value.bool _
    rw [← L2.any_range, hb, List.size_toArray, List.length_map]
end
end BF

/-! short words for readings: walk_at "rd" takes all steps that are plain -/
local macro_rules | `(tactic| walk_at "bn") => `(tactic| first | with_reducible assumption | ((with_reducible show BF.Bn _ ((_ : Int) % _)); exact BF.Bn.mod (by walk_at "bn") (by walk_at "ps")) | ((with_reducible show BF.Bn _ ((_ : Int) / _)); exact BF.Bn.div (by walk_at "bn") (by walk_at "ps")) | ((with_reducible show BF.Bn _ ((_ : Int) * _)); exact BF.Bn.mul (by walk_at "bn") (by walk_at "bn")) | ((with_reducible show BF.Bn _ ((_ : Int) + _)); exact BF.Bn.add (by walk_at "bn") (by walk_at "bn")) | ((with_reducible show BF.Bn _ ((_ : Int) - _)); exact BF.Bn.sub (by walk_at "bn") (by walk_at "bn")) | exact BF.Ss.bn (by with_reducible assumption) | exact BF.Sz.bn (by with_reducible assumption) | exact BF.bnl (n := 80) (by decide))
local macro_rules | `(tactic| walk_at "ps") => `(tactic| first | with_reducible assumption | decide | exact BF.Ss.pos (by with_reducible assumption) | exact BF.Sz.pos (by with_reducible assumption) | omega)
local macro_rules | `(tactic| walk_at "sd") => `(tactic| first | with_reducible assumption | ((with_reducible show L2.CPow _ _); exact ⟨by decide, by decide, by decide⟩) | ((with_reducible show L2.CDivW _ _); first | exact BF.divOk_lit (by decide) (by decide) | exact BF.Bn.divOk (by walk_at "bn") (by walk_at "ps") (by decide) (by decide)) | ((with_reducible show L2.CMulX _ _); exact BF.Bn.mulOk (by walk_at "bn") (by walk_at "bn") (by decide)) | ((with_reducible show _ ≤ PySem.sizeLine); exact BF.size4 (by simp)) | ((with_reducible show (0 : Int) < _); walk_at "ps") | ((with_reducible show (_ : Int) ≤ _); omega) | ((with_reducible show (_ : Int) < _); omega))
local macro_rules | `(tactic| walk_at "rd1") => `(tactic| first | refine And.intro (by walk_at "sd") ?_ | refine ⟨_, rfl, ?_⟩ | refine And.intro rfl ?_ | refine ⟨_, _, rfl, rfl, ?_⟩ | refine ⟨_, _, rfl, ?_⟩ | refine ⟨_, _, _, rfl, ?_⟩)
local macro_rules | `(tactic| walk_at "rd") => `(tactic| repeat walk_at "rd1")

/-! ### sums.py -/
namespace BF
open PySem PySem.Spec PyProof.Rows L2
/-- is_number(x): x of the built-in type T -/
inductive SpIsNumber (K : PySem.W.Frag) : Sp where
  | mk {x : V} {T : String} {i b : Bool} {H : Hp} {Q : VK} {E : XK} (ty : TyX K H x (.type T)) (hi : kitB T "int" = some i) (hb : kitB T "bool" = some b) (q : Q (.bl (i && !b)) H) : SpIsNumber K [x] H Q E
theorem num_int {K : PySem.W.Frag} {H : Hp} {Q : VK} {E : XK} {n : Int} (q : Q (.bl true) H) : SpIsNumber K [.int n] H Q E := .mk (T := "int") (i := true) (b := false) (.base (.int n)) (by decide +kernel) (by decide +kernel) q
section
variable {P : Program} {w : World} {K : PySem.W.Frag} {mg : Str → Option Value} {base : Heap}
theorem H_is_number (p : Pl K mg "is_number" s_is_number) (B : Bi mg) : Has P w K mg base CX0 1 "is_number" ["thing"] (SpIsNumber K) := by
  refine p.mk0 sc_is_number (fun _ _ _ _ _ _ us hl => match us, hl with | [_], _ => rfl) (fun vs H Q E h => ?_) (fun f cdv A outer s H vs Q E hr h => ?_)
  · cases h; rfl
  · obtain @⟨x, T, i, b, _, _, _, hT, hi, hb, q⟩ := h
    refine ⟨_, (pss_one (ps_ret (pe_and (pe_callB (r := rIsi K) call_isi (by rfl) B.isinstance (by decide +kernel) (pa_cons (pv 0) (pa_cons (pe_bltn (v := .ty "int") (by rfl) B.int (by decide +kernel) rfl) pa_nil))) (pe_one (pe_not (pe_callB (r := rIsi K) call_isi (by rfl) B.isinstance (by decide +kernel) (pa_cons (pv 0) (pa_cons (pe_bltn (v := .ty "bool") (by rfl) B.bool (by decide +kernel) rfl) pa_nil)))))))), ?_⟩
    refine ⟨_, rfl, x, _, _, _, i, rfl, .ty "int", hT, kit_ty hi, i, rfl, ?_⟩
    cases i with
    | false => exact iteF q
    | true => exact iteT ⟨_, rfl, x, _, _, _, b, rfl, .ty "bool", hT, kit_ty hb, b, rfl, q⟩
theorem ints_at {ns : List Int} {i : Nat} {y : V} (h : (ns.map V.int)[i]? = some y) : ∃ n, ns[i]? = some n ∧ y = .int n := by
  rw [List.getElem?_map] at h
  cases e : ns[i]? with
  | none => rw [e] at h; cases h
  | some n =>
    rw [e] at h
    exact ⟨n, rfl, (Option.some.inj h).symm⟩
end
end BF

namespace BF
open PySem PySem.Spec PyProof.Rows L2
/-- check_sizes(some), all of them sizes -/
inductive SpCheckSizes (K : PySem.W.Frag) : Sp where
  | mk {a : Addr} {ns : List Int} {H : Hp} {Q : VK} {E : XK} (hS : SqL K H a (ns.map V.int)) (hp : ∀ n ∈ ns, 0 < n) (q : Q .non H) : SpCheckSizes K [.ref a] H Q E
section
variable {P : Program} {w : World} {K : PySem.W.Frag} {mg : Str → Option Value} {base : Heap}
theorem H_check_sizes (p : Pl K mg "check_sizes" s_check_sizes) (h_is_number : Has P w K mg base CX0 1 "is_number" ["thing"] (SpIsNumber K)) : Has P w K mg base CX0 2 "check_sizes" ["some"] (SpCheckSizes K) := by
  refine p.mk0 sc_check_sizes (fun _ _ _ _ _ _ us hl => match us, hl with | [_], _ => rfl) (fun vs H Q E h => ?_) (fun f cdv A outer s H vs Q E hr h => ?_)
  · cases h; rfl
  · obtain @⟨a, ns, _, _, _, hS, hp, q⟩ := h
    refine ⟨_, (pss_one (ps_for PassesOwn.never (by rfl) (pi_list (pv 0)) (pg_name (i := 1) sc_check_sizes.nd rfl (Or.inl rfl)) (pss_one (ps_if (PW.pt (pw_or (pt_not (pt_val (pe_fn h_is_number (hr.mono (by decide)) pass0 (pa_cons (pv 1) pa_nil)))) (pw_or1 (pt_cmpR op_lt (pv 1) pe_int (nomark _))))) (pss_one ps_never) pss_nil)))), ?_⟩
    refine ⟨_, rfl, a, rfl, ⟨_, hS⟩, for_list (K := K) (a := a) (xs := ns.map V.int) (fun i σ H' => H' = H ∧ ∃ y, σ = [some (.ref a), y]) ⟨rfl, none, rfl⟩ (fun i σ H' _ ⟨e, _⟩ => by rw [e]; exact hS) ?_ ?_⟩
    · rintro i y σ H' hi ⟨rfl, z, rfl⟩
      obtain ⟨n, hn, rfl⟩ := ints_at hi
      have h0 := hp n (List.mem_of_getElem? hn)
      refine ⟨_, rfl, num_int ⟨true, rfl, iteF ⟨_, rfl, _, _, rfl, rfl, _, rfl, ?_⟩⟩⟩
      rw [decide_eq_false (by omega)]
      exact iteF ⟨rfl, _, rfl⟩
    · rintro σ H' ⟨rfl, z, rfl⟩
      exact q
end
end BF

namespace BF
open PySem PySem.Spec PyProof.Rows L2
inductive SpShared : Sp where
  | mk {a b : Int} {H : Hp} {Q : VK} {E : XK} (ha : Sz a) (hb : Sz b) (hm : Sm a b) (q : ∀ g t p H', Good a b g t → g ≤ b → 0 ≤ t → t < b → Same H H' → H' p = some (.tup [.int g, .int t]) → Q (.ref p) H') : SpShared [.int a, .int b] H Q E
/-- what parts_of hands back: None, or a new pair -/
def tellParts (x : Option (Int × Int)) (H : Hp) (Q : VK) : Prop := match x with
  | none => ∀ H', Same H H' → Q .non H'
  | some y => ∀ p H', Same H H' → H p = none → H' p = some (.tup [.int y.1, .int y.2]) → Q (.ref p) H'
theorem tellParts.mono {x : Option (Int × Int)} {H H' : Hp} {Q : VK} (q : tellParts x H Q) (sm : Same H H') : tellParts x H' Q := by
  cases x with
  | none => exact fun H2 s2 => q H2 (sm.trans s2)
  | some y => exact fun p H2 s2 hn hp => q p H2 (sm.trans s2) (sm.free hn) hp
/-- the value that tells x -/
def Told (x : Option (Int × Int)) (H : Hp) (v : V) : Prop := match x with
  | none => v = .non
  | some y => ∃ p, v = .ref p ∧ H p = some (.tup [.int y.1, .int y.2])
theorem Told.mono {x : Option (Int × Int)} {H H' : Hp} {v : V} (h : Told x H v) (sm : Same H H') : Told x H' v := by
  cases x with
  | none => exact h
  | some y =>
    obtain ⟨p, e, hp⟩ := h
    exact ⟨p, e, sm _ _ hp⟩
theorem tell_of {x : Option (Int × Int)} {H : Hp} {Q : VK} (q : ∀ v H', Same H H' → Told x H' v → Q v H') : tellParts x H Q := by
  cases x with
  | none => exact fun H' sm => q _ H' sm rfl
  | some y => exact fun p H' sm _ hp => q _ H' sm ⟨p, rfl, hp⟩
inductive SpParts : Sp where
  | mk {s a b : Int} {H : Hp} {Q : VK} {E : XK} (hs : Sz s) (ha : Sz a) (hb : Sz b) (hm : Sm a b) (hd : Dz s b) (q : tellParts (parts s a b) H Q) : SpParts [.int s, .int a, .int b] H Q E
section
variable {P : Program} {w : World} {K : PySem.W.Frag} {mg : Str → Option Value} {base : Heap}
theorem H_shared (p : Pl K mg "shared" s_shared) : Has P w K mg base CX0 1 "shared" ["one", "other"] SpShared := by
  refine p.mk0 sc_shared (fun _ _ _ _ _ _ us hl => match us, hl with | [_, _], _ => rfl) (fun vs H Q E h => ?_) (fun f cdv A outer s H vs Q E hr h => ?_)
  · cases h; rfl
  · obtain @⟨a, b, _, _, _, ha, hb, hm, q⟩ := h
    refine ⟨_, (pss_cons (ps_asg (pe_tup (pa_cons pe_int (pa_cons pe_int pa_nil))) (pg_tup (by rfl) (pgs_cons (pg_name (i := 2) sc_shared.nd rfl (Or.inl rfl)) (pgs_cons (pg_name (i := 3) sc_shared.nd rfl (Or.inl rfl)) pgs_nil))))
      (pss_cons (ps_set (i := 4) sc_shared.nd rfl (Or.inl rfl) (pv 1))
      (pss_cons (ps_while PassesOwn.never (pt_cmpR op_gt (pv 1) pe_int (nomark _)) (pss_cons (ps_set (i := 5) sc_shared.nd rfl (Or.inl rfl) (pe_op op_fdivY (pv 0) (pv 1)))
      (pss_cons (ps_par (i := 0) (j := 1) (by rfl) sc_shared.nd rfl rfl (by decide) rfl rfl (pa_cons (pv 1) (pa_cons (pe_op op_sub (pv 0) (pe_op op_mulX (pv 5) (pv 1))) pa_nil)) (by rfl))
      (pss_one (ps_par (i := 2) (j := 3) (by rfl) sc_shared.nd rfl rfl (by decide) rfl rfl (pa_cons (pv 3) (pa_cons (pe_op op_sub (pv 2) (pe_op op_mulX (pv 5) (pv 3))) pa_nil)) (by rfl))))))
      (pss_one (ps_ret (pe_tup (pa_cons (pv 0) (pa_cons (pe_op op_mod (pv 2) (pv 4)) pa_nil)))))))), ?_⟩
    refine ⟨by show 2 ≤ sizeLine; decide, fun p0 hp0 => ⟨p0, _, rfl, sqT upd_same, rfl, _, _, rfl, _, _, rfl, rfl, ?_⟩⟩
    have sm0 : Same H (upd H p0 (.tup [.int 1, .int 0])) := same_upd hp0
    refine ⟨_, rfl, while_by (fun σ H' => Same H H' ∧ ∃ one other mine theirs y, σ = [some (.int one), some (.int other), some (.int mine), some (.int theirs), some (.int b), y] ∧ ShInv a b one other mine theirs ∧ Sm one other)
      (fun σ _ => slotN σ 1) ⟨sm0, a, b, 1, 0, none, rfl, ShInv.start ha.pos hb.pos, hm⟩ ?_ (fun σ H Q Q' hq h => ?_)⟩
    · rintro σ H' ⟨sm, one, other, mine, theirs, y, rfl, I, sm1⟩
      have b1 : Bn 1100000 one := by
        rcases I.l1 with l | l
        · exact ha.bn.of_le (Int.le_of_lt I.o1) l
        · exact hb.bn.of_le (Int.le_of_lt I.o1) l
      have b2 : Bn 1100000 other := hb.bn.of_le I.o2 I.l2
      have b3 : Bn 1100000 theirs := hb.bn.le I.theirs_le.1
      refine ⟨_, rfl, _, _, rfl, rfl, _, rfl, iteD (fun ho => ?_) (fun ho' => ?_)⟩
      · have ho : 0 < other := ho
        have bq : Bn 1100000 (one / other) := b1.div ho
        obtain ⟨t1, t2, t3⟩ := I.turn ho
        refine ⟨_, rfl, _, rfl, _, _, rfl, rfl, sm1.ok ho, ?_⟩
        refine ⟨_, rfl, _, rfl, _, rfl, _, rfl, _, _, rfl, rfl, bq.mulOk b2 (by decide), _, _, rfl, rfl, _, _, rfl, ?_⟩
        refine ⟨_, rfl, _, rfl, _, rfl, _, rfl, _, _, rfl, rfl, bq.mulOk b3 (by decide), _, _, rfl, rfl, _, _, rfl, ?_⟩
        exact ⟨⟨sm, _, _, _, _, _, rfl, t1, sm1.turn (Int.le_of_lt I.o1) ho⟩, (show (one - one / other * other).toNat < other.toNat by omega)⟩
      · have ho : other = 0 := by
          have h1 : ¬ 0 < other := ho'
          have h2 := I.o2
          omega
        subst ho
        obtain ⟨G, l⟩ := I.done ha.pos hb.pos
        refine ⟨_, rfl, _, rfl, _, rfl, _, _, rfl, rfl, hb.pos, by show 2 ≤ sizeLine; decide, fun p hp => ?_⟩
        exact q _ _ p _ G l (Int.emod_nonneg _ (Int.ne_of_gt hb.pos)) (Int.emod_lt_of_pos _ hb.pos) (sm.trans (same_upd hp)) upd_same
    · obtain ⟨v, e, i, j, e1, e2, k, e3, q⟩ := h
      exact ⟨v, e, i, j, e1, e2, k, e3, hq _ _ q⟩
theorem H_parts_of (p : Pl K mg "parts_of" s_parts_of) (h_shared : Has P w K mg base CX0 1 "shared" ["one", "other"] SpShared) : Has P w K mg base CX0 2 "parts_of" ["size", "first", "second"] SpParts := by
  refine p.mk0 sc_parts_of (fun _ _ _ _ _ _ us hl => match us, hl with | [_, _, _], _ => rfl) (fun vs H Q E h => ?_) (fun f cdv A outer s H vs Q E hr h => ?_)
  · cases h; rfl
  · obtain @⟨sz, a, b, _, _, _, hs, ha, hb, hm, hd, q⟩ := h
    refine ⟨_, (pss_cons (ps_asg (pe_fn h_shared (hr.mono (by decide)) pass0 (pa_cons (pv 1) (pa_cons (pv 2) pa_nil))) (pg_tup (by rfl) (pgs_cons (pg_name (i := 3) sc_parts_of.nd rfl (Or.inl rfl)) (pgs_cons (pg_name (i := 4) sc_parts_of.nd rfl (Or.inl rfl)) pgs_nil))))
      (pss_cons (ps_if (pt_cmpR op_ne (pe_op op_mod (pv 0) (pv 3)) pe_int (nomark _)) (pss_one (ps_ret pe_non)) pss_nil)
      (pss_cons (ps_set (i := 5) sc_parts_of.nd rfl (Or.inl rfl) (pe_op op_mod (pe_op op_mulX (pe_op op_fdivY (pv 0) (pv 3)) (pv 4)) (pe_op op_fdivY (pv 2) (pv 3))))
      (pss_cons (ps_if (pt_cmpR op_gt (pe_op op_mulX (pv 5) (pv 1)) (pv 0) (nomark _)) (pss_one (ps_ret pe_non)) pss_nil)
      (pss_one (ps_ret (pe_tup (pa_cons (pv 5) (pa_cons (pe_op op_fdivY (pe_op op_sub (pv 0) (pe_op op_mulX (pv 5) (pv 1))) (pv 2)) pa_nil))))))))), ?_⟩
    refine ⟨_, rfl, _, rfl, .mk ha hb hm fun g t p H1 G lg t0 t1 sm hp => ?_⟩
    refine ⟨p, _, rfl, sqT hp, rfl, _, _, rfl, _, _, rfl, rfl, ?_⟩
    have e := parts_good (s := sz) ha.pos hb.pos G
    have bg : Bn 1100000 g := hb.bn.of_le (Int.le_of_lt G.pos) lg
    have bs : Bn 2000 g := by
      rcases hm with h | h
      · exact h.of_le (Int.le_of_lt G.pos) lg
      · exact h.of_le (Int.le_of_lt G.pos) (Int.le_of_dvd ha.pos G.ga)
    have bt : Bn 1100000 t := hb.bn.of_le t0 (Int.le_of_lt t1)
    have hbg : 0 < b / g := by
      obtain ⟨c, ec⟩ := G.gb
      have := hb.pos
      have e2 : b / g = c := by rw [ec]; exact Int.mul_ediv_cancel_left c (Int.ne_of_gt G.pos)
      rw [e2]
      rcases Int.lt_or_le 0 c with h | h
      · exact h
      · have h3 : g * c ≤ g * 0 := Int.mul_le_mul_of_nonneg_left h (Int.le_of_lt G.pos)
        omega
    refine ⟨_, rfl, _, rfl, _, _, rfl, rfl, G.pos, rfl, _, rfl, iteNe (fun c1 => ?_) (fun c2 => ?_)⟩
    · have c1 : sz % g ≠ 0 := c1
      rw [if_pos c1] at e
      rw [e] at q
      exact q _ sm
    · have c1 : ¬ sz % g ≠ 0 := fun z => z c2
      rw [if_neg c1] at e
      have bf : Bn 1100000 (sz / g * t % (b / g)) := (hb.bn.div G.pos).mod hbg
      refine ⟨_, rfl, _, rfl, _, _, rfl, rfl, bs.divY G.pos (by decide), _, rfl, _, _, rfl, rfl, (hs.bn.div G.pos).mulOk bt (by decide), _, rfl, _, rfl, _, _, rfl, rfl, bs.divY G.pos (by decide), _, _, rfl, rfl, hbg, ?_⟩
      refine ⟨_, rfl, _, rfl, _, _, rfl, rfl, bf.mulOk ha.bn (by decide), _, rfl, _, _, rfl, rfl, _, rfl, iteD (fun d => ?_) (fun d => ?_)⟩
      · rw [if_pos d] at e
        rw [e] at q
        exact q _ sm
      · rw [if_neg d] at e
        rw [e] at q
        have f0 := Int.emod_nonneg (sz / g * t) (Int.ne_of_gt hbg)
        have fa := Int.mul_nonneg f0 (Int.le_of_lt ha.pos)
        have d' : ¬ (sz / g * t % (b / g) * a > sz) := d
        refine ⟨_, rfl, _, rfl, _, rfl, _, rfl, _, _, rfl, rfl, bf.mulOk ha.bn (by decide), _, _, rfl, rfl, _, rfl, _, _, rfl, rfl, hd.ok (x := sz - sz / g * t % (b / g) * a) hb.pos (by omega) (by omega), by show 2 ≤ sizeLine; decide, fun p' hp' => ?_⟩
        exact q p' _ (sm.trans (same_upd hp')) (sm.free hp') upd_same
end
end BF

/-! ### what bars, in plain words -/
namespace BF
open PySem L2
def strB (L W d : Int) : Bool := !decide (L % d = 0) && !decide (W % d = 0)
noncomputable def shoB (x f s : Int) : Bool := (parts x f s).isNone
/-- those of 0, 1 that are so -/
def two (a b : Bool) : List Int := (if a then [0] else []) ++ (if b then [1] else [])
def strL (L W f s : Int) : List Int := two (strB L W f) (strB L W s)
noncomputable def shoL (L W f s : Int) : List Int := two (shoB L f s) (shoB W f s)
/-- whether a side bars: 0, 1 of the brick, 2, 3 of the floor -/
noncomputable def barB (L W f s : Int) (k : Int) : Bool := if k < 2 then strB L W (if k = 0 then f else s) else shoB (if k = 2 then L else W) f s
end BF
namespace BF
theorem sho_no {x f s m n : Int} (hf : 0 < f) (hs : 0 < s) (h : Rep x f s m n) : shoB x f s = false := by
  have p := parts_is (s := x) hf hs
  unfold shoB
  cases e : parts x f s with
  | none =>
    rw [e] at p
    exact absurd h (p m n)
  | some y => rfl
theorem sho_yes {x f s : Int} (hs : 0 < s) (h : ∀ m n, ¬ Rep x f s m n) : shoB x f s = true := by
  have p := parts_eq (s := x) (a := f) (b := s) (x := none) hs h
  unfold shoB
  rw [p]
  rfl
end BF

/-! ### answers.py: what bars -/
namespace BF
open PySem PySem.Spec PyProof.Rows L2
inductive SpStriped : Sp where
  | mk {L W d : Int} {H : Hp} {Q : VK} {E : XK} (hd : 0 < d) (q : Q (.bl (strB L W d)) H) : SpStriped [.int L, .int W, .int d] H Q E
inductive SpBars : Sp where
  | mk {L W f s : Int} {H : Hp} {Q : VK} {E : XK} (hL : Sz L) (hW : Sz W) (hf : Sz f) (hs : Sz s) (fl : Fl L W f s)
      (q : ∀ p p1 p2 H', Same H H' → H' p = some (.tup [.ref p1, .ref p2]) → H' p1 = some (.lst ((strL L W f s).map V.int)) → H' p2 = some (.lst ((shoL L W f s).map V.int)) → Q (.ref p) H') : SpBars [.int L, .int W, .int f, .int s] H Q E
/-- what two tests have picked behind i turns -/
def twoN (a b : Bool) : Nat → List Int
  | 0 => []
  | 1 => if a then [0] else []
  | _ => two a b
section
variable {P : Program} {w : World} {K : PySem.W.Frag} {mg : Str → Option Value} {base : Heap}
theorem H_is_striped (p : Pl K mg "is_striped" s_is_striped) : Has P w K mg base CX0 1 "is_striped" ["length", "width", "side"] SpStriped := by
  refine p.mk0 sc_is_striped (fun _ _ _ _ _ _ us hl => match us, hl with | [_, _, _], _ => rfl) (fun vs H Q E h => ?_) (fun f cdv A outer s H vs Q E hr h => ?_)
  · cases h; rfl
  · obtain @⟨L, W, d, _, _, _, hd, q⟩ := h
    refine ⟨_, (pss_one (ps_ret (pe_and (pe_cmpR op_ne (pe_op op_mod (pv 0) (pv 2)) pe_int (nomark _)) (pe_one (pe_cmpR op_ne (pe_op op_mod (pv 1) (pv 2)) pe_int (nomark _)))))), ?_⟩
    unfold strB at q
    walk_at "rd"
    refine iteNe (fun c => ?_) (fun c => ?_)
    · rw [decide_eq_false c] at q
      walk_at "rd"
      have e : decide (V.int (W % d) = V.int 0) = decide (W % d = 0) := decide_eq_decide.mpr ⟨fun z => V.int.inj z, fun z => congrArg V.int z⟩
      rw [show (!decide (V.int (W % d) = V.int 0)) = (!false && !decide (W % d = 0)) by rw [e]; rfl]
      exact q
    · rw [decide_eq_true c] at q
      exact q
theorem H_what_bars (p : Pl K mg "what_bars" s_what_bars) (B : Bi mg) (h_is_striped : Has P w K mg base CX0 1 "is_striped" ["length", "width", "side"] SpStriped) (h_parts_of : Has P w K mg base CX0 2 "parts_of" ["size", "first", "second"] SpParts) :
    Has P w K mg base CX0 3 "what_bars" ["length", "width", "first", "second"] SpBars := by
  refine p.mk0 sc_what_bars (fun _ _ _ _ _ _ us hl => match us, hl with | [_, _, _, _], _ => rfl) (fun vs H Q E h => ?_) (fun f cdv A outer s H vs Q E hr h => ?_)
  · cases h; rfl
  · obtain @⟨L, W, fi, se, _, _, _, hL, hW, hf, hs, fl, q⟩ := h
    refine ⟨_, (pss_cons (ps_setLc (i := 4) (own := [("which", 6), ("side", 7)]) (g := (gTup K 2 (gCons (gName 6) (gCons (gName 7) gNil)))) (by rfl) sc_what_bars.nd rfl rfl (sw_true rfl rfl rfl (by decide +kernel)) (pi_enumT (by rfl) B.enumerate (pa_cons (pe_tup (pa_cons (pv 2) (pa_cons (pv 3) pa_nil))) pa_nil)) (blkOk_by (own := [("which", 6), ("side", 7)]) (N := ["length", "width", "first", "second", "striped", "short", "which", "side"]) (sc := defScope s_what_bars) (by decide +kernel)) (fun _ _ _ _ _ => (pg_tup (by rfl) (pgs_cons (pg_name (i := 6) sc_what_bars.nd rfl (Or.inl rfl)) (pgs_cons (pg_name (i := 7) sc_what_bars.nd rfl (Or.inl rfl)) pgs_nil)))) (fun _ _ _ _ _ => pts_one (pt_val (pe_fn h_is_striped (hr.mono (by decide)) pass0 (pa_cons (pv 0) (pa_cons (pv 1) (pa_cons (pv 7) pa_nil)))))) (fun _ _ _ _ _ => (pv 6)))
      (pss_cons (ps_setLc (i := 5) (own := [("which", 6), ("side", 7)]) (g := (gTup K 2 (gCons (gName 6) (gCons (gName 7) gNil)))) (by rfl) sc_what_bars.nd rfl rfl (sw_true rfl rfl rfl (by decide +kernel)) (pi_enumT (by rfl) B.enumerate (pa_cons (pe_tup (pa_cons (pv 0) (pa_cons (pv 1) pa_nil))) pa_nil)) (blkOk_by (own := [("which", 6), ("side", 7)]) (N := ["length", "width", "first", "second", "striped", "short", "which", "side"]) (sc := defScope s_what_bars) (by decide +kernel)) (fun _ _ _ _ _ => (pg_tup (by rfl) (pgs_cons (pg_name (i := 6) sc_what_bars.nd rfl (Or.inl rfl)) (pgs_cons (pg_name (i := 7) sc_what_bars.nd rfl (Or.inl rfl)) pgs_nil)))) (fun _ _ _ _ _ => pts_one (pt_cmpR op_isN (pe_fn h_parts_of (hr.mono (by decide)) pass0 (pa_cons (pv 7) (pa_cons (pv 2) (pa_cons (pv 3) pa_nil)))) pe_non (nomark _))) (fun _ _ _ _ _ => (pv 6)))
      (pss_one (ps_ret (pe_tup (pa_cons (pv 4) (pa_cons (pv 5) pa_nil))))))), ?_⟩
    walk_at "rd"
    intro t1 ht1
    generalize hH1 : upd H t1 _ = H1
    obtain ⟨sm1, up1⟩ : Same H H1 ∧ H1 t1 = some (.tup [.int fi, .int se]) := newH hH1 ht1
    clear hH1
    refine ⟨t1, _, rfl, sqT up1, fun D1 hD1 => lc_enumT (K := K) (a := t1) (xs := [.int fi, .int se]) (fun i H' => Same H1 H' ∧ H' D1 = some (.lst ((twoN (strB L W fi) (strB L W se) i).map V.int))) ⟨same_upd hD1, upd_same⟩ (fun i H' _ ⟨sm, _⟩ => sqT (sm _ _ up1)) ?_ ?_⟩
    · rintro i x T H' hx ⟨sm, eD⟩ hT
      obtain ⟨d, rfl, hd⟩ : ∃ d : Int, x = .int d ∧ ((i = 0 ∧ d = fi) ∨ (i = 1 ∧ d = se)) := by
        match i, hx with
        | 0, e => cases e; exact ⟨_, rfl, .inl ⟨rfl, rfl⟩⟩
        | 1, e => cases e; exact ⟨_, rfl, .inr ⟨rfl, rfl⟩⟩
        | n + 2, e => cases e
      have hdp : 0 < d := by
        rcases hd with ⟨_, rfl⟩ | ⟨_, rfl⟩
        · exact hf.pos
        · exact hs.pos
      have eD2 := same_upd (o := .tup [.int (i : Nat), .int d]) hT _ _ eD
      refine ⟨T, _, rfl, sqT upd_same, rfl, ?_⟩
      have sm2 : Same H1 (upd H' T (.tup [.int (i : Nat), .int d])) := sm.trans (same_upd hT)
      generalize upd H' T (.tup [.int (i : Nat), .int d]) = H2 at eD2 sm2 ⊢
      walk_at "rd"
      refine .mk hdp ⟨_, rfl, iteB (fun c => ?_) (fun c => ?_)⟩
      · refine ⟨_, rfl, _, eD2, ?_, ?_, ?_⟩
        · rw [List.length_map]
          refine Nat.lt_of_le_of_lt (m := 2) ?_ (by decide)
          rcases hd with ⟨rfl, _⟩ | ⟨rfl, _⟩
          · exact Nat.zero_le _
          · show (if strB L W fi then [(0 : Int)] else []).length ≤ 2; split <;> decide
        · exact fun b o e => by rw [upd_ne (ne_of_none e hD1)]; exact sm2 b o e
        · rw [upd_same]
          rcases hd with ⟨rfl, rfl⟩ | ⟨rfl, rfl⟩
          · show some (HO.lst ([] ++ [V.int 0])) = some (HO.lst ((if strB L W d then [0] else []).map V.int))
            rw [c]
            rfl
          · show some (HO.lst ((if strB L W fi then [0] else []).map V.int ++ [V.int 1])) = some (HO.lst ((two (strB L W fi) (strB L W d)).map V.int))
            unfold two
            rw [c, List.map_append]
            rfl
      · refine ⟨sm2, ?_⟩
        rw [eD2]
        rcases hd with ⟨rfl, rfl⟩ | ⟨rfl, rfl⟩
        · show some (HO.lst []) = some (HO.lst ((if strB L W d then [0] else []).map V.int))
          rw [c]
          rfl
        · show some (HO.lst ((if strB L W fi then [0] else []).map V.int)) = some (HO.lst ((two (strB L W fi) (strB L W d)).map V.int))
          unfold two
          rw [c]
          simp
    · rintro H2 ⟨sm2, eD1⟩
      walk_at "rd"
      intro t2 ht2
      generalize hH3 : upd H2 t2 _ = H3
      obtain ⟨sm3, up3⟩ : Same H2 H3 ∧ H3 t2 = some (.tup [.int L, .int W]) := newH hH3 ht2
      clear hH3
      refine ⟨t2, _, rfl, sqT up3, fun D2 hD2 => lc_enumT (K := K) (a := t2) (xs := [.int L, .int W]) (fun i H' => Same H3 H' ∧ H' D2 = some (.lst ((twoN (shoB L fi se) (shoB W fi se) i).map V.int))) ⟨same_upd hD2, upd_same⟩ (fun i H' _ ⟨sm, _⟩ => sqT (sm _ _ up3)) ?_ ?_⟩
      · rintro i x T H' hx ⟨sm, eD⟩ hT
        obtain ⟨d, rfl, hd⟩ : ∃ d : Int, x = .int d ∧ ((i = 0 ∧ d = L) ∨ (i = 1 ∧ d = W)) := by
          match i, hx with
          | 0, e => cases e; exact ⟨_, rfl, .inl ⟨rfl, rfl⟩⟩
          | 1, e => cases e; exact ⟨_, rfl, .inr ⟨rfl, rfl⟩⟩
          | n + 2, e => cases e
        have hdp : Sz d ∧ Dz d se := by
          rcases hd with ⟨_, rfl⟩ | ⟨_, rfl⟩
          · exact ⟨hL, fl.l⟩
          · exact ⟨hW, fl.w⟩
        have eD2 := same_upd (o := .tup [.int (i : Nat), .int d]) hT _ _ eD
        refine ⟨T, _, rfl, sqT upd_same, rfl, ?_⟩
        have sm4 : Same H3 (upd H' T (.tup [.int (i : Nat), .int d])) := sm.trans (same_upd hT)
        generalize upd H' T (.tup [.int (i : Nat), .int d]) = H4 at eD2 sm4 ⊢
        walk_at "rd"
        refine .mk hdp.1 hf hs fl.sm hdp.2 (tell_of fun v H5 sm5 tv => ?_)
        have ev : (decide (v = .non)) = shoB d fi se := by
          unfold shoB
          cases hp : parts d fi se with
          | none =>
            rw [hp] at tv
            obtain rfl : v = .non := tv
            rfl
          | some y =>
            rw [hp] at tv
            obtain ⟨p5, rfl, _⟩ := tv
            rfl
        refine ⟨rfl, _, rfl, ?_⟩
        rw [ev]
        replace eD2 := sm5 _ _ eD2
        replace sm4 := sm4.trans sm5
        refine iteB (fun c => ?_) (fun c => ?_)
        · refine ⟨_, rfl, _, eD2, ?_, ?_, ?_⟩
          · rw [List.length_map]
            refine Nat.lt_of_le_of_lt (m := 2) ?_ (by decide)
            rcases hd with ⟨rfl, _⟩ | ⟨rfl, _⟩
            · exact Nat.zero_le _
            · show (if shoB L fi se then [(0 : Int)] else []).length ≤ 2; split <;> decide
          · exact fun b o e => by rw [upd_ne (ne_of_none e hD2)]; exact sm4 b o e
          · rw [upd_same]
            rcases hd with ⟨rfl, rfl⟩ | ⟨rfl, rfl⟩
            · show some (HO.lst ([] ++ [V.int 0])) = some (HO.lst ((if shoB d fi se then [0] else []).map V.int))
              rw [c]
              rfl
            · show some (HO.lst ((if shoB L fi se then [0] else []).map V.int ++ [V.int 1])) = some (HO.lst ((two (shoB L fi se) (shoB d fi se)).map V.int))
              unfold two
              rw [c, List.map_append]
              rfl
        · refine ⟨sm4, ?_⟩
          rw [eD2]
          rcases hd with ⟨rfl, rfl⟩ | ⟨rfl, rfl⟩
          · show some (HO.lst []) = some (HO.lst ((if shoB d fi se then [0] else []).map V.int))
            rw [c]
            rfl
          · show some (HO.lst ((if shoB L fi se then [0] else []).map V.int)) = some (HO.lst ((two (shoB L fi se) (shoB d fi se)).map V.int))
            unfold two
            rw [c]
            simp
      · rintro H4 ⟨sm4, eD2⟩
        walk_at "rd"
        intro t3 ht3
        have e1 : H4 D1 = _ := sm4 _ _ (sm3 _ _ eD1)
        exact q t3 D1 D2 _ (sm1.trans (sm2.trans (sm3.trans (sm4.trans (same_upd ht3))))) upd_same (same_upd ht3 _ _ e1) (same_upd ht3 _ _ eD2)
end
end BF

/-! ### bricks and cells, in plain words -/
namespace BF
open PySem L2
structure Brick where
  x : Int
  y : Int
  l : Bool
def Brick.vs (b : Brick) : List V := [.int b.x, .int b.y, .bl b.l]
/-- along, up -/
def Brick.lo (f s : Int) (b : Brick) : Int := if b.l then f else s
def Brick.hi (f s : Int) (b : Brick) : Int := if b.l then s else f
def beyB (L W f s : Int) (b : Brick) : Bool := decide (b.x < 0) || (decide (b.y < 0) || (decide (L < b.x + b.lo f s) || decide (W < b.y + b.hi f s)))
def covB (f s : Int) (c : Int × Int) (b : Brick) : Bool := (decide (b.x ≤ c.1) && decide (c.1 < b.x + b.lo f s)) && (decide (b.y ≤ c.2) && decide (c.2 < b.y + b.hi f s))
def oftN (f s : Int) (bs : List Brick) (c : Int × Int) : Nat := (bs.filter (covB f s c)).length
def cellB (L W : Int) (c : Int × Int) : Bool := (decide (0 ≤ c.1) && decide (c.1 < L)) && (decide (0 ≤ c.2) && decide (c.2 < W))
/-- a column of cells, columns of cells -/
def colL (x y : Int) (n : Nat) : List (Int × Int) := (List.range n).map fun j : Nat => (x, y + (j : Int))
def colsL (x y : Int) (m n : Nat) : List (Int × Int) := (List.range m).flatMap fun i : Nat => colL (x + (i : Int)) y n
def cellsL (f s : Int) (b : Brick) : List (Int × Int) := colsL b.x b.y (b.lo f s).toNat (b.hi f s).toNat
theorem col_succ (x y : Int) (n : Nat) : colL x y (n + 1) = colL x y n ++ [(x, y + (n : Int))] := by
  unfold colL
  rw [List.range_succ, List.map_append]
  rfl
theorem col_len (x y : Int) (n : Nat) : (colL x y n).length = n := by
  unfold colL
  rw [List.length_map, List.length_range]
theorem cols_succ (x y : Int) (m n : Nat) : colsL x y (m + 1) n = colsL x y m n ++ colL (x + (m : Int)) y n := by
  unfold colsL
  rw [List.range_succ, List.flatMap_append]
  simp
theorem cols_len (x y : Int) (n : Nat) : ∀ m, (colsL x y m n).length = m * n
  | 0 => by simp [colsL]
  | m + 1 => by
    rw [cols_succ, List.length_append, cols_len x y n m, col_len, Nat.succ_mul]
theorem col_count (x y : Int) (c : Int × Int) : ∀ n : Nat, (colL x y n).count c = if c.1 = x ∧ y ≤ c.2 ∧ c.2 < y + (n : Int) then 1 else 0
  | 0 => by
    rw [if_neg (by omega)]
    rfl
  | n + 1 => by
    rw [col_succ, List.count_append, col_count x y c n]
    obtain ⟨a, b⟩ := c
    by_cases h : (a, b) = (x, y + (n : Int))
    · have h1 : a = x := congrArg Prod.fst h
      have h2 : b = y + (n : Int) := congrArg Prod.snd h
      rw [h, List.count_singleton_self]
      show (if x = x ∧ y ≤ y + (n : Int) ∧ y + (n : Int) < y + (n : Int) then 1 else 0) + 1 = if x = x ∧ y ≤ y + (n : Int) ∧ y + (n : Int) < y + ((n + 1 : Nat) : Int) then 1 else 0
      rw [if_neg (show ¬ (x = x ∧ y ≤ y + (n : Int) ∧ y + (n : Int) < y + (n : Int)) by omega), if_pos (show x = x ∧ y ≤ y + (n : Int) ∧ y + (n : Int) < y + ((n + 1 : Nat) : Int) by omega)]
    · have e : [(x, y + (n : Int))].count (a, b) = 0 := List.count_eq_zero_of_not_mem (by
        intro z
        exact h (List.mem_singleton.mp z))
      rw [e]
      have ne : ¬ (a = x ∧ b = y + (n : Int)) := fun z => h (by rw [z.1, z.2])
      simp only
      by_cases g : a = x ∧ y ≤ b ∧ b < y + (n : Int)
      · rw [if_pos g, if_pos (by omega)]
      · rw [if_neg g, if_neg (by omega)]
theorem cols_count (x y : Int) (n : Nat) (c : Int × Int) : ∀ m : Nat, (colsL x y m n).count c = if (x ≤ c.1 ∧ c.1 < x + (m : Int)) ∧ y ≤ c.2 ∧ c.2 < y + (n : Int) then 1 else 0
  | 0 => by
    rw [if_neg (by omega)]
    rfl
  | m + 1 => by
    rw [cols_succ, List.count_append, cols_count x y n c m, col_count]
    by_cases h : c.1 = x + (m : Int)
    · rw [if_neg (by omega)]
      by_cases g : y ≤ c.2 ∧ c.2 < y + (n : Int)
      · rw [if_pos (by omega), if_pos (by omega)]
      · rw [if_neg (by omega), if_neg (by omega)]
    · rw [if_neg (c := c.1 = x + (m : Int) ∧ y ≤ c.2 ∧ c.2 < y + (n : Int)) (by omega)]
      by_cases g : (x ≤ c.1 ∧ c.1 < x + (m : Int)) ∧ y ≤ c.2 ∧ c.2 < y + (n : Int)
      · rw [if_pos g, if_pos (by omega)]
      · rw [if_neg g, if_neg (by omega)]
theorem cells_count {f s : Int} (hf : 0 < f) (hs : 0 < s) (b : Brick) (c : Int × Int) : (cellsL f s b).count c = if covB f s c b then 1 else 0 := by
  unfold cellsL
  rw [cols_count]
  have h1 : 0 < b.lo f s := by unfold Brick.lo; split <;> omega
  have h2 : 0 < b.hi f s := by unfold Brick.hi; split <;> omega
  have e1 : ((b.lo f s).toNat : Int) = b.lo f s := Int.toNat_of_nonneg (by omega)
  have e2 : ((b.hi f s).toNat : Int) = b.hi f s := Int.toNat_of_nonneg (by omega)
  rw [e1, e2]
  unfold covB
  by_cases g : (b.x ≤ c.1 ∧ c.1 < b.x + b.lo f s) ∧ b.y ≤ c.2 ∧ c.2 < b.y + b.hi f s
  · rw [if_pos g, decide_eq_true g.1.1, decide_eq_true g.1.2, decide_eq_true g.2.1, decide_eq_true g.2.2]
    rfl
  · rw [if_neg g]
    have e : ((decide (b.x ≤ c.1) && decide (c.1 < b.x + b.lo f s)) && (decide (b.y ≤ c.2) && decide (c.2 < b.y + b.hi f s))) = false := by
      apply Bool.eq_false_iff.mpr
      intro z
      simp only [Bool.and_eq_true, decide_eq_true_eq] at z
      exact g ⟨⟨z.1.1, z.1.2⟩, z.2.1, z.2.2⟩
    rw [e]
    rfl
/-- all cells of all bricks -/
def allL (f s : Int) (bs : List Brick) : List (Int × Int) := bs.flatMap (cellsL f s)
theorem all_count {f s : Int} (hf : 0 < f) (hs : 0 < s) (c : Int × Int) : ∀ bs : List Brick, (allL f s bs).count c = oftN f s bs c
  | [] => rfl
  | b :: bs => by
    have ih := all_count hf hs c bs
    unfold allL at ih ⊢
    rw [List.flatMap_cons, List.count_append, ih, cells_count hf hs]
    unfold oftN
    rw [List.filter_cons]
    split <;> simp <;> omega
/-- the floor's cells -/
def gridL (L W : Int) : List (Int × Int) := colsL 0 0 L.toNat W.toNat
theorem grid_count {L W : Int} (hL : 0 ≤ L) (hW : 0 ≤ W) (c : Int × Int) : (gridL L W).count c = if cellB L W c then 1 else 0 := by
  unfold gridL
  rw [cols_count, Int.toNat_of_nonneg hL, Int.toNat_of_nonneg hW]
  unfold cellB
  by_cases g : (0 ≤ c.1 ∧ c.1 < 0 + L) ∧ 0 ≤ c.2 ∧ c.2 < 0 + W
  · rw [if_pos g, decide_eq_true g.1.1, decide_eq_true (show c.1 < L by omega), decide_eq_true g.2.1, decide_eq_true (show c.2 < W by omega)]
    rfl
  · rw [if_neg g]
    have e : ((decide (0 ≤ c.1) && decide (c.1 < L)) && (decide (0 ≤ c.2) && decide (c.2 < W))) = false := by
      apply Bool.eq_false_iff.mpr
      intro z
      simp only [Bool.and_eq_true, decide_eq_true_eq] at z
      omega
    rw [e]
    rfl
/-- a sum of counts over a list without doubles -/
theorem sum_counts {all : List (Int × Int)} : ∀ {g : List (Int × Int)}, (∀ c, g.count c ≤ 1) → (∀ c ∈ all, c ∈ g) → (g.map fun c => all.count c).sum = all.length := by
  induction all with
  | nil =>
    intro g k1 k2
    clear k1 k2
    show (g.map fun c => ([] : List (Int × Int)).count c).sum = 0
    induction g with
    | nil => rfl
    | cons a g ih =>
      rw [List.map_cons, List.sum_cons, ih]
      rfl
  | cons x all ih =>
    intro g h1 h2
    have hx : g.count x = 1 := by
      have := h1 x
      have := List.count_pos_iff.mpr (h2 x (by simp))
      omega
    have e : ∀ g : List (Int × Int), (g.map fun c => (x :: all).count c).sum = (g.map fun c => all.count c).sum + g.count x := by
      intro g
      induction g with
      | nil => rfl
      | cons a g ihg =>
        rw [List.map_cons, List.sum_cons, ihg, List.map_cons, List.sum_cons, List.count_cons, List.count_cons]
        by_cases z : a = x
        · subst z; simp; omega
        · have z1 : (x == a) = false := by simpa using fun h => z h.symm
          have z2 : (a == x) = false := by simpa using z
          rw [z1, z2]; simp; omega
    rw [e, ih h1 (fun c hc => h2 c (List.mem_cons_of_mem _ hc)), hx, List.length_cons]
theorem sum_ones {h : Int × Int → Nat} : ∀ {g : List (Int × Int)}, (∀ c ∈ g, h c ≤ 1) → (g.map h).sum = g.length → ∀ c ∈ g, h c = 1
  | [], _, _, c, hc => by cases hc
  | a :: g, h1, e, c, hc => by
    have le : ∀ g : List (Int × Int), (∀ c ∈ g, h c ≤ 1) → (g.map h).sum ≤ g.length := by
      intro g hg
      induction g with
      | nil => exact Nat.le_refl _
      | cons b g ih =>
        rw [List.map_cons, List.sum_cons, List.length_cons]
        have := hg b (by simp)
        have := ih fun c hc => hg c (List.mem_cons_of_mem _ hc)
        omega
    rw [List.map_cons, List.sum_cons, List.length_cons] at e
    have a1 := h1 a (by simp)
    have g1 := le g fun c hc => h1 c (List.mem_cons_of_mem _ hc)
    rcases List.mem_cons.mp hc with rfl | hc
    · omega
    · exact sum_ones (fun c hc => h1 c (List.mem_cons_of_mem _ hc)) (by omega) c hc
theorem all_ones {h : Int × Int → Nat} : ∀ {g : List (Int × Int)}, (∀ c ∈ g, h c = 1) → (g.map h).sum = g.length
  | [], _ => rfl
  | a :: g, e => by
    rw [List.map_cons, List.sum_cons, List.length_cons, e a (by simp), all_ones fun c hc => e c (List.mem_cons_of_mem _ hc)]
    omega
theorem cov_cell {L W f s : Int} {b : Brick} {c : Int × Int} (h : beyB L W f s b = false) (g : covB f s c b = true) : cellB L W c = true := by
  unfold beyB at h
  unfold covB at g
  unfold cellB
  simp only [Bool.or_eq_false_iff, decide_eq_false_iff_not] at h
  simp only [Bool.and_eq_true, decide_eq_true_eq] at g ⊢
  omega
theorem mem_cells {f s : Int} (hf : 0 < f) (hs : 0 < s) {b : Brick} {c : Int × Int} (h : c ∈ cellsL f s b) : covB f s c b = true := by
  have := List.count_pos_iff.mpr h
  rw [cells_count hf hs] at this
  by_cases g : covB f s c b = true
  · exact g
  · rw [if_neg g] at this; omega
theorem mem_grid {L W : Int} (hL : 0 ≤ L) (hW : 0 ≤ W) {c : Int × Int} : c ∈ gridL L W ↔ cellB L W c = true := by
  constructor
  · intro h
    have := List.count_pos_iff.mpr h
    rw [grid_count hL hW] at this
    by_cases g : cellB L W c = true
    · exact g
    · rw [if_neg g] at this; omega
  · intro h
    refine List.count_pos_iff.mp ?_
    rw [grid_count hL hW, if_pos h]
    omega
/-- laid: as the program reckons it, and cell by cell -/
theorem full_iff {L W f s : Int} (hL : 0 < L) (hW : 0 < W) (hf : 0 < f) (hs : 0 < s) {bs : List Brick} (hb : ∀ b ∈ bs, beyB L W f s b = false) :
    ((allL f s bs).Nodup ∧ ((allL f s bs).length : Int) = L * W) ↔ ∀ c, cellB L W c = true → oftN f s bs c = 1 := by
  have sub : ∀ c ∈ allL f s bs, c ∈ gridL L W := by
    intro c hc
    obtain ⟨b, hbm, hcb⟩ := List.mem_flatMap.mp hc
    exact (mem_grid (by omega) (by omega)).mpr (cov_cell (hb b hbm) (mem_cells hf hs hcb))
  have g1 : ∀ c, (gridL L W).count c ≤ 1 := fun c => by
    rw [grid_count (by omega) (by omega)]
    split <;> omega
  have gl : ((gridL L W).length : Int) = L * W := by
    unfold gridL
    rw [cols_len, Int.natCast_mul, Int.toNat_of_nonneg (by omega), Int.toNat_of_nonneg (by omega)]
  have sm := sum_counts g1 sub
  constructor
  · rintro ⟨nd, len⟩ c hc
    have e : ((gridL L W).map fun c => (allL f s bs).count c).sum = (gridL L W).length := by omega
    have := sum_ones (h := fun c => (allL f s bs).count c) (fun c _ => List.nodup_iff_count.mp nd c) e c ((mem_grid (by omega) (by omega)).mpr hc)
    rw [← all_count hf hs]
    exact this
  · intro h
    have e := all_ones (h := fun c => (allL f s bs).count c) (g := gridL L W) fun c hc => by
      show (allL f s bs).count c = 1
      rw [all_count hf hs]
      exact h c ((mem_grid (by omega) (by omega)).mp hc)
    refine ⟨List.nodup_iff_count.mpr fun c => ?_, by omega⟩
    by_cases hc : c ∈ allL f s bs
    · rw [all_count hf hs, h c ((mem_grid (by omega) (by omega)).mp (sub c hc))]
      exact Nat.le_refl _
    · rw [List.count_eq_zero_of_not_mem hc]
      omega
end BF

/-! ### answers.py: bricks and cells -/
namespace BF
open PySem PySem.Spec PyProof.Rows L2
def cellV (c : Int × Int) : List V := [.int c.1, .int c.2]
/-- a brick's tuple, a list of bricks -/
def BrAll (K : PySem.W.Frag) (H : Hp) (ps : List (Addr × Brick)) : Prop := ∀ p ∈ ps, SqT K H p.1 p.2.vs
def refs {α : Type} (ps : List (Addr × α)) : List V := ps.map fun p => V.ref p.1
def vals {α : Type} (ps : List (Addr × α)) : List α := ps.map (·.2)
theorem BrAll.mono {K : PySem.W.Frag} {H H' : Hp} {ps : List (Addr × Brick)} (h : BrAll K H ps) (sm : Same H H') : BrAll K H' ps := fun p hp => Same.tup sm (h p hp)
theorem refs_at {α : Type} {ps : List (Addr × α)} {i : Nat} {v : V} (h : (refs ps)[i]? = some v) : ∃ p, ps[i]? = some p ∧ v = .ref p.1 ∧ p ∈ ps := by
  unfold refs at h
  rw [List.getElem?_map] at h
  cases e : ps[i]? with
  | none => rw [e] at h; cases h
  | some p =>
    rw [e] at h
    exact ⟨p, rfl, (Option.some.inj h).symm, List.mem_of_getElem? e⟩
theorem refs_len {α : Type} (ps : List (Addr × α)) : (refs ps).length = ps.length := List.length_map _
theorem vals_len {α : Type} (ps : List (Addr × α)) : (vals ps).length = ps.length := List.length_map _
inductive SpBeyond (K : PySem.W.Frag) : Sp where
  | mk {o : Addr} {b : Brick} {L W f s : Int} {H : Hp} {Q : VK} {E : XK} (ho : SqT K H o b.vs) (q : ∀ H', Same H H' → Q (.bl (beyB L W f s b)) H') : SpBeyond K [.int L, .int W, .int f, .int s, .ref o] H Q E
inductive SpCovers (K : PySem.W.Frag) : Sp where
  | mk {o t : Addr} {b : Brick} {c : Int × Int} {f s : Int} {H : Hp} {Q : VK} {E : XK} (ho : SqT K H o b.vs) (ht : SqT K H t (cellV c)) (q : ∀ H', Same H H' → Q (.bl (covB f s c b)) H') : SpCovers K [.int f, .int s, .ref o, .ref t] H Q E
inductive SpOften (K : PySem.W.Frag) : Sp where
  | mk {l t : Addr} {ps : List (Addr × Brick)} {c : Int × Int} {f s : Int} {H : Hp} {Q : VK} {E : XK} (hl : SqL K H l (refs ps)) (hb : BrAll K H ps) (hn : ps.length ≤ 10000) (ht : SqT K H t (cellV c)) (q : ∀ H', Same H H' → Q (.int (oftN f s (vals ps) c : Nat)) H') :
    SpOften K [.int f, .int s, .ref l, .ref t] H Q E
section
variable {P : Program} {w : World} {K : PySem.W.Frag} {mg : Str → Option Value} {base : Heap}
theorem H_is_beyond (p : Pl K mg "is_beyond" s_is_beyond) : Has P w K mg base CX0 1 "is_beyond" ["length", "width", "first", "second", "brick"] (SpBeyond K) := by
  refine p.mk0 sc_is_beyond (fun _ _ _ _ _ _ us hl => match us, hl with | [_, _, _, _, _], _ => rfl) (fun vs H Q E h => ?_) (fun f cdv A outer s H vs Q E hr h => ?_)
  · cases h; rfl
  · obtain @⟨o, ⟨x, y, l⟩, L, W, fi, se, _, _, _, ho, q⟩ := h
    refine ⟨_, (pss_cons (ps_asg (pe_ifExp (pt_val (pe_ix (r := rIxT K) ix_tup (pv 4) pe_int (fun _ _ => rfl))) (pe_tup (pa_cons (pv 2) (pa_cons (pv 3) pa_nil))) (pe_tup (pa_cons (pv 3) (pa_cons (pv 2) pa_nil)))) (pg_tup (by rfl) (pgs_cons (pg_name (i := 5) sc_is_beyond.nd rfl (Or.inl rfl)) (pgs_cons (pg_name (i := 6) sc_is_beyond.nd rfl (Or.inl rfl)) pgs_nil))))
      (pss_one (ps_ret (pe_or (pe_cmpR op_lt (pe_ix (r := rIxT K) ix_tup (pv 4) pe_int (fun _ _ => rfl)) pe_int (nomark _)) (pe_or (pe_cmpR op_lt (pe_ix (r := rIxT K) ix_tup (pv 4) pe_int (fun _ _ => rfl)) pe_int (nomark _)) (pe_or (pe_cmpR op_gt (pe_op op_add (pe_ix (r := rIxT K) ix_tup (pv 4) pe_int (fun _ _ => rfl)) (pv 5)) (pv 0) (nomark _)) (pe_one (pe_cmpR op_gt (pe_op op_add (pe_ix (r := rIxT K) ix_tup (pv 4) pe_int (fun _ _ => rfl)) (pv 6)) (pv 1) (nomark _))))))))), ?_⟩
    unfold beyB Brick.lo Brick.hi at q
    cases l
    all_goals
      simp only [Bool.false_eq_true, if_false, if_true] at q
      refine ⟨_, rfl, o, _, 2, _, rfl, rfl, ho, rfl, _, rfl, ?_⟩
      first | refine iteF ?_ | refine iteT ?_
      walk_at "rd"
      intro t ht
      generalize hH1 : upd H t _ = H1
      obtain ⟨sm1, up1⟩ := newH hH1 ht
      clear hH1
      have ho1 := Same.tup sm1 ho
      refine ⟨t, _, rfl, sqT up1, rfl, ?_⟩
      walk_at "rd"
      refine ⟨o, _, 0, _, rfl, rfl, ho1, rfl, _, _, rfl, rfl, _, rfl, iteD (fun c => ?_) (fun c => ?_)⟩
      · have c : x < 0 := c
        simp only [decide_eq_true c, Bool.true_or] at q
        exact q _ sm1
      have c : ¬ x < 0 := c
      simp only [decide_eq_false c, Bool.false_or] at q
      refine ⟨_, rfl, o, _, 1, _, rfl, rfl, ho1, rfl, _, _, rfl, rfl, _, rfl, iteD (fun c => ?_) (fun c => ?_)⟩
      · have c : y < 0 := c
        simp only [decide_eq_true c, Bool.true_or] at q
        exact q _ sm1
      have c : ¬ y < 0 := c
      simp only [decide_eq_false c, Bool.false_or] at q
      refine ⟨_, rfl, o, _, 0, _, rfl, rfl, ho1, rfl, ?_⟩
      walk_at "rd"
      refine iteD (fun c => ?_) (fun c => ?_)
      · simp only [decide_eq_true c, Bool.true_or] at q
        exact q _ sm1
      simp only [decide_eq_false c, Bool.false_or] at q
      refine ⟨_, rfl, o, _, 1, _, rfl, rfl, ho1, rfl, ?_⟩
      walk_at "rd"
      exact q _ sm1
theorem H_covers (p : Pl K mg "covers" s_covers) : Has P w K mg base CX0 1 "covers" ["first", "second", "brick", "cell"] (SpCovers K) := by
  refine p.mk0 sc_covers (fun _ _ _ _ _ _ us hl => match us, hl with | [_, _, _, _], _ => rfl) (fun vs H Q E h => ?_) (fun f cdv A outer s H vs Q E hr h => ?_)
  · cases h; rfl
  · obtain @⟨o, t, ⟨x, y, l⟩, ⟨c1, c2⟩, fi, se, _, _, _, ho, ht, q⟩ := h
    refine ⟨_, (pss_cons (ps_asg (pe_ifExp (pt_val (pe_ix (r := rIxT K) ix_tup (pv 2) pe_int (fun _ _ => rfl))) (pe_tup (pa_cons (pv 0) (pa_cons (pv 1) pa_nil))) (pe_tup (pa_cons (pv 1) (pa_cons (pv 0) pa_nil)))) (pg_tup (by rfl) (pgs_cons (pg_name (i := 4) sc_covers.nd rfl (Or.inl rfl)) (pgs_cons (pg_name (i := 5) sc_covers.nd rfl (Or.inl rfl)) pgs_nil))))
      (pss_one (ps_ret (pe_and (pe_chain op_le op_lt (pe_ix (r := rIxT K) ix_tup (pv 2) pe_int (fun _ _ => rfl)) (pe_ix (r := rIxT K) ix_tup (pv 3) pe_int (fun _ _ => rfl)) (pe_op op_add (pe_ix (r := rIxT K) ix_tup (pv 2) pe_int (fun _ _ => rfl)) (pv 4))) (pe_one (pe_chain op_le op_lt (pe_ix (r := rIxT K) ix_tup (pv 2) pe_int (fun _ _ => rfl)) (pe_ix (r := rIxT K) ix_tup (pv 3) pe_int (fun _ _ => rfl)) (pe_op op_add (pe_ix (r := rIxT K) ix_tup (pv 2) pe_int (fun _ _ => rfl)) (pv 5)))))))), ?_⟩
    unfold covB Brick.lo Brick.hi at q
    cases l
    all_goals
      simp only [Bool.false_eq_true, if_false, if_true] at q
      refine ⟨_, rfl, o, _, 2, _, rfl, rfl, ho, rfl, _, rfl, ?_⟩
      first | refine iteF ?_ | refine iteT ?_
      walk_at "rd"
      intro p1 hp1
      generalize hH1 : upd H p1 _ = H1
      obtain ⟨sm1, up1⟩ := newH hH1 hp1
      clear hH1
      have ho1 := Same.tup sm1 ho
      have ht1 := Same.tup sm1 ht
      refine ⟨p1, _, rfl, sqT up1, rfl, ?_⟩
      walk_at "rd"
      refine ⟨o, _, 0, _, rfl, rfl, ho1, rfl, _, rfl, t, _, 0, _, rfl, rfl, ht1, rfl, ?_⟩
      walk_at "rd"
      refine iteD (fun c => ?_) (fun c => ?_)
      · simp only [decide_eq_true c, Bool.true_and] at q
        refine ⟨_, rfl, o, _, 0, _, rfl, rfl, ho1, rfl, ?_⟩
        walk_at "rd"
        refine iteD (fun c => ?_) (fun c => ?_)
        · simp only [decide_eq_true c, Bool.true_and] at q
          refine ⟨_, rfl, o, _, 1, _, rfl, rfl, ho1, rfl, _, rfl, t, _, 1, _, rfl, rfl, ht1, rfl, ?_⟩
          walk_at "rd"
          refine iteD (fun c => ?_) (fun c => ?_)
          · simp only [decide_eq_true c, Bool.true_and] at q
            refine ⟨_, rfl, o, _, 1, _, rfl, rfl, ho1, rfl, ?_⟩
            walk_at "rd"
            exact q _ sm1
          · simp only [decide_eq_false c, Bool.false_and] at q
            exact q _ sm1
        · simp only [decide_eq_false c, Bool.false_and] at q
          exact q _ sm1
      · simp only [decide_eq_false c, Bool.false_and] at q
        exact ⟨_, rfl, iteF (q _ sm1)⟩
theorem H_often (p : Pl K mg "often" s_often) (B : Bi mg) (h_covers : Has P w K mg base CX0 1 "covers" ["first", "second", "brick", "cell"] (SpCovers K)) : Has P w K mg base CX0 2 "often" ["first", "second", "bricks", "cell"] (SpOften K) := by
  refine p.mk0 sc_often (fun _ _ _ _ _ _ us hl => match us, hl with | [_, _, _, _], _ => rfl) (fun vs H Q E h => ?_) (fun f cdv A outer s H vs Q E hr h => ?_)
  · cases h; rfl
  · obtain @⟨l, t, ps, c, fi, se, _, _, _, hl, hb, hn, ht, q⟩ := h
    refine ⟨_, (pss_one (ps_ret (pe_callB (r := rLen2 K) call_len_seq (by rfl) B.len PySem.boot_len (pa_cons (pe_lc (own := [("brick", 4)]) (by rfl) sc_often.nd (pi_list (pv 2)) (blkOk_by (own := [("brick", 4)]) (N := ["first", "second", "bricks", "cell", "brick"]) (sc := defScope s_often) (by decide +kernel)) (fun _ _ _ _ _ => (pg_name (i := 4) sc_often.nd rfl (Or.inl rfl))) (fun _ _ _ _ _ => pts_one (pt_val (pe_fn h_covers (hr.mono (by decide)) pass0 (pa_cons (pv 0) (pa_cons (pv 1) (pa_cons (pv 4) (pa_cons (pv 3) pa_nil))))))) (fun _ _ _ _ _ => (pv 4))) pa_nil)))), ?_⟩
    refine ⟨_, rfl, l, rfl, ⟨_, hl⟩, fun D hD => ?_⟩
    refine lc_list (K := K) (a := l) (xs := refs ps) (fun i H' => Same H H' ∧ ∃ vs, H' D = some (.lst vs) ∧ vs.length = oftN fi se ((vals ps).take i) c) ⟨same_upd hD, [], upd_same, rfl⟩ (fun i H' _ ⟨sm, _⟩ => sm.seq hl) ?_ ?_
    · rintro i v H' hi ⟨sm, vs, eD, ev⟩
      obtain ⟨pb, hpb, rfl, hm⟩ := refs_at hi
      have hlt : i < ps.length := (List.getElem?_eq_some_iff.mp hpb).1
      have et : (vals ps).take (i + 1) = (vals ps).take i ++ [pb.2] := by
        unfold vals
        rw [List.take_add_one, List.getElem?_map, hpb]
        rfl
      have eo : oftN fi se ((vals ps).take (i + 1)) c = oftN fi se ((vals ps).take i) c + if covB fi se c pb.2 then 1 else 0 := by
        rw [et]
        unfold oftN
        rw [List.filter_append, List.length_append, List.filter_cons]
        split <;> rfl
      have hle : oftN fi se ((vals ps).take i) c ≤ ps.length := by
        unfold oftN
        refine Nat.le_trans (List.length_filter_le _ _) ?_
        rw [List.length_take, vals_len]
        exact Nat.min_le_right _ _
      refine ⟨rfl, ?_⟩
      walk_at "rd"
      refine .mk (Same.tup sm (hb pb hm)) (Same.tup sm ht) fun H2 sm2 => ⟨_, rfl, iteB (fun c => ?_) (fun c => ?_)⟩
      · rw [c, if_pos rfl] at eo
        refine ⟨_, rfl, vs, sm2 _ _ eD, ?_, ?_, vs ++ [.ref pb.1], upd_same, ?_⟩
        · rw [ev]
          exact Nat.lt_of_le_of_lt hle (Nat.lt_of_le_of_lt hn (by decide))
        · exact fun b1 o e => by rw [upd_ne (ne_of_none e hD)]; exact sm2 _ _ (sm b1 o e)
        · rw [List.length_append, ev, eo]
          rfl
      · rw [c] at eo
        exact ⟨sm.trans sm2, vs, sm2 _ _ eD, by rw [ev, eo]; rfl⟩
    · rintro H' ⟨sm, vs, eD, ev⟩
      rw [refs_len, ← vals_len ps, List.take_length] at ev
      refine ⟨D, vs, rfl, .inl (sqL eD), ?_⟩
      rw [ev]
      exact q _ sm
end
end BF

/-! ### answers.py: the cells of a brick; what are cells -/
namespace BF
open PySem PySem.Spec PyProof.Rows L2
def CeAll (H : Hp) (cs : List (Addr × (Int × Int))) : Prop := ∀ q ∈ cs, H q.1 = some (.tup (cellV q.2))
theorem CeAll.mono {H H' : Hp} {cs : List (Addr × (Int × Int))} (h : CeAll H cs) (sm : Same H H') : CeAll H' cs := fun q hq => sm _ _ (h q hq)
inductive SpCells (K : PySem.W.Frag) : Sp where
  | mk {o : Addr} {b : Brick} {f s : Int} {H : Hp} {Q : VK} {E : XK} (ho : SqT K H o b.vs) (h1 : 0 ≤ b.lo f s ∧ b.lo f s ≤ 1000) (h2 : 0 ≤ b.hi f s ∧ b.hi f s ≤ 1000)
      (q : ∀ p H' cs, Same H H' → H' p = some (.lst (refs cs)) → CeAll H' cs → vals cs = cellsL f s b → Q (.ref p) H') : SpCells K [.int f, .int s, .ref o] H Q E
inductive SpIsCell : Sp where
  | mk {t : Addr} {c : Int × Int} {L W : Int} {H : Hp} {Q : VK} {E : XK} (ht : H t = some (.tup (cellV c))) (q : Q (.bl (cellB L W c)) H) : SpIsCell [.int L, .int W, .ref t] H Q E
inductive CellsI (fi se : Int) (o F : Addr) (lo hi x y : Int) (H : Hp) (i : Nat) : L2.St → Hp → Prop where
  | mk {H' : Hp} {z u : Option V} {cs : List (Addr × (Int × Int))} (sm : Same H H') (hF : H' F = some (.lst (refs cs))) (hc : CeAll H' cs) (hv : vals cs = colsL x y i hi.toNat) : CellsI fi se o F lo hi x y H i [some (.int fi), some (.int se), some (.ref o), some (.int lo), some (.int hi), some (.ref F), z, u] H'
theorem ce_add {H : Hp} {cs : List (Addr × (Int × Int))} {p : Addr} {c : Int × Int} (h : CeAll H cs) (hp : H p = some (.tup (cellV c))) : CeAll H (cs ++ [(p, c)]) := fun q hq => by
  rcases List.mem_append.mp hq with a | a
  · exact h q a
  · obtain rfl := List.mem_singleton.mp a
    exact hp
theorem mul_add_le {i n : Nat} (h1 : i < 1000) (h2 : n ≤ 1000) : i * n + n ≤ 1000000 := by
  have := Nat.mul_le_mul (show i + 1 ≤ 1000 by omega) h2
  rw [Nat.succ_mul] at this
  exact this
theorem refs_app {α : Type} (a b : List (Addr × α)) : refs (a ++ b) = refs a ++ refs b := List.map_append
theorem vals_app {α : Type} (a b : List (Addr × α)) : vals (a ++ b) = vals a ++ vals b := List.map_append
section
variable {P : Program} {w : World} {K : PySem.W.Frag} {mg : Str → Option Value} {base : Heap}
theorem H_is_cell (p : Pl K mg "is_cell" s_is_cell) (B : Bi mg) (h_is_number : Has P w K mg base CX0 1 "is_number" ["thing"] (SpIsNumber K)) : Has P w K mg base CX0 2 "is_cell" ["length", "width", "thing"] SpIsCell := by
  refine p.mk0 sc_is_cell (fun _ _ _ _ _ _ us hl => match us, hl with | [_, _, _], _ => rfl) (fun vs H Q E h => ?_) (fun f cdv A outer s H vs Q E hr h => ?_)
  · cases h; rfl
  · obtain @⟨t, ⟨c1, c2⟩, L, W, _, _, _, ht, q⟩ := h
    refine ⟨_, (pss_cons (ps_if (PW.pt (pw_or (pt_not (pt_val (pe_callB (r := rIsi K) call_isi (by rfl) B.isinstance (by decide +kernel) (pa_cons (pv 2) (pa_cons (pe_bltn (v := .ty "tuple") (by rfl) B.tuple (by decide +kernel) rfl) pa_nil))))) (pw_or (pt_cmpR op_ne (pe_callB (r := rLen2 K) call_len_seq (by rfl) B.len PySem.boot_len (pa_cons (pv 2) pa_nil)) pe_int (nomark _)) (pw_or (pt_not (pt_val (pe_fn h_is_number (hr.mono (by decide)) pass0 (pa_cons (pe_ix (r := rIxT K) ix_tup (pv 2) pe_int (fun _ _ => rfl)) pa_nil)))) (pw_or1 (pt_not (pt_val (pe_fn h_is_number (hr.mono (by decide)) pass0 (pa_cons (pe_ix (r := rIxT K) ix_tup (pv 2) pe_int (fun _ _ => rfl)) pa_nil))))))))) (pss_one (ps_ret pe_bl)) pss_nil)
      (pss_one (ps_ret (pe_and (pe_chain op_le op_lt pe_int (pe_ix (r := rIxT K) ix_tup (pv 2) pe_int (fun _ _ => rfl)) (pv 0)) (pe_one (pe_chain op_le op_lt pe_int (pe_ix (r := rIxT K) ix_tup (pv 2) pe_int (fun _ _ => rfl)) (pv 1))))))), ?_⟩
    unfold cellB at q
    refine ⟨_, rfl, _, _, _, _, true, rfl, .ty "tuple", .base (.tup ht), kit_ty (by decide +kernel), true, rfl, iteF ?_⟩
    refine ⟨_, rfl, t, _, rfl, .inr (sqT ht), rfl, _, rfl, iteNe (fun z => absurd rfl z) (fun _ => ?_)⟩
    refine ⟨_, rfl, t, _, 0, _, rfl, rfl, sqT ht, rfl, num_int ⟨true, rfl, iteF ?_⟩⟩
    refine ⟨_, rfl, t, _, 1, _, rfl, rfl, sqT ht, rfl, num_int ⟨true, rfl, iteF ?_⟩⟩
    refine ⟨_, rfl, t, _, 0, _, rfl, rfl, sqT ht, rfl, ?_⟩
    walk_at "rd"
    refine iteD (fun c => ?_) (fun c => ?_)
    · simp only [decide_eq_true c, Bool.true_and] at q
      walk_at "rd"
      refine iteD (fun c => ?_) (fun c => ?_)
      · simp only [decide_eq_true c, Bool.true_and] at q
        refine ⟨_, rfl, t, _, 1, _, rfl, rfl, sqT ht, rfl, ?_⟩
        walk_at "rd"
        refine iteD (fun c => ?_) (fun c => ?_)
        · simp only [decide_eq_true c, Bool.true_and] at q
          walk_at "rd"
          exact q
        · simp only [decide_eq_false c, Bool.false_and] at q
          exact q
      · simp only [decide_eq_false c, Bool.false_and] at q
        exact q
    · simp only [decide_eq_false c, Bool.false_and] at q
      exact ⟨_, rfl, iteF q⟩
theorem H_cells_of (p : Pl K mg "cells_of" s_cells_of) (B : Bi mg) : Has P w K mg base CX0 1 "cells_of" ["first", "second", "brick"] (SpCells K) := by
  refine p.mk0 sc_cells_of (fun _ _ _ _ _ _ us hl => match us, hl with | [_, _, _], _ => rfl) (fun vs H Q E h => ?_) (fun f cdv A outer s H vs Q E hr h => ?_)
  · cases h; rfl
  · obtain @⟨o, b, fi, se, _, _, _, ho, h1, h2, q⟩ := h
    refine ⟨_, (pss_cons (ps_asg (pe_ifExp (pt_val (pe_ix (r := rIxT K) ix_tup (pv 2) pe_int (fun _ _ => rfl))) (pe_tup (pa_cons (pv 0) (pa_cons (pv 1) pa_nil))) (pe_tup (pa_cons (pv 1) (pa_cons (pv 0) pa_nil)))) (pg_tup (by rfl) (pgs_cons (pg_name (i := 3) sc_cells_of.nd rfl (Or.inl rfl)) (pgs_cons (pg_name (i := 4) sc_cells_of.nd rfl (Or.inl rfl)) pgs_nil))))
      (pss_cons (ps_set (i := 5) sc_cells_of.nd rfl (Or.inl rfl) (pe_lst pa_nil))
      (pss_cons (ps_for PassesOwn.never (by rfl) (pi_range1 (by rfl) B.range (pa_cons (pv 3) pa_nil)) (pg_name (i := 6) sc_cells_of.nd rfl (Or.inr rfl)) (pss_one (ps_expr (pe_bm PySem.F.plainAttrs_list PySem.F.slot_list_extend PySem.F.type_list_extend mt_extend (pv 5) (pa_cons (pe_lc (own := [("up", 7)]) (by rfl) sc_cells_of.nd (pi_range1 (by rfl) B.range (pa_cons (pv 4) pa_nil)) (blkOk_by (own := [("up", 7)]) (N := ["first", "second", "brick", "long", "high", "found", "along", "up"]) (sc := defScope s_cells_of) (by decide +kernel)) (fun _ _ _ _ _ => (pg_name (i := 7) sc_cells_of.nd rfl (Or.inl rfl))) (fun _ _ _ _ _ => pts_nil) (fun _ _ _ _ _ => (pe_tup (pa_cons (pe_op op_add (pe_ix (r := rIxT K) ix_tup (pv 2) pe_int (fun _ _ => rfl)) (pv 6)) (pa_cons (pe_op op_add (pe_ix (r := rIxT K) ix_tup (pv 2) pe_int (fun _ _ => rfl)) (pv 7)) pa_nil))))) pa_nil)))))
      (pss_one (ps_ret (pv 5)))))), ?_⟩
    unfold cellsL at q
    obtain ⟨x, y, l⟩ := b
    generalize hlo : Brick.lo fi se ⟨x, y, l⟩ = lo at h1 q
    generalize hhi : Brick.hi fi se ⟨x, y, l⟩ = hi at h2 q
    cases l
    all_goals
      unfold Brick.lo at hlo
      unfold Brick.hi at hhi
      simp only [Bool.false_eq_true, if_false, if_true] at hlo hhi
      subst hlo hhi
      refine ⟨_, rfl, o, _, 2, _, rfl, rfl, ho, rfl, _, rfl, ?_⟩
      first | refine iteF ?_ | refine iteT ?_
      walk_at "rd"
      intro p1 hp1
      generalize hH1 : upd H p1 _ = H1
      obtain ⟨sm1, up1⟩ := newH hH1 hp1
      clear hH1
      refine ⟨p1, _, rfl, sqT up1, rfl, ?_⟩
      walk_at "rd"
      intro F hF
      have ho1 := Same.tup sm1 ho
      refine ⟨_, rfl, _, rfl, by omega, by omega, for_range (lo := 0) (n := _) (fun i σ H' => CellsI fi se o F _ _ x y H1 i σ H') (.mk (cs := []) (same_upd hF) upd_same (fun q hq => nomatch hq) rfl) ?_ ?_⟩
      · rintro i _ H2 hi @⟨_, _, _, cs, sm2, eF, hc, hv⟩
        have e0 : (0 : Int) + (i : Int) = i := by omega
        refine ⟨_, rfl, .inl ⟨rfl, _, sqL eF⟩, _, rfl, _, rfl, by omega, by omega, fun D hD => ?_⟩
        have nFD : F ≠ D := ne_of_none eF hD
        refine lc_range (lo := 0) (n := _) (fun j H' => Same H2 H' ∧ ∃ ds, H' D = some (.lst (refs ds)) ∧ CeAll H' ds ∧ vals ds = colL (x + (i : Int)) y j) ⟨same_upd hD, [], upd_same, (fun q hq => nomatch hq), rfl⟩ ?_ ?_
        · rintro j H3 hj ⟨sm3, ds, eD, hds, vds⟩
          have e1 : (0 : Int) + (j : Int) = j := by omega
          have ho3 := Same.tup (sm2.trans sm3) ho1
          refine ⟨rfl, lc_yes ?_⟩
          refine ⟨_, rfl, o, _, 0, _, rfl, rfl, ho3, rfl, _, rfl, _, _, rfl, rfl, _, rfl, o, _, 1, _, rfl, rfl, ho3, rfl, _, rfl, _, _, rfl, rfl, ?_⟩
          refine ⟨size4 (by simp), fun p4 hp4 => ?_⟩
          have nDp : D ≠ p4 := ne_of_none eD hp4
          refine ⟨_, by rw [upd_ne nDp]; exact eD, ?_, ?_, ds ++ [(p4, (x + (i : Int), y + (j : Int)))], ?_, ?_, ?_⟩
          · rw [refs_len, ← vals_len, vds, col_len]
            exact Nat.lt_of_lt_of_le hj (size4 (by omega))
          · exact fun b1 o1 e => by rw [upd_ne (ne_of_none e hD)]; exact same_upd hp4 _ _ (sm3 b1 o1 e)
          · rw [upd_same, refs_app]
            rfl
          · refine fun q hq => ?_
            have z := ce_add (H := upd H3 p4 (.tup (cellV (x + (i : Int), y + (j : Int))))) (c := (x + (i : Int), y + (j : Int))) (hds.mono (same_upd hp4)) upd_same q hq
            have nq : q.1 ≠ D := fun z2 => by
              rw [z2, upd_ne nDp, eD] at z
              cases z
            rw [upd_ne nq, e0, e1]
            exact z
          · rw [vals_app, vds, col_succ]
            rfl
        · rintro H3 ⟨sm3, ds, eD, hds, vds⟩
          have eF3 := sm3 _ _ eF
          refine ⟨F, D, _, _, rfl, rfl, eF3, eD, ?_, ?_⟩
          · rw [refs_len, refs_len, ← vals_len cs, ← vals_len ds, hv, vds, cols_len, col_len]
            exact size4 (mul_add_le (by omega) (by omega))
          · refine .mk (cs := cs ++ ds) ?_ ?_ ?_ ?_
            · exact fun b1 o1 e => by rw [upd_ne (ne_of_none e hF)]; exact sm3 _ _ (sm2 b1 o1 e)
            · rw [upd_same, refs_app]
            · refine fun q hq => ?_
              have z : H3 q.1 = some (.tup (cellV q.2)) := by
                rcases List.mem_append.mp hq with a | a
                · exact hc.mono sm3 q a
                · exact hds q a
              have nq : q.1 ≠ F := fun z2 => by
                rw [z2, eF3] at z
                cases z
              rw [upd_ne nq]
              exact z
            · rw [vals_app, hv, vds, cols_succ]
      · rintro _ H2 @⟨_, _, _, cs, sm2, eF, hc, hv⟩
        exact ⟨_, rfl, q F H2 cs (sm1.trans sm2) eF hc hv⟩
end
end BF

/-! ### laying.py: floors that can be laid -/
namespace BF
open PySem PySem.Spec PyProof.Rows L2
/-- nothing bars -/
def Free (L W f s : Int) : Prop := strL L W f s = [] ∧ shoL L W f s = []
noncomputable def planP (L W f s : Int) : Int × Int :=
  if L % f = 0 ∧ W % s = 0 then (L, W) else if L % s = 0 ∧ W % f = 0 then (0, 0) else if L % f = 0 then (L, ((parts W f s).getD (0, 0)).2 * s) else (((parts L f s).getD (0, 0)).1 * f, W)
noncomputable def brickP (L W f s : Int) (c : Int × Int) : Brick :=
  if c.1 < (planP L W f s).1 ∧ c.2 < (planP L W f s).2 then ⟨c.1 / f * f, c.2 / s * s, true⟩ else
    ⟨(if (planP L W f s).2 = W then (planP L W f s).1 else 0) + (c.1 - (if (planP L W f s).2 = W then (planP L W f s).1 else 0)) / s * s, (if (planP L W f s).1 = L then (planP L W f s).2 else 0) + (c.2 - (if (planP L W f s).1 = L then (planP L W f s).2 else 0)) / f * f, decide (f = s)⟩
inductive SpLaid : Sp where
  | mk {L W f s : Int} {H : Hp} {Q : VK} {E : XK} (hL : Sz L) (hW : Sz W) (hf : Ss f) (hs : Ss s) (fr : Free L W f s) (q : ∀ H', Same H H' → Q .non H') : SpLaid [.int L, .int W, .int f, .int s] H Q E
inductive SpPlan : Sp where
  | mk {L W f s : Int} {H : Hp} {Q : VK} {E : XK} (hL : Sz L) (hW : Sz W) (hf : Ss f) (hs : Ss s) (fr : Free L W f s) (q : ∀ p H', Same H H' → H' p = some (.tup [.int (planP L W f s).1, .int (planP L W f s).2]) → Q (.ref p) H') : SpPlan [.int L, .int W, .int f, .int s] H Q E
section
variable {P : Program} {w : World} {K : PySem.W.Frag} {mg : Str → Option Value} {base : Heap}
theorem H_check_laid (p : Pl K mg "check_laid" s_check_laid) (h_check_sizes : Has P w K mg base CX0 2 "check_sizes" ["some"] (SpCheckSizes K)) (h_what_bars : Has P w K mg base CX0 3 "what_bars" ["length", "width", "first", "second"] SpBars) :
    Has P w K mg base CX0 4 "check_laid" ["length", "width", "first", "second"] SpLaid := by
  refine p.mk0 sc_check_laid (fun _ _ _ _ _ _ us hl => match us, hl with | [_, _, _, _], _ => rfl) (fun vs H Q E h => ?_) (fun f cdv A outer s H vs Q E hr h => ?_)
  · cases h; rfl
  · obtain @⟨L, W, fi, se, _, _, _, hL, hW, hf, hs, fr, q⟩ := h
    refine ⟨_, (pss_cons (ps_expr (pe_fn h_check_sizes (hr.mono (by decide)) pass0 (pa_cons (pe_lst (pa_cons (pv 0) (pa_cons (pv 1) (pa_cons (pv 2) (pa_cons (pv 3) pa_nil))))) pa_nil)))
      (pss_one (ps_if (pt_cmpR (r := rNeD K) (op_neD hr.units) (pe_fn h_what_bars (hr.mono (by decide)) pass0 (pa_cons (pv 0) (pa_cons (pv 1) (pa_cons (pv 2) (pa_cons (pv 3) pa_nil))))) (pe_tup (pa_cons (pe_lst pa_nil) (pa_cons (pe_lst pa_nil) pa_nil))) (nomark _)) (pss_one ps_never) pss_nil))), ?_⟩
    walk_at "rd"
    intro l1 hl1
    generalize hH1 : upd H l1 _ = H1
    obtain ⟨sm1, up1⟩ : Same H H1 ∧ H1 l1 = some (.lst ([L, W, fi, se].map V.int)) := newH hH1 hl1
    clear hH1
    refine .mk (ns := [L, W, fi, se]) (sqL up1) ?_ ?_
    · intro n hn
      have e : n = L ∨ n = W ∨ n = fi ∨ n = se := by simpa using hn
      rcases e with rfl | rfl | rfl | rfl
      · exact hL.pos
      · exact hW.pos
      · exact hf.pos
      · exact hs.pos
    walk_at "rd"
    refine .mk hL hW hf.sz hs.sz (.of hs) fun t p1 p2 H2 sm2 ht hp1 hp2 => ?_
    rw [fr.1] at hp1
    rw [fr.2] at hp2
    walk_at "rd"
    intro l3 hl3
    generalize hH3 : upd H2 l3 _ = H3
    obtain ⟨sm3, up3⟩ : Same H2 H3 ∧ H3 l3 = some (.lst []) := newH hH3 hl3
    clear hH3
    walk_at "rd"
    intro l4 hl4
    generalize hH4 : upd H3 l4 _ = H4
    obtain ⟨sm4, up4⟩ : Same H3 H4 ∧ H4 l4 = some (.lst []) := newH hH4 hl4
    clear hH4
    walk_at "rd"
    intro t5 ht5
    generalize hH5 : upd H4 t5 _ = H5
    obtain ⟨sm5, up5⟩ : Same H4 H5 ∧ H5 t5 = some (.tup [.ref l3, .ref l4]) := newH hH5 ht5
    clear hH5
    have s45 := sm4.trans sm5
    have s25 := sm3.trans s45
    refine ⟨.tuple [.list [], .list []], .tuple [.list [], .list []], .tup (sqT (s25 _ _ ht)) (.cons (.lst (sqL (s25 _ _ hp1)) .nil) (.cons (.lst (sqL (s25 _ _ hp2)) .nil) .nil)), .tup (sqT up5) (.cons (.lst (sqL (s45 _ _ up3)) .nil) (.cons (.lst (sqL (sm5 _ _ up4)) .nil) .nil)), rfl, rfl, ?_⟩
    rw [SeqAt.eqv_refl]
    · exact ⟨_, rfl, iteF (q _ (sm1.trans (sm2.trans s25)))⟩
    · rfl
theorem free_parts {L W f s : Int} (fr : Free L W f s) (hf : 0 < f) (hs : 0 < s) : (∃ m n, parts L f s = some (m, n) ∧ Rep L f s m n) ∧ ∃ m n, parts W f s = some (m, n) ∧ Rep W f s m n := by
  have h := fr.2
  unfold shoL two shoB at h
  have one : ∀ x, (parts x f s).isNone = false → ∃ m n, parts x f s = some (m, n) ∧ Rep x f s m n := by
    intro x hx
    have p := parts_is (s := x) hf hs
    cases e : BF.parts x f s with
    | none => rw [e] at hx; exact nomatch hx
    | some y =>
      rw [e] at p
      exact ⟨y.1, y.2, rfl, p.1⟩
  constructor
  · refine one L ?_
    cases e : (BF.parts L f s).isNone with
    | false => rfl
    | true => rw [e] at h; simp at h
  · refine one W ?_
    cases e : (BF.parts W f s).isNone with
    | false => rfl
    | true => rw [e] at h; simp at h
theorem Rep.le {x f s m n : Int} (h : Rep x f s m n) (hf : 0 < f) (hs : 0 < s) : m ≤ x ∧ n ≤ x ∧ m * f ≤ x ∧ n * s ≤ x := by
  obtain ⟨h1, h2, h3⟩ := h
  have a := Int.mul_le_mul_of_nonneg_left (show (1 : Int) ≤ f by omega) h1
  have b := Int.mul_le_mul_of_nonneg_left (show (1 : Int) ≤ s by omega) h2
  omega
theorem H_plan (p : Pl K mg "plan" s_plan) (h_parts_of : Has P w K mg base CX0 2 "parts_of" ["size", "first", "second"] SpParts) : Has P w K mg base CX0 3 "plan" ["length", "width", "first", "second"] SpPlan := by
  refine p.mk0 sc_plan (fun _ _ _ _ _ _ us hl => match us, hl with | [_, _, _, _], _ => rfl) (fun vs H Q E h => ?_) (fun f cdv A outer s H vs Q E hr h => ?_)
  · cases h; rfl
  · obtain @⟨L, W, fi, se, _, _, _, hL, hW, hf, hs, fr, q⟩ := h
    refine ⟨_, (pss_cons (ps_if (PW.pt (pw_and (pt_cmpR op_eq (pe_op op_mod (pv 0) (pv 2)) pe_int (nomark _)) (pw_and1 (pt_cmpR op_eq (pe_op op_mod (pv 1) (pv 3)) pe_int (nomark _))))) (pss_one (ps_ret (pe_tup (pa_cons (pv 0) (pa_cons (pv 1) pa_nil))))) pss_nil)
      (pss_cons (ps_if (PW.pt (pw_and (pt_cmpR op_eq (pe_op op_mod (pv 0) (pv 3)) pe_int (nomark _)) (pw_and1 (pt_cmpR op_eq (pe_op op_mod (pv 1) (pv 2)) pe_int (nomark _))))) (pss_one (ps_ret (pe_tup (pa_cons pe_int (pa_cons pe_int pa_nil))))) pss_nil)
      (pss_cons (ps_if (pt_cmpR op_eq (pe_op op_mod (pv 0) (pv 2)) pe_int (nomark _)) (pss_one (ps_ret (pe_tup (pa_cons (pv 0) (pa_cons (pe_op op_mulX (pe_ix (r := rIxT K) ix_tup (pe_fn h_parts_of (hr.mono (by decide)) pass0 (pa_cons (pv 1) (pa_cons (pv 2) (pa_cons (pv 3) pa_nil)))) pe_int (fun _ _ => rfl)) (pv 3)) pa_nil))))) pss_nil)
      (pss_one (ps_ret (pe_tup (pa_cons (pe_op op_mulX (pe_ix (r := rIxT K) ix_tup (pe_fn h_parts_of (hr.mono (by decide)) pass0 (pa_cons (pv 0) (pa_cons (pv 2) (pa_cons (pv 3) pa_nil)))) pe_int (fun _ _ => rfl)) (pv 2)) (pa_cons (pv 1) pa_nil)))))))), ?_⟩
    have pf := hf.pos
    have ps := hs.pos
    obtain ⟨⟨m1, n1, e1, r1⟩, ⟨m2, n2, e2, r2⟩⟩ := free_parts fr pf ps
    have b1 := r1.le pf ps
    have b2 := r2.le pf ps
    have B1 : Bn 1100000 m1 := hL.bn.of_le r1.1 b1.1
    have B2 : Bn 1100000 n2 := hW.bn.of_le r2.2.1 b2.2.1
    unfold planP at q
    rw [e1, e2] at q
    simp only [Option.getD_some] at q
    have two : ∀ {A B : Prop}, A → B → True := fun _ _ => trivial
    by_cases c1 : L % fi = 0 ∧ W % se = 0
    · rw [if_pos c1] at q
      walk_at "rd"
      refine iteEq (fun _ => ?_) (fun z => absurd c1.1 z)
      walk_at "rd"
      refine iteEq (fun _ => ?_) (fun z => absurd c1.2 z)
      walk_at "rd"
      exact fun p hp => q p _ (same_upd hp) upd_same
    rw [if_neg c1] at q
    refine if_no (H' := H) (fun r hr0 => ?_) ?_
    · walk_at "rd"
      refine iteEq (fun d1 => ?_) (fun z => hr0)
      walk_at "rd"
      rw [show decide (V.int (W % se) = V.int 0) = false from decide_eq_false fun z => c1 ⟨d1, V.int.inj z⟩]
      exact hr0
    by_cases c2 : L % se = 0 ∧ W % fi = 0
    · rw [if_pos c2] at q
      walk_at "rd"
      refine iteEq (fun _ => ?_) (fun z => absurd c2.1 z)
      walk_at "rd"
      refine iteEq (fun _ => ?_) (fun z => absurd c2.2 z)
      walk_at "rd"
      exact fun p hp => q p _ (same_upd hp) upd_same
    rw [if_neg c2] at q
    refine if_no (H' := H) (fun r hr0 => ?_) ?_
    · walk_at "rd"
      refine iteEq (fun d1 => ?_) (fun z => hr0)
      walk_at "rd"
      rw [show decide (V.int (W % fi) = V.int 0) = false from decide_eq_false fun z => c2 ⟨d1, V.int.inj z⟩]
      exact hr0
    walk_at "rd"
    refine iteEq (fun d1 => ?_) (fun d1 => ?_)
    · rw [if_pos d1] at q
      walk_at "rd"
      refine .mk hW hf.sz hs.sz (.inl hs.bn) (.inl hs.bn) (tell_of fun v H5 sm5 tv => ?_)
      rw [e2] at tv
      obtain ⟨p5, rfl, hp5⟩ := tv
      refine ⟨p5, _, 1, _, rfl, rfl, sqT hp5, rfl, ?_⟩
      walk_at "rd"
      exact fun p hp => q p _ (sm5.trans (same_upd hp)) upd_same
    · rw [if_neg d1] at q
      walk_at "rd"
      refine .mk hL hf.sz hs.sz (.inl hs.bn) (.inl hs.bn) (tell_of fun v H5 sm5 tv => ?_)
      rw [e1] at tv
      obtain ⟨p5, rfl, hp5⟩ := tv
      refine ⟨p5, _, 0, _, rfl, rfl, sqT hp5, rfl, ?_⟩
      walk_at "rd"
      exact fun p hp => q p _ (sm5.trans (same_upd hp)) upd_same
theorem plan_in {L W f s : Int} (hL : 0 < L) (hW : 0 < W) (hf : 0 < f) (hs : 0 < s) (fr : Free L W f s) : (0 ≤ (planP L W f s).1 ∧ (planP L W f s).1 ≤ L) ∧ 0 ≤ (planP L W f s).2 ∧ (planP L W f s).2 ≤ W := by
  obtain ⟨⟨m1, n1, e1, r1⟩, ⟨m2, n2, e2, r2⟩⟩ := free_parts fr hf hs
  have b1 := r1.le hf hs
  have b2 := r2.le hf hs
  unfold planP
  rw [e1, e2]
  simp only [Option.getD_some]
  have z1 := Int.mul_nonneg r1.1 (Int.le_of_lt hf)
  have z2 := Int.mul_nonneg r2.2.1 (Int.le_of_lt hs)
  split
  · exact ⟨⟨by omega, by omega⟩, by omega, by omega⟩
  split
  · exact ⟨⟨by omega, by omega⟩, by omega, by omega⟩
  split
  · exact ⟨⟨by omega, by omega⟩, z2, b2.2.2.2⟩
  · exact ⟨⟨z1, b1.2.2.1⟩, by omega, by omega⟩
inductive SpBrickOn : Sp where
  | mk {t : Addr} {c : Int × Int} {L W f s : Int} {H : Hp} {Q : VK} {E : XK} (hL : Sz L) (hW : Sz W) (hf : Ss f) (hs : Ss s) (fr : Free L W f s) (ht : H t = some (.tup (cellV c))) (hc : cellB L W c = true)
      (q : ∀ p p1 H', Same H H' → H' p = some (.tup [.ref p1, .bl (brickP L W f s c).l]) → H' p1 = some (.tup (cellV ((brickP L W f s c).x, (brickP L W f s c).y))) → Q (.ref p) H') : SpBrickOn [.int L, .int W, .int f, .int s, .ref t] H Q E
theorem H_brick_on (p : Pl K mg "brick_on" s_brick_on) (h_check_laid : Has P w K mg base CX0 4 "check_laid" ["length", "width", "first", "second"] SpLaid) (h_is_cell : Has P w K mg base CX0 2 "is_cell" ["length", "width", "thing"] SpIsCell) (h_plan : Has P w K mg base CX0 3 "plan" ["length", "width", "first", "second"] SpPlan) :
    Has P w K mg base CX0 5 "brick_on" ["length", "width", "first", "second", "cell"] SpBrickOn := by
  refine p.mk0 sc_brick_on (fun _ _ _ _ _ _ us hl => match us, hl with | [_, _, _, _, _], _ => rfl) (fun vs H Q E h => ?_) (fun f cdv A outer s H vs Q E hr h => ?_)
  · cases h; rfl
  · obtain @⟨t, ⟨c1, c2⟩, L, W, fi, se, _, _, _, hL, hW, hf, hs, fr, ht, hc, q⟩ := h
    refine ⟨_, (pss_cons (ps_expr (pe_fn h_check_laid (hr.mono (by decide)) pass0 (pa_cons (pv 0) (pa_cons (pv 1) (pa_cons (pv 2) (pa_cons (pv 3) pa_nil))))))
      (pss_cons (ps_if (pt_not (pt_val (pe_fn h_is_cell (hr.mono (by decide)) pass0 (pa_cons (pv 0) (pa_cons (pv 1) (pa_cons (pv 4) pa_nil)))))) (pss_one ps_never) pss_nil)
      (pss_cons (ps_asg (pe_fn h_plan (hr.mono (by decide)) pass0 (pa_cons (pv 0) (pa_cons (pv 1) (pa_cons (pv 2) (pa_cons (pv 3) pa_nil))))) (pg_tup (by rfl) (pgs_cons (pg_name (i := 5) sc_brick_on.nd rfl (Or.inl rfl)) (pgs_cons (pg_name (i := 6) sc_brick_on.nd rfl (Or.inl rfl)) pgs_nil))))
      (pss_cons (ps_if (PW.pt (pw_and (pt_cmpR op_lt (pe_ix (r := rIxT K) ix_tup (pv 4) pe_int (fun _ _ => rfl)) (pv 5) (nomark _)) (pw_and1 (pt_cmpR op_lt (pe_ix (r := rIxT K) ix_tup (pv 4) pe_int (fun _ _ => rfl)) (pv 6) (nomark _))))) (pss_one (ps_ret (pe_tup (pa_cons (pe_tup (pa_cons (pe_op op_mulX (pe_op op_fdivW (pe_ix (r := rIxT K) ix_tup (pv 4) pe_int (fun _ _ => rfl)) (pv 2)) (pv 2)) (pa_cons (pe_op op_mulX (pe_op op_fdivW (pe_ix (r := rIxT K) ix_tup (pv 4) pe_int (fun _ _ => rfl)) (pv 3)) (pv 3)) pa_nil))) (pa_cons pe_bl pa_nil))))) pss_nil)
      (pss_cons (ps_par (i := 7) (j := 8) (by rfl) sc_brick_on.nd rfl rfl (by decide) rfl rfl (pa_cons (pe_ifExp (pt_cmpR op_eq (pv 6) (pv 1) (nomark _)) (pv 5) pe_int) (pa_cons (pe_ifExp (pt_cmpR op_eq (pv 5) (pv 0) (nomark _)) (pv 6) pe_int) pa_nil)) (by rfl))
      (pss_cons (ps_set (i := 9) sc_brick_on.nd rfl (Or.inl rfl) (pe_tup (pa_cons (pe_op op_add (pv 7) (pe_op op_mulX (pe_op op_fdivW (pe_op op_sub (pe_ix (r := rIxT K) ix_tup (pv 4) pe_int (fun _ _ => rfl)) (pv 7)) (pv 3)) (pv 3))) (pa_cons (pe_op op_add (pv 8) (pe_op op_mulX (pe_op op_fdivW (pe_op op_sub (pe_ix (r := rIxT K) ix_tup (pv 4) pe_int (fun _ _ => rfl)) (pv 8)) (pv 2)) (pv 2))) pa_nil))))
      (pss_one (ps_ret (pe_tup (pa_cons (pv 9) (pa_cons (pe_cmpR op_eq (pv 2) (pv 3) (nomark _)) pa_nil))))))))))), ?_⟩
    have pin := plan_in hL.pos hW.pos hf.pos hs.pos fr
    walk_at "rd"
    refine .mk hL hW hf hs fr fun H1 sm1 => ?_
    walk_at "rd"
    refine .mk (sm1 _ _ ht) ?_
    rw [hc]
    refine ⟨_, rfl, iteF ?_⟩
    walk_at "rd"
    refine .mk hL hW hf hs fr fun p2 H2 sm2 hp2 => ?_
    unfold brickP at q
    generalize planP L W fi se = pl at hp2 pin q
    obtain ⟨al, up⟩ := pl
    dsimp only at hp2 pin q
    have hc2 := hc
    unfold cellB at hc2
    simp only [Bool.and_eq_true, decide_eq_true_eq] at hc2
    refine ⟨p2, _, rfl, sqT hp2, rfl, ?_⟩
    have s02 := sm1.trans sm2
    have ht2 := sqT (K := K) (s02 _ _ ht)
    have Bc1 : Bn 1100000 c1 := hL.bn.of_le (by omega) (by omega)
    have Bc2 : Bn 1100000 c2 := hW.bn.of_le (by omega) (by omega)
    have Ba : Bn 1100000 al := hL.bn.of_le (by omega) (by omega)
    have Bu : Bn 1100000 up := hW.bn.of_le (by omega) (by omega)
    refine ⟨_, _, rfl, _, _, rfl, rfl, ?_⟩
    by_cases cc : c1 < al ∧ c2 < up
    · simp only [if_pos cc] at q
      refine ⟨_, rfl, t, _, 0, _, rfl, rfl, ht2, rfl, ?_⟩
      walk_at "rd"
      refine iteP cc.1 ?_
      refine ⟨_, rfl, t, _, 1, _, rfl, rfl, ht2, rfl, ?_⟩
      walk_at "rd"
      refine iteP cc.2 ?_
      refine ⟨_, rfl, t, _, 0, _, rfl, rfl, ht2, rfl, ?_⟩
      walk_at "rd"
      refine ⟨t, _, 1, _, rfl, rfl, ht2, rfl, ?_⟩
      walk_at "rd"
      intro p3 hp3
      generalize hH3 : upd H2 p3 _ = H3
      obtain ⟨sm3, up3⟩ : Same H2 H3 ∧ H3 p3 = some (.tup (cellV (c1 / fi * fi, c2 / se * se))) := newH hH3 hp3
      clear hH3
      walk_at "rd"
      exact fun p4 hp4 => q p4 p3 _ (s02.trans (sm3.trans (same_upd hp4))) upd_same (same_upd hp4 _ _ up3)
    simp only [if_neg cc] at q
    dsimp only
    refine if_no (H' := H2) (fun r hr0 => ?_) ?_
    · refine ⟨_, rfl, t, _, 0, _, rfl, rfl, ht2, rfl, ?_⟩
      walk_at "rd"
      refine iteD (fun d1 => ?_) (fun _ => hr0)
      refine ⟨_, rfl, t, _, 1, _, rfl, rfl, ht2, rfl, ?_⟩
      walk_at "rd"
      rw [show decide (c2 < up) = false from decide_eq_false fun z => cc ⟨d1, z⟩]
      exact hr0
    generalize hbe : (if up = W then al else 0) = be at q
    generalize hlo : (if al = L then up else 0) = lo at q
    have Bb : Bn 1100000 be := by rw [← hbe]; split; exact Ba; exact bn0
    have Bl : Bn 1100000 lo := by rw [← hlo]; split; exact Bu; exact bn0
    have ed : decide (V.int fi = V.int se) = decide (fi = se) := decide_eq_decide.mpr ⟨fun z => V.int.inj z, fun z => congrArg V.int z⟩
    by_cases h1 : up = W <;> by_cases h2 : al = L
    all_goals
      first | rw [if_pos h1] at hbe | rw [if_neg h1] at hbe
      first | rw [if_pos h2] at hlo | rw [if_neg h2] at hlo
      rw [← hbe] at Bb
      rw [← hlo] at Bl
      rw [← hbe, ← hlo] at q
      walk_at "rd"
      first | refine iteEq (fun _ => ?_) (fun z => absurd h1 z) | refine iteEq (fun z => absurd z h1) (fun _ => ?_)
      walk_at "rd"
      first | refine iteEq (fun _ => ?_) (fun z => absurd h2 z) | refine iteEq (fun z => absurd z h2) (fun _ => ?_)
      walk_at "rd"
      refine ⟨t, _, 0, _, rfl, rfl, ht2, rfl, ?_⟩
      walk_at "rd"
      refine ⟨t, _, 1, _, rfl, rfl, ht2, rfl, ?_⟩
      walk_at "rd"
      intro p3 hp3
      refine ⟨_, rfl, ?_⟩
      walk_at "rd"
      intro p4 hp4
      refine q p4 p3 _ (s02.trans ((same_upd hp3).trans (same_upd hp4))) ?_ ?_
      · rw [← ed]
        exact upd_same
      · exact same_upd hp4 _ _ upd_same
/-- how many lie -/
noncomputable def lieP (L W f s : Int) : Int := if f = s then L * W / (f * s) else (planP L W f s).1 * (planP L W f s).2 / (f * s)
inductive SpLying : Sp where
  | mk {L W f s : Int} {H : Hp} {Q : VK} {E : XK} (hL : Sz L) (hW : Sz W) (hf : Ss f) (hs : Ss s) (fr : Free L W f s) (q : ∀ H', Same H H' → Q (.int (lieP L W f s)) H') : SpLying [.int L, .int W, .int f, .int s] H Q E
inductive SpStanding : Sp where
  | mk {L W f s : Int} {H : Hp} {Q : VK} {E : XK} (hL : Sz L) (hW : Sz W) (hf : Ss f) (hs : Ss s) (fr : Free L W f s) (q : ∀ H', Same H H' → Q (.int (L * W / (f * s) - lieP L W f s)) H') : SpStanding [.int L, .int W, .int f, .int s] H Q E
theorem H_lying (p : Pl K mg "lying" s_lying) (h_check_laid : Has P w K mg base CX0 4 "check_laid" ["length", "width", "first", "second"] SpLaid) (h_plan : Has P w K mg base CX0 3 "plan" ["length", "width", "first", "second"] SpPlan) :
    Has P w K mg base CX0 5 "lying" ["length", "width", "first", "second"] SpLying := by
  refine p.mk0 sc_lying (fun _ _ _ _ _ _ us hl => match us, hl with | [_, _, _, _], _ => rfl) (fun vs H Q E h => ?_) (fun f cdv A outer s H vs Q E hr h => ?_)
  · cases h; rfl
  · obtain @⟨L, W, fi, se, _, _, _, hL, hW, hf, hs, fr, q⟩ := h
    refine ⟨_, (pss_cons (ps_expr (pe_fn h_check_laid (hr.mono (by decide)) pass0 (pa_cons (pv 0) (pa_cons (pv 1) (pa_cons (pv 2) (pa_cons (pv 3) pa_nil))))))
      (pss_cons (ps_asg (pe_fn h_plan (hr.mono (by decide)) pass0 (pa_cons (pv 0) (pa_cons (pv 1) (pa_cons (pv 2) (pa_cons (pv 3) pa_nil))))) (pg_tup (by rfl) (pgs_cons (pg_name (i := 4) sc_lying.nd rfl (Or.inl rfl)) (pgs_cons (pg_name (i := 5) sc_lying.nd rfl (Or.inl rfl)) pgs_nil))))
      (pss_cons (ps_if (pt_cmpR op_eq (pv 2) (pv 3) (nomark _)) (pss_one (ps_ret (pe_op op_fdivW (pe_op op_mulX (pv 0) (pv 1)) (pe_op op_mulX (pv 2) (pv 3))))) pss_nil)
      (pss_one (ps_ret (pe_op op_fdivW (pe_op op_mulX (pv 4) (pv 5)) (pe_op op_mulX (pv 2) (pv 3)))))))), ?_⟩
    have pin := plan_in hL.pos hW.pos hf.pos hs.pos fr
    walk_at "rd"
    refine .mk hL hW hf hs fr fun H1 sm1 => ?_
    walk_at "rd"
    refine .mk hL hW hf hs fr fun p2 H2 sm2 hp2 => ?_
    unfold lieP at q
    generalize planP L W fi se = pl at hp2 pin q
    obtain ⟨al, up⟩ := pl
    dsimp only at hp2 pin q
    refine ⟨p2, _, rfl, sqT hp2, rfl, ?_⟩
    have s02 := sm1.trans sm2
    have Ba : Bn 1100000 al := hL.bn.of_le (by omega) (by omega)
    have Bu : Bn 1100000 up := hW.bn.of_le (by omega) (by omega)
    have pfs : 0 < fi * se := Int.mul_pos hf.pos hs.pos
    refine ⟨_, _, rfl, _, _, rfl, rfl, ?_⟩
    walk_at "rd"
    refine iteEq (fun c => ?_) (fun c => ?_)
    · rw [if_pos c] at q
      walk_at "rd"
      exact q _ s02
    · rw [if_neg c] at q
      walk_at "rd"
      exact q _ s02
theorem H_standing (p : Pl K mg "standing" s_standing) (h_lying : Has P w K mg base CX0 5 "lying" ["length", "width", "first", "second"] SpLying) : Has P w K mg base CX0 6 "standing" ["length", "width", "first", "second"] SpStanding := by
  refine p.mk0 sc_standing (fun _ _ _ _ _ _ us hl => match us, hl with | [_, _, _, _], _ => rfl) (fun vs H Q E h => ?_) (fun f cdv A outer s H vs Q E hr h => ?_)
  · cases h; rfl
  · obtain @⟨L, W, fi, se, _, _, _, hL, hW, hf, hs, fr, q⟩ := h
    refine ⟨_, (pss_cons (ps_set (i := 4) sc_standing.nd rfl (Or.inl rfl) (pe_fn h_lying (hr.mono (by decide)) pass0 (pa_cons (pv 0) (pa_cons (pv 1) (pa_cons (pv 2) (pa_cons (pv 3) pa_nil))))))
      (pss_one (ps_ret (pe_op op_sub (pe_op op_fdivW (pe_op op_mulX (pv 0) (pv 1)) (pe_op op_mulX (pv 2) (pv 3))) (pv 4))))), ?_⟩
    have pfs : 0 < fi * se := Int.mul_pos hf.pos hs.pos
    walk_at "rd"
    refine .mk hL hW hf hs fr fun H1 sm1 => ?_
    walk_at "rd"
    exact q _ sm1
end
end BF

/-! ### floors that can be laid one way -/
namespace BF
theorem free_of {L W f s m n u v : Int} (hf : 0 < f) (hs : 0 < s) (a : L % f = 0 ∨ W % f = 0) (b : L % s = 0 ∨ W % s = 0) (r1 : Rep L f s m n) (r2 : Rep W f s u v) : Free L W f s := by
  have s1 : strB L W f = false := by
    unfold strB
    rcases a with e | e
    · rw [decide_eq_true e]; rfl
    · rw [decide_eq_true e, Bool.not_true, Bool.and_false]
  have s2 : strB L W s = false := by
    unfold strB
    rcases b with e | e
    · rw [decide_eq_true e]; rfl
    · rw [decide_eq_true e, Bool.not_true, Bool.and_false]
  refine ⟨?_, ?_⟩
  · unfold strL
    rw [s1, s2]
    rfl
  · unfold shoL
    rw [sho_no hf hs r1, sho_no hf hs r2]
    rfl
theorem plan_lie {L W f s : Int} (h1 : L % f = 0) (h2 : W % s = 0) : planP L W f s = (L, W) := by
  unfold planP
  rw [if_pos ⟨h1, h2⟩]
theorem plan_stand {L W f s : Int} (h0 : ¬ (L % f = 0 ∧ W % s = 0)) (h1 : L % s = 0) (h2 : W % f = 0) : planP L W f s = (0, 0) := by
  unfold planP
  rw [if_neg h0, if_pos ⟨h1, h2⟩]
theorem brick_lie {L W f s : Int} {c : Int × Int} (h1 : L % f = 0) (h2 : W % s = 0) (hc : cellB L W c = true) : brickP L W f s c = ⟨c.1 / f * f, c.2 / s * s, true⟩ := by
  unfold cellB at hc
  simp only [Bool.and_eq_true, decide_eq_true_eq] at hc
  unfold brickP
  rw [plan_lie h1 h2]
  rw [if_pos ⟨by omega, by omega⟩]
theorem brick_stand {L W f s : Int} {c : Int × Int} (hL : 0 < L) (hW : 0 < W) (h0 : ¬ (L % f = 0 ∧ W % s = 0)) (h1 : L % s = 0) (h2 : W % f = 0) (hc : cellB L W c = true) : brickP L W f s c = ⟨c.1 / s * s, c.2 / f * f, decide (f = s)⟩ := by
  unfold cellB at hc
  simp only [Bool.and_eq_true, decide_eq_true_eq] at hc
  unfold brickP
  rw [plan_stand h0 h1 h2]
  dsimp only
  rw [if_neg (by omega), if_neg (show ¬ (0 : Int) = W by omega), if_neg (show ¬ (0 : Int) = L by omega), Int.sub_zero, Int.sub_zero, Int.zero_add, Int.zero_add]
end BF

/-! ### the answers' own __init__ -/
namespace BF
open PySem PySem.Spec PyProof.Rows L2
section
variable {P : Program} {w : World} {K : PySem.W.Frag} {mg : Str → Option Value} {base : Heap}
theorem H_Striped___init__ (p : PlM K .striped "__init__" "Striped.__init__" s_Striped___init__) (G : ClG K mg) : HasM P w K mg base CX0 1 .striped "__init__" ["self", "which"] (SpInit K .striped) := by
  refine p.mk0 sc_Striped___init__ (fun _ _ _ _ _ _ us hl => match us, hl with | [_, _], _ => rfl) (fun vs H Q E h => ?_) (fun f cdv A outer s H vs Q E hr h => ?_)
  · cases h; rfl
  · obtain @⟨p, dx, v, _, _, _, hp, q⟩ := h
    have F := G.f .striped (by decide)
    exact ⟨_, (pss_one (ps_fld (pv 0) (pv 1) rfl)), ⟨_, rfl, _, rfl, p, _, dx, [], rfl, hp, F.c, F.no, by decide, q⟩⟩
theorem H_Short___init__ (p : PlM K .short "__init__" "Short.__init__" s_Short___init__) (G : ClG K mg) : HasM P w K mg base CX0 1 .short "__init__" ["self", "which"] (SpInit K .short) := by
  refine p.mk0 sc_Short___init__ (fun _ _ _ _ _ _ us hl => match us, hl with | [_, _], _ => rfl) (fun vs H Q E h => ?_) (fun f cdv A outer s H vs Q E hr h => ?_)
  · cases h; rfl
  · obtain @⟨p, dx, v, _, _, _, hp, q⟩ := h
    have F := G.f .short (by decide)
    exact ⟨_, (pss_one (ps_fld (pv 0) (pv 1) rfl)), ⟨_, rfl, _, rfl, p, _, dx, [], rfl, hp, F.c, F.no, by decide, q⟩⟩
theorem H_Beyond___init__ (p : PlM K .beyond "__init__" "Beyond.__init__" s_Beyond___init__) (G : ClG K mg) : HasM P w K mg base CX0 1 .beyond "__init__" ["self", "count"] (SpInit K .beyond) := by
  refine p.mk0 sc_Beyond___init__ (fun _ _ _ _ _ _ us hl => match us, hl with | [_, _], _ => rfl) (fun vs H Q E h => ?_) (fun f cdv A outer s H vs Q E hr h => ?_)
  · cases h; rfl
  · obtain @⟨p, dx, v, _, _, _, hp, q⟩ := h
    have F := G.f .beyond (by decide)
    exact ⟨_, (pss_one (ps_fld (pv 0) (pv 1) rfl)), ⟨_, rfl, _, rfl, p, _, dx, [], rfl, hp, F.c, F.no, by decide, q⟩⟩
theorem H_Twice___init__ (p : PlM K .twice "__init__" "Twice.__init__" s_Twice___init__) (G : ClG K mg) : HasM P w K mg base CX0 1 .twice "__init__" ["self", "cell"] (SpInit K .twice) := by
  refine p.mk0 sc_Twice___init__ (fun _ _ _ _ _ _ us hl => match us, hl with | [_, _], _ => rfl) (fun vs H Q E h => ?_) (fun f cdv A outer s H vs Q E hr h => ?_)
  · cases h; rfl
  · obtain @⟨p, dx, v, _, _, _, hp, q⟩ := h
    have F := G.f .twice (by decide)
    exact ⟨_, (pss_one (ps_fld (pv 0) (pv 1) rfl)), ⟨_, rfl, _, rfl, p, _, dx, [], rfl, hp, F.c, F.no, by decide, q⟩⟩
theorem H_Bare___init__ (p : PlM K .bare "__init__" "Bare.__init__" s_Bare___init__) (G : ClG K mg) : HasM P w K mg base CX0 1 .bare "__init__" ["self", "cell"] (SpInit K .bare) := by
  refine p.mk0 sc_Bare___init__ (fun _ _ _ _ _ _ us hl => match us, hl with | [_, _], _ => rfl) (fun vs H Q E h => ?_) (fun f cdv A outer s H vs Q E hr h => ?_)
  · cases h; rfl
  · obtain @⟨p, dx, v, _, _, _, hp, q⟩ := h
    have F := G.f .bare (by decide)
    exact ⟨_, (pss_one (ps_fld (pv 0) (pv 1) rfl)), ⟨_, rfl, _, rfl, p, _, dx, [], rfl, hp, F.c, F.no, by decide, q⟩⟩
end
end BF

/-! ### Laid, Striped, Short: what they show -/
namespace BF
open PySem PySem.Spec PyProof.Rows L2
/-- whether an answer is as told -/
noncomputable def due4 (L W f s : Int) : Ans → Bool
  | .laid => (strL L W f s).isEmpty && (shoL L W f s).isEmpty
  | .striped (.int i) => if i = 0 then strB L W f else if i = 1 then strB L W s else false
  | .short (.int i) => if i = 0 then shoB L f s else if i = 1 then shoB W f s else false
  | _ => false
/-- answers of these classes -/
inductive A4 : Ans → Prop where
  | laid : A4 .laid
  | striped (i : Int) : A4 (.striped (.int i))
  | short (i : Int) : A4 (.short (.int i))
inductive SpShows4 (K : PySem.W.Frag) (x : Cl) : Sp where
  | mk {p : Addr} {a : Ans} {L W f s : Int} {H : Hp} {Q : VK} {E : XK} (ha : AnsAt K H p a) (hx : a.cl = x) (h4 : A4 a) (hL : Sz L) (hW : Sz W) (hf : Sz f) (hs : Sz s) (fl : Fl L W f s) (q : ∀ H', Same H H' → Q (.bl (due4 L W f s a)) H') :
    SpShows4 K x [.ref p, .int L, .int W, .int f, .int s] H Q E
theorem two_eqv (a b c d : Bool) : PyData.eqv (.tuple [.list ((two a b).map .int), .list ((two c d).map .int)]) (.tuple [.list [], .list []]) = ((two a b).isEmpty && (two c d).isEmpty) := by
  cases a <;> cases b <;> cases c <;> cases d <;> rfl
theorem two_shaped (a b c d : Bool) : SeqAt.shaped (.tuple [.list ((two a b).map .int), .list ((two c d).map .int)]) = true := by
  cases a <;> cases b <;> cases c <;> cases d <;> rfl
theorem in01 (i : Int) : inV (.int i) [.int 0, .int 1] = (decide (i = 0) || decide (i = 1)) := by
  by_cases h0 : i = 0
  · subst h0; rfl
  · by_cases h1 : i = 1
    · subst h1; rfl
    · rw [decide_eq_false h0, decide_eq_false h1]
      have e0 : ((0 : Int) == i) = false := beq_eq_false_iff_ne.mpr (Ne.symm h0)
      have e1 : ((1 : Int) == i) = false := beq_eq_false_iff_ne.mpr (Ne.symm h1)
      show (((0 : Int) == i) || (((1 : Int) == i) || false)) = (false || false)
      rw [e0, e1]
      rfl
section
variable {P : Program} {w : World} {K : PySem.W.Frag} {mg : Str → Option Value} {base : Heap}
theorem H_Laid_shows (p : PlM K .laid "shows" "Laid.shows" s_Laid_shows) (h_what_bars : Has P w K mg base CX0 3 "what_bars" ["length", "width", "first", "second"] SpBars) :
    HasM P w K mg base CX0 4 .laid "shows" ["self", "length", "width", "first", "second"] (SpShows4 K .laid) := by
  refine p.mk0 sc_Laid_shows (fun _ _ _ _ _ _ us hl => match us, hl with | [_, _, _, _, _], _ => rfl) (fun vs H Q E h => ?_) (fun f cdv A outer s H vs Q E hr h => ?_)
  · cases h; rfl
  · obtain @⟨p, a, L, W, fi, se, _, _, _, ha, hx, h4, hL, hW, hf, hs, fl, q⟩ := h
    refine ⟨_, (pss_one (ps_ret (pe_cmpR (r := rEqD K) (op_eqD hr.units) (pe_fn h_what_bars (hr.mono (by decide)) pass0 (pa_cons (pv 1) (pa_cons (pv 2) (pa_cons (pv 3) (pa_cons (pv 4) pa_nil))))) (pe_tup (pa_cons (pe_lst pa_nil) (pa_cons (pe_lst pa_nil) pa_nil))) (nomark _)))), ?_⟩
    cases h4 with
    | striped i => cases hx
    | short i => cases hx
    | laid =>
      walk_at "rd"
      refine .mk hL hW hf hs fl fun t p1 p2 H1 sm1 ht hp1 hp2 => ?_
      walk_at "rd"
      intro l1 hl1
      generalize hH2 : upd H1 l1 _ = H2
      obtain ⟨sm2, up2⟩ : Same H1 H2 ∧ H2 l1 = some (.lst []) := newH hH2 hl1
      clear hH2
      walk_at "rd"
      intro l2 hl2
      generalize hH3 : upd H2 l2 _ = H3
      obtain ⟨sm3, up3⟩ : Same H2 H3 ∧ H3 l2 = some (.lst []) := newH hH3 hl2
      clear hH3
      walk_at "rd"
      intro l3 hl3
      generalize hH4 : upd H3 l3 _ = H4
      obtain ⟨sm4, up4⟩ : Same H3 H4 ∧ H4 l3 = some (.tup [.ref l1, .ref l2]) := newH hH4 hl3
      clear hH4
      have smA : Same H1 H4 := sm2.trans (sm3.trans sm4)
      refine ⟨.tuple [.list ((strL L W fi se).map .int), .list ((shoL L W fi se).map .int)], .tuple [.list [], .list []],
        .tup (sqT (smA _ _ ht)) (.cons (.lst (sqL (smA _ _ hp1)) (dp_ints _)) (.cons (.lst (sqL (smA _ _ hp2)) (dp_ints _)) .nil)), .tup (sqT up4) (.cons (.lst (sqL (sm4 _ _ (sm3 _ _ up2))) .nil) (.cons (.lst (sqL (sm4 _ _ up3)) .nil) .nil)), two_shaped _ _ _ _, rfl, ?_⟩
      have e : PyData.eqv (.tuple [.list ((strL L W fi se).map .int), .list ((shoL L W fi se).map .int)]) (.tuple [.list [], .list []]) = due4 L W fi se .laid := two_eqv _ _ _ _
      rw [e]
      exact q _ (sm1.trans smA)
theorem H_Striped_shows (p : PlM K .striped "shows" "Striped.shows" s_Striped_shows) (G : ClG K mg) (h_is_striped : Has P w K mg base CX0 1 "is_striped" ["length", "width", "side"] SpStriped) :
    HasM P w K mg base CX0 2 .striped "shows" ["self", "length", "width", "first", "second"] (SpShows4 K .striped) := by
  refine p.mk0 sc_Striped_shows (fun _ _ _ _ _ _ us hl => match us, hl with | [_, _, _, _, _], _ => rfl) (fun vs H Q E h => ?_) (fun f cdv A outer s H vs Q E hr h => ?_)
  · cases h; rfl
  · obtain @⟨p, a, L, W, fi, se, _, _, _, ha, hx, h4, hL, hW, hf, hs, fl, q⟩ := h
    refine ⟨_, (pss_one (ps_ret (pe_and (pe_cmpR (r := rIn K false) op_in_seq (pe_fld (pv 0) rfl) (pe_tup (pa_cons pe_int (pa_cons pe_int pa_nil))) (by rfl)) (pe_one (pe_fn h_is_striped (hr.mono (by decide)) pass0 (pa_cons (pv 1) (pa_cons (pv 2) (pa_cons (pe_ix (r := rIxT K) ix_tup (pe_tup (pa_cons (pv 3) (pa_cons (pv 4) pa_nil))) (pe_fld (pv 0) rfl) (fun _ _ => rfl)) pa_nil)))))))), ?_⟩
    cases h4 with
    | laid => cases hx
    | short i => cases hx
    | striped i =>
      obtain ⟨dx, hp⟩ := ha
      have F := G.f .striped (by decide)
      refine ⟨_, rfl, p, _, dx, _, _, rfl, hp, F.c, F.no, rfl, ?_⟩
      walk_at "rd"
      intro l1 hl1
      generalize hH1 : upd H l1 _ = H1
      obtain ⟨sm1, up1⟩ : Same H H1 ∧ H1 l1 = some (.tup [.int 0, .int 1]) := newH hH1 hl1
      clear hH1
      refine ⟨l1, _, rfl, .inr (sqT up1), rfl, rfl, _, rfl, ?_⟩
      rw [show (if false = true then !inV (.int i) [.int 0, .int 1] else inV (.int i) [.int 0, .int 1]) = (decide (i = 0) || decide (i = 1)) from in01 i]
      refine iteB (fun c => ?_) (fun c => ?_)
      · walk_at "rd"
        intro l2 hl2
        generalize hH2 : upd H1 l2 _ = H2
        obtain ⟨sm2, up2⟩ : Same H1 H2 ∧ H2 l2 = some (.tup [.int fi, .int se]) := newH hH2 hl2
        clear hH2
        have c2 : i = 0 ∨ i = 1 := by simpa using c
        refine ⟨_, rfl, p, _, dx, _, _, rfl, sm2 _ _ (sm1 _ _ hp), F.c, F.no, rfl, ?_⟩
        rcases c2 with rfl | rfl
        · exact ⟨l2, _, 0, .int fi, rfl, rfl, sqT up2, rfl, .mk hf.pos (q _ (sm1.trans sm2))⟩
        · exact ⟨l2, _, 1, .int se, rfl, rfl, sqT up2, rfl, .mk hs.pos (q _ (sm1.trans sm2))⟩
      · have c2 : ¬ i = 0 ∧ ¬ i = 1 := by simpa using c
        have e : due4 L W fi se (.striped (.int i)) = false := by
          show (if i = 0 then strB L W fi else if i = 1 then strB L W se else false) = false
          rw [if_neg c2.1, if_neg c2.2]
        rw [e] at q
        exact q _ sm1
theorem H_Short_shows (p : PlM K .short "shows" "Short.shows" s_Short_shows) (G : ClG K mg) (h_parts_of : Has P w K mg base CX0 2 "parts_of" ["size", "first", "second"] SpParts) :
    HasM P w K mg base CX0 3 .short "shows" ["self", "length", "width", "first", "second"] (SpShows4 K .short) := by
  refine p.mk0 sc_Short_shows (fun _ _ _ _ _ _ us hl => match us, hl with | [_, _, _, _, _], _ => rfl) (fun vs H Q E h => ?_) (fun f cdv A outer s H vs Q E hr h => ?_)
  · cases h; rfl
  · obtain @⟨p, a, L, W, fi, se, _, _, _, ha, hx, h4, hL, hW, hf, hs, fl, q⟩ := h
    refine ⟨_, (pss_one (ps_ret (pe_and (pe_cmpR (r := rIn K false) op_in_seq (pe_fld (pv 0) rfl) (pe_tup (pa_cons pe_int (pa_cons pe_int pa_nil))) (by rfl)) (pe_one (pe_cmpR op_isN (pe_fn h_parts_of (hr.mono (by decide)) pass0 (pa_cons (pe_ix (r := rIxT K) ix_tup (pe_tup (pa_cons (pv 1) (pa_cons (pv 2) pa_nil))) (pe_fld (pv 0) rfl) (fun _ _ => rfl)) (pa_cons (pv 3) (pa_cons (pv 4) pa_nil)))) pe_non (nomark _)))))), ?_⟩
    cases h4 with
    | laid => cases hx
    | striped i => cases hx
    | short i =>
      obtain ⟨dx, hp⟩ := ha
      have F := G.f .short (by decide)
      have ev : ∀ (d : Int) (v : V) (H' : Hp), Told (parts d fi se) H' v → (decide (v = .non)) = shoB d fi se := fun d v H' tv => by
        unfold shoB
        cases hp : parts d fi se with
        | none =>
          rw [hp] at tv
          obtain rfl : v = .non := tv
          rfl
        | some y =>
          rw [hp] at tv
          obtain ⟨p5, rfl, _⟩ := tv
          rfl
      refine ⟨_, rfl, p, _, dx, _, _, rfl, hp, F.c, F.no, rfl, ?_⟩
      walk_at "rd"
      intro l1 hl1
      generalize hH1 : upd H l1 _ = H1
      obtain ⟨sm1, up1⟩ : Same H H1 ∧ H1 l1 = some (.tup [.int 0, .int 1]) := newH hH1 hl1
      clear hH1
      refine ⟨l1, _, rfl, .inr (sqT up1), rfl, rfl, _, rfl, ?_⟩
      rw [show (if false = true then !inV (.int i) [.int 0, .int 1] else inV (.int i) [.int 0, .int 1]) = (decide (i = 0) || decide (i = 1)) from in01 i]
      refine iteB (fun c => ?_) (fun c => ?_)
      · walk_at "rd"
        intro l2 hl2
        generalize hH2 : upd H1 l2 _ = H2
        obtain ⟨sm2, up2⟩ : Same H1 H2 ∧ H2 l2 = some (.tup [.int L, .int W]) := newH hH2 hl2
        clear hH2
        have c2 : i = 0 ∨ i = 1 := by simpa using c
        refine ⟨_, rfl, p, _, dx, _, _, rfl, sm2 _ _ (sm1 _ _ hp), F.c, F.no, rfl, ?_⟩
        rcases c2 with rfl | rfl
        · refine ⟨l2, _, 0, .int L, rfl, rfl, sqT up2, rfl, _, rfl, _, rfl, .mk hL hf hs fl.sm fl.l (tell_of fun v H5 sm5 tv => ⟨rfl, ?_⟩)⟩
          rw [ev L v H5 tv]
          exact q _ (sm1.trans (sm2.trans sm5))
        · refine ⟨l2, _, 1, .int W, rfl, rfl, sqT up2, rfl, _, rfl, _, rfl, .mk hW hf hs fl.sm fl.w (tell_of fun v H5 sm5 tv => ⟨rfl, ?_⟩)⟩
          rw [ev W v H5 tv]
          exact q _ (sm1.trans (sm2.trans sm5))
      · have c2 : ¬ i = 0 ∧ ¬ i = 1 := by simpa using c
        have e : due4 L W fi se (.short (.int i)) = false := by
          show (if i = 0 then shoB L fi se else if i = 1 then shoB W fi se else false) = false
          rw [if_neg c2.1, if_neg c2.2]
        rw [e] at q
        exact q _ sm1
theorem H_shows4 (G : ClG K mg) (p1 : PlM K .laid "shows" "Laid.shows" s_Laid_shows) (p2 : PlM K .striped "shows" "Striped.shows" s_Striped_shows) (p3 : PlM K .short "shows" "Short.shows" s_Short_shows)
    (h_what_bars : Has P w K mg base CX0 3 "what_bars" ["length", "width", "first", "second"] SpBars) (h_is_striped : Has P w K mg base CX0 1 "is_striped" ["length", "width", "side"] SpStriped)
    (h_parts_of : Has P w K mg base CX0 2 "parts_of" ["size", "first", "second"] SpParts) : ∀ x, Ok4 x → HasM P w K mg base CX0 4 x "shows" ["self", "length", "width", "first", "second"] (SpShows4 K x) := by
  intro x hx
  have e : x = .laid ∨ x = .striped ∨ x = .short := by simpa [Ok4] using hx
  rcases e with rfl | rfl | rfl
  · exact H_Laid_shows p1 h_what_bars
  · exact (H_Striped_shows p2 G h_is_striped).mono (by decide)
  · exact (H_Short_shows p3 G h_parts_of).mono (by decide)
end
end BF

/-! ### Full, Beyond, Twice, Bare: what they show -/
namespace BF
open PySem PySem.Spec PyProof.Rows L2
/-- an answer of a judged list -/
inductive D5 where
  | full
  | beyond (i : Int)
  | twice (c : Int × Int)
  | bare (c : Int × Int)
def D5.cl : D5 → Cl
  | .full => .full
  | .beyond _ => .beyond
  | .twice _ => .twice
  | .bare _ => .bare
theorem D5.ok (d : D5) : Ok5 d.cl := by
  unfold Ok5
  cases d <;> simp [D5.cl]
/-- such an answer at an address -/
inductive At5 (K : PySem.W.Frag) (H : Hp) (p : Addr) : D5 → Prop where
  | full (h : AnsAt K H p .full) : At5 K H p .full
  | beyond {i : Int} (h : AnsAt K H p (.beyond (.int i))) : At5 K H p (.beyond i)
  | twice {t : Addr} {c : Int × Int} (h : AnsAt K H p (.twice (.ref t))) (ht : H t = some (.tup (cellV c))) : At5 K H p (.twice c)
  | bare {t : Addr} {c : Int × Int} (h : AnsAt K H p (.bare (.ref t))) (ht : H t = some (.tup (cellV c))) : At5 K H p (.bare c)
theorem At5.mono {K : PySem.W.Frag} {H H' : Hp} {p : Addr} {d : D5} (h : At5 K H p d) (sm : Same H H') : At5 K H' p d := by
  cases h with
  | full h => exact .full (h.mono sm)
  | beyond h => exact .beyond (h.mono sm)
  | twice h ht => exact .twice (h.mono sm) (sm _ _ ht)
  | bare h ht => exact .bare (h.mono sm) (sm _ _ ht)
def fullB (L W f s : Int) (bs : List Brick) : Bool := !(bs.any (beyB L W f s)) && (gridL L W).all fun c => decide (oftN f s bs c = 1)
def beyAt (L W f s : Int) (bs : List Brick) (i : Int) : Bool := (decide (0 ≤ i) && decide (i < bs.length)) && (match bs[i.toNat]? with
  | some b => beyB L W f s b
  | none => false)
def due5 (L W f s : Int) (bs : List Brick) : D5 → Bool
  | .full => fullB L W f s bs
  | .beyond i => beyAt L W f s bs i
  | .twice c => cellB L W c && decide (1 < oftN f s bs c)
  | .bare c => cellB L W c && decide (oftN f s bs c = 0)
inductive SpShows5 (K : PySem.W.Frag) (x : Cl) : Sp where
  | mk {p l : Addr} {d : D5} {ps : List (Addr × Brick)} {L W f s : Int} {H : Hp} {Q : VK} {E : XK} (ha : At5 K H p d) (hx : d.cl = x) (hL : 0 < L ∧ L ≤ 1000) (hW : 0 < W ∧ W ≤ 1000) (hf : 0 < f) (hs : 0 < s) (hl : SqL K H l (refs ps)) (hb : BrAll K H ps) (hn : ps.length ≤ 10000)
      (q : ∀ H', Same H H' → Q (.bl (due5 L W f s (vals ps) d)) H') : SpShows5 K x [.ref p, .int L, .int W, .int f, .int s, .ref l] H Q E
section
variable {P : Program} {w : World} {K : PySem.W.Frag} {mg : Str → Option Value} {base : Heap}
theorem H_Beyond_shows (p : PlM K .beyond "shows" "Beyond.shows" s_Beyond_shows) (B : Bi mg) (G : ClG K mg) (h_is_beyond : Has P w K mg base CX0 1 "is_beyond" ["length", "width", "first", "second", "brick"] (SpBeyond K)) :
    HasM P w K mg base CX0 2 .beyond "shows" ["self", "length", "width", "first", "second", "bricks"] (SpShows5 K .beyond) := by
  refine p.mk0 sc_Beyond_shows (fun _ _ _ _ _ _ us hl => match us, hl with | [_, _, _, _, _, _], _ => rfl) (fun vs H Q E h => ?_) (fun f cdv A outer s H vs Q E hr h => ?_)
  · cases h; rfl
  · obtain @⟨p, l, d, ps, L, W, fi, se, _, _, _, ha, hx, hL, hW, hf, hs, hl, hb, hn, q⟩ := h
    refine ⟨_, (pss_one (ps_ret (pe_and (pe_chain op_le op_lt pe_int (pe_fld (pv 0) rfl) (pe_callB (r := rLen2 K) call_len_seq (by rfl) B.len PySem.boot_len (pa_cons (pv 5) pa_nil))) (pe_one (pe_fn h_is_beyond (hr.mono (by decide)) pass0 (pa_cons (pv 1) (pa_cons (pv 2) (pa_cons (pv 3) (pa_cons (pv 4) (pa_cons (pe_ix (r := rIxL K) ix_list (pv 5) (pe_fld (pv 0) rfl) (fun _ _ => rfl)) pa_nil)))))))))), ?_⟩
    cases ha with
    | full h => cases hx
    | twice h ht => cases hx
    | bare h ht => cases hx
    | @beyond i h =>
      obtain ⟨dx, hp⟩ := h
      have F := G.f .beyond (by decide)
      have q : ∀ H', Same H H' → Q (.bl (beyAt L W fi se (vals ps) i)) H' := q
      unfold beyAt at q
      rw [vals_len] at q
      refine ⟨_, rfl, p, _, dx, _, _, rfl, hp, F.c, F.no, rfl, ?_⟩
      walk_at "rd"
      refine iteD (fun c => ?_) (fun c => ?_)
      · have c : 0 ≤ i := c
        simp only [decide_eq_true c, Bool.true_and] at q
        refine ⟨_, rfl, l, _, rfl, .inl hl, ?_⟩
        walk_at "rd"
        rw [refs_len]
        refine iteD (fun c2 => ?_) (fun c2 => ?_)
        · have c2 : i < (ps.length : Int) := c2
          simp only [decide_eq_true c2, Bool.true_and] at q
          walk_at "rd"
          obtain ⟨n, rfl⟩ := Int.eq_ofNat_of_zero_le c
          have hlt : n < ps.length := by omega
          have hpn : ps[n]? = some ps[n] := List.getElem?_eq_getElem hlt
          have hv : (vals ps)[(n : Int).toNat]? = some ps[n].2 := by
            unfold vals
            rw [Int.toNat_natCast, List.getElem?_map, hpn]
            rfl
          rw [hv] at q
          have hrv : (refs ps)[n]? = some (.ref ps[n].1) := by
            unfold refs
            rw [List.getElem?_map, hpn]
            rfl
          refine ⟨p, _, dx, _, _, rfl, hp, F.c, F.no, rfl, l, _, _, _, rfl, rfl, hl, atI_nat hrv, ?_⟩
          exact .mk (hb _ (List.getElem_mem hlt)) q
        · have c2 : ¬ i < (ps.length : Int) := c2
          simp only [decide_eq_false c2, Bool.false_and] at q
          exact q _ (Same.refl _)
      · have c : ¬ 0 ≤ i := c
        simp only [decide_eq_false c, Bool.false_and] at q
        exact ⟨_, rfl, iteF (q _ (Same.refl _))⟩
theorem H_Twice_shows (p : PlM K .twice "shows" "Twice.shows" s_Twice_shows) (G : ClG K mg) (h_is_cell : Has P w K mg base CX0 2 "is_cell" ["length", "width", "thing"] SpIsCell) (h_often : Has P w K mg base CX0 2 "often" ["first", "second", "bricks", "cell"] (SpOften K)) :
    HasM P w K mg base CX0 3 .twice "shows" ["self", "length", "width", "first", "second", "bricks"] (SpShows5 K .twice) := by
  refine p.mk0 sc_Twice_shows (fun _ _ _ _ _ _ us hl => match us, hl with | [_, _, _, _, _, _], _ => rfl) (fun vs H Q E h => ?_) (fun f cdv A outer s H vs Q E hr h => ?_)
  · cases h; rfl
  · obtain @⟨p, l, d, ps, L, W, fi, se, _, _, _, ha, hx, hL, hW, hf, hs, hl, hb, hn, q⟩ := h
    refine ⟨_, (pss_one (ps_ret (pe_and (pe_fn h_is_cell (hr.mono (by decide)) pass0 (pa_cons (pv 1) (pa_cons (pv 2) (pa_cons (pe_fld (pv 0) rfl) pa_nil)))) (pe_one (pe_cmpR op_gt (pe_fn h_often (hr.mono (by decide)) pass0 (pa_cons (pv 3) (pa_cons (pv 4) (pa_cons (pv 5) (pa_cons (pe_fld (pv 0) rfl) pa_nil))))) pe_int (nomark _)))))), ?_⟩
    cases ha with
    | full h => cases hx
    | beyond h => cases hx
    | bare h ht => cases hx
    | @twice t c h ht =>
      obtain ⟨dx, hp⟩ := h
      have F := G.f .twice (by decide)
      have q : ∀ H', Same H H' → Q (.bl (cellB L W c && decide (1 < oftN fi se (vals ps) c))) H' := q
      refine ⟨_, rfl, _, rfl, _, rfl, p, _, dx, _, _, rfl, hp, F.c, F.no, rfl, .mk ht ⟨_, rfl, iteB (fun c1 => ?_) (fun c1 => ?_)⟩⟩
      · rw [c1] at q
        refine ⟨_, rfl, _, rfl, _, rfl, _, rfl, p, _, dx, _, _, rfl, hp, F.c, F.no, rfl, .mk hl hb hn (sqT ht) fun H1 sm1 => ?_⟩
        walk_at "rd"
        have e : decide ((1 : Int) < (oftN fi se (vals ps) c : Nat)) = decide (1 < oftN fi se (vals ps) c) := decide_eq_decide.mpr (by omega)
        show Q (.bl (decide ((1 : Int) < (oftN fi se (vals ps) c : Nat)))) H1
        rw [e]
        exact q _ sm1
      · rw [c1] at q
        exact q _ (Same.refl _)
theorem H_Bare_shows (p : PlM K .bare "shows" "Bare.shows" s_Bare_shows) (G : ClG K mg) (h_is_cell : Has P w K mg base CX0 2 "is_cell" ["length", "width", "thing"] SpIsCell) (h_often : Has P w K mg base CX0 2 "often" ["first", "second", "bricks", "cell"] (SpOften K)) :
    HasM P w K mg base CX0 3 .bare "shows" ["self", "length", "width", "first", "second", "bricks"] (SpShows5 K .bare) := by
  refine p.mk0 sc_Bare_shows (fun _ _ _ _ _ _ us hl => match us, hl with | [_, _, _, _, _, _], _ => rfl) (fun vs H Q E h => ?_) (fun f cdv A outer s H vs Q E hr h => ?_)
  · cases h; rfl
  · obtain @⟨p, l, d, ps, L, W, fi, se, _, _, _, ha, hx, hL, hW, hf, hs, hl, hb, hn, q⟩ := h
    refine ⟨_, (pss_one (ps_ret (pe_and (pe_fn h_is_cell (hr.mono (by decide)) pass0 (pa_cons (pv 1) (pa_cons (pv 2) (pa_cons (pe_fld (pv 0) rfl) pa_nil)))) (pe_one (pe_cmpR op_eq (pe_fn h_often (hr.mono (by decide)) pass0 (pa_cons (pv 3) (pa_cons (pv 4) (pa_cons (pv 5) (pa_cons (pe_fld (pv 0) rfl) pa_nil))))) pe_int (nomark _)))))), ?_⟩
    cases ha with
    | full h => cases hx
    | beyond h => cases hx
    | twice h ht => cases hx
    | @bare t c h ht =>
      obtain ⟨dx, hp⟩ := h
      have F := G.f .bare (by decide)
      have q : ∀ H', Same H H' → Q (.bl (cellB L W c && decide (oftN fi se (vals ps) c = 0))) H' := q
      refine ⟨_, rfl, _, rfl, _, rfl, p, _, dx, _, _, rfl, hp, F.c, F.no, rfl, .mk ht ⟨_, rfl, iteB (fun c1 => ?_) (fun c1 => ?_)⟩⟩
      · rw [c1] at q
        refine ⟨_, rfl, _, rfl, _, rfl, _, rfl, p, _, dx, _, _, rfl, hp, F.c, F.no, rfl, .mk hl hb hn (sqT ht) fun H1 sm1 => ?_⟩
        walk_at "rd"
        have e : decide (V.int (oftN fi se (vals ps) c : Nat) = V.int 0) = decide (oftN fi se (vals ps) c = 0) := decide_eq_decide.mpr ⟨fun z => by have := V.int.inj z; omega, fun z => by rw [z]; rfl⟩
        show Q (.bl (decide (V.int (oftN fi se (vals ps) c : Nat) = V.int 0))) H1
        rw [e]
        exact q _ sm1
      · rw [c1] at q
        exact q _ (Same.refl _)
end
/-- a cell as a key -/
def keyL (c : Int × Int) : List Key := [Sum.inl c.1, Sum.inl c.2]
theorem key_inj {c d : Int × Int} (h : keyL c = keyL d) : c = d := by
  obtain ⟨a, b⟩ := c
  obtain ⟨a', b'⟩ := d
  unfold keyL at h
  injection h with h1 h2
  injection h2 with h2 h3
  injection h1 with h1
  injection h2 with h2
  simp only at h1 h2
  rw [h1, h2]
theorem find_key {kvs : List (List Key × V)} {cs : List (Int × Int)} (hk : kvs.map (·.1) = cs.map keyL) (c : Int × Int) : (valV kvs (keyL c)).isSome = true ↔ c ∈ cs := by
  unfold valV
  rw [Option.isSome_map, List.find?_isSome]
  constructor
  · rintro ⟨kv, hkv, e⟩
    have m : kv.1 ∈ kvs.map (·.1) := List.mem_map_of_mem hkv
    rw [hk] at m
    obtain ⟨d, hd, ed⟩ := List.mem_map.mp m
    have e2 : kv.1 = keyL c := of_decide_eq_true e
    rw [e2] at ed
    rw [← key_inj ed]
    exact hd
  · intro h
    have m : keyL c ∈ kvs.map (·.1) := by
      rw [hk]
      exact List.mem_map_of_mem h
    obtain ⟨kv, hkv, e⟩ := List.mem_map.mp m
    exact ⟨kv, hkv, decide_eq_true e⟩
theorem put_key {kvs : List (List Key × V)} {cs : List (Int × Int)} (hk : kvs.map (·.1) = cs.map keyL) {c : Int × Int} (hc : c ∉ cs) (v : V) : (putK kvs (keyL c) v).map (·.1) = (cs ++ [c]).map keyL := by
  unfold putK
  have no : ¬ (kvs.any fun kv => decide (kv.1 = keyL c)) = true := by
    intro h
    obtain ⟨kv, hkv, e⟩ := List.any_eq_true.mp h
    have m : kv.1 ∈ kvs.map (·.1) := List.mem_map_of_mem hkv
    rw [hk] at m
    obtain ⟨d, hd, ed⟩ := List.mem_map.mp m
    have e2 : kv.1 = keyL c := of_decide_eq_true e
    rw [e2] at ed
    rw [← key_inj ed] at hc
    exact hc hd
  rw [if_neg no, List.map_append, hk, List.map_append]
  rfl
theorem keys_len {kvs : List (List Key × V)} {cs : List (Int × Int)} (hk : kvs.map (·.1) = cs.map keyL) : kvs.length = cs.length := by
  have := congrArg List.length hk
  rw [List.length_map, List.length_map] at this
  exact this
theorem fullB_eq {L W f s : Int} (hL : 0 < L) (hW : 0 < W) (hf : 0 < f) (hs : 0 < s) {bs : List Brick} (hb : ∀ b ∈ bs, beyB L W f s b = false) :
    fullB L W f s bs = true ↔ ((allL f s bs).Nodup ∧ ((allL f s bs).length : Int) = L * W) := by
  rw [full_iff hL hW hf hs hb]
  have na : bs.any (beyB L W f s) = false := by
    rw [List.any_eq_false]
    intro b hbm
    rw [hb b hbm]
    decide
  unfold fullB
  rw [na]
  show (gridL L W).all (fun c => decide (oftN f s bs c = 1)) = true ↔ _
  rw [List.all_eq_true]
  constructor
  · intro h c hc
    exact of_decide_eq_true (h c ((mem_grid (by omega) (by omega)).mpr hc))
  · intro h c hc
    exact decide_eq_true (h c ((mem_grid (by omega) (by omega)).mp hc))
theorem all_take {f s : Int} {ps : List (Addr × Brick)} {i : Nat} {p : Addr × Brick} (h : ps[i]? = some p) : allL f s ((vals ps).take (i + 1)) = allL f s ((vals ps).take i) ++ cellsL f s p.2 := by
  have et : (vals ps).take (i + 1) = (vals ps).take i ++ [p.2] := by
    unfold vals
    rw [List.take_add_one, List.getElem?_map, h]
    rfl
  unfold allL
  rw [et, List.flatMap_append]
  simp
theorem all_split {f s : Int} {ps : List (Addr × Brick)} {i : Nat} {p : Addr × Brick} (h : ps[i]? = some p) : ∃ r, allL f s (vals ps) = allL f s ((vals ps).take i) ++ (cellsL f s p.2 ++ r) := by
  have e : vals ps = (vals ps).take (i + 1) ++ (vals ps).drop (i + 1) := (List.take_append_drop _ _).symm
  refine ⟨allL f s ((vals ps).drop (i + 1)), ?_⟩
  have e2 : allL f s (vals ps) = allL f s ((vals ps).take (i + 1)) ++ allL f s ((vals ps).drop (i + 1)) := by
    unfold allL
    rw [← List.flatMap_append, List.take_append_drop]
  rw [e2, all_take h, List.append_assoc]
/-- cells on a floor of a few thousands: no more than the floor has -/
theorem nodup_len {L W : Int} (hL : 0 ≤ L ∧ L ≤ 1000) (hW : 0 ≤ W ∧ W ≤ 1000) {cs : List (Int × Int)} (nd : cs.Nodup) (h : ∀ c ∈ cs, cellB L W c = true) : cs.length ≤ 1000000 := by
  have g1 : ∀ c, (gridL L W).count c ≤ 1 := fun c => by
    rw [grid_count hL.1 hW.1]
    split <;> omega
  have sm := sum_counts g1 (all := cs) fun c hc => (mem_grid hL.1 hW.1).mpr (h c hc)
  have le : ∀ g : List (Int × Int), (g.map fun c => cs.count c).sum ≤ g.length := by
    intro g
    induction g with
    | nil => exact Nat.le_refl _
    | cons b g ih =>
      rw [List.map_cons, List.sum_cons, List.length_cons]
      have := List.nodup_iff_count.mp nd b
      omega
  have l1 := le (gridL L W)
  have gl : (gridL L W).length = L.toNat * W.toNat := by
    unfold gridL
    rw [cols_len]
  have := Nat.mul_le_mul (show L.toNat ≤ 1000 by omega) (show W.toNat ≤ 1000 by omega)
  omega
inductive SeenI (p l S : Addr) (L W fi se : Int) (ps : List (Addr × Brick)) (H : Hp) (i : Nat) : L2.St → Hp → Prop where
  | mk {H' : Hp} {z u : Option V} {kvs : List (List Key × V)} (sm : Same H H') (hS : H' S = some (.dT kvs)) (hk : kvs.map (·.1) = (allL fi se ((vals ps).take i)).map keyL) (nd : (allL fi se ((vals ps).take i)).Nodup) :
    SeenI p l S L W fi se ps H i [some (.ref p), some (.int L), some (.int W), some (.int fi), some (.int se), some (.ref l), some (.ref S), z, u] H'
inductive SeenJ (p l S o : Addr) (L W fi se : Int) (ps : List (Addr × Brick)) (cs : List (Int × Int)) (H : Hp) (i j : Nat) : L2.St → Hp → Prop where
  | mk {H' : Hp} {u : Option V} {kvs : List (List Key × V)} (sm : Same H H') (hS : H' S = some (.dT kvs)) (hk : kvs.map (·.1) = (allL fi se ((vals ps).take i) ++ cs.take j).map keyL) (nd : (allL fi se ((vals ps).take i) ++ cs.take j).Nodup) :
    SeenJ p l S o L W fi se ps cs H i j [some (.ref p), some (.int L), some (.int W), some (.int fi), some (.int se), some (.ref l), some (.ref S), some (.ref o), u] H'
section
variable {P : Program} {w : World} {K : PySem.W.Frag} {mg : Str → Option Value} {base : Heap}
theorem H_Full_shows (p : PlM K .full "shows" "Full.shows" s_Full_shows) (B : Bi mg) (h_is_beyond : Has P w K mg base CX0 1 "is_beyond" ["length", "width", "first", "second", "brick"] (SpBeyond K)) (h_cells_of : Has P w K mg base CX0 1 "cells_of" ["first", "second", "brick"] (SpCells K)) :
    HasM P w K mg base CX0 2 .full "shows" ["self", "length", "width", "first", "second", "bricks"] (SpShows5 K .full) := by
  refine p.mk0 sc_Full_shows (fun _ _ _ _ _ _ us hl => match us, hl with | [_, _, _, _, _, _], _ => rfl) (fun vs H Q E h => ?_) (fun f cdv A outer s H vs Q E hr h => ?_)
  · cases h; rfl
  · obtain @⟨p, l, d, ps, L, W, fi, se, _, _, _, ha, hx, hL, hW, hf, hs, hl, hb, hn, q⟩ := h
    refine ⟨_, (pss_cons (ps_if (pt_val (pe_callB (cr_any rfl) (by rfl) B.any (by decide +kernel) (pa_cons (pe_lc (own := [("brick", 7)]) (by rfl) sc_Full_shows.nd (pi_list (pv 5)) (blkOk_by (own := [("brick", 7)]) (N := ["self", "length", "width", "first", "second", "bricks", "seen", "brick", "cell"]) (sc := defScope s_Full_shows) (by decide +kernel)) (fun _ _ _ _ _ => (pg_name (i := 7) sc_Full_shows.nd rfl (Or.inl rfl))) (fun _ _ _ _ _ => pts_nil) (fun _ _ _ _ _ => (pe_fn h_is_beyond (hr.mono (by decide)) pass0 (pa_cons (pv 1) (pa_cons (pv 2) (pa_cons (pv 3) (pa_cons (pv 4) (pa_cons (pv 7) pa_nil)))))))) pa_nil))) (pss_one (ps_ret pe_bl)) pss_nil)
      (pss_cons (ps_set (i := 6) sc_Full_shows.nd rfl (Or.inl rfl) pe_dnewT)
      (pss_cons (ps_for PassesOwn.never (by rfl) (pi_list (pv 5)) (pg_name (i := 7) sc_Full_shows.nd rfl (Or.inl rfl)) (pss_one (ps_for PassesOwn.never (by rfl) (pi_list (pe_fn h_cells_of (hr.mono (by decide)) pass0 (pa_cons (pv 3) (pa_cons (pv 4) (pa_cons (pv 7) pa_nil))))) (pg_name (i := 8) sc_Full_shows.nd rfl (Or.inl rfl)) (pss_cons (ps_if (pt_cmp (pc_din (hu_of hr) (pv 8) (pv 6))) (pss_one (ps_ret pe_bl)) pss_nil)
      (pss_one (ps_dput (hu_of hr) (pv 6) (pv 8) pe_bl rfl))))))
      (pss_one (ps_ret (pe_cmpR op_eq (pe_callB call_len_dT (by rfl) B.len PySem.boot_len (pa_cons (pv 6) pa_nil)) (pe_op op_mulX (pv 1) (pv 2)) (nomark _))))))), ?_⟩
    cases ha with
    | beyond h => cases hx
    | twice h ht => cases hx
    | bare h ht => cases hx
    | full h =>
      clear h hx
      have q : ∀ H', Same H H' → Q (.bl (fullB L W fi se (vals ps))) H' := q
      refine ⟨_, rfl, l, rfl, ⟨_, hl⟩, fun D hD => ?_⟩
      refine lc_list (K := K) (a := l) (xs := refs ps) (fun i H' => Same H H' ∧ H' D = some (.lst ((((vals ps).take i).map (beyB L W fi se)).map V.bl))) ⟨same_upd hD, upd_same⟩ (fun i H' _ ⟨sm, _⟩ => sm.seq hl) ?_ ?_
      · rintro i v H' hi ⟨sm, eD⟩
        obtain ⟨pb, hpb, rfl, hm⟩ := refs_at hi
        have hlt : i < ps.length := (List.getElem?_eq_some_iff.mp hpb).1
        have et : (vals ps).take (i + 1) = (vals ps).take i ++ [pb.2] := by
          unfold vals
          rw [List.take_add_one, List.getElem?_map, hpb]
          rfl
        refine ⟨rfl, lc_yes ?_⟩
        walk_at "rd"
        refine .mk (Same.tup sm (hb pb hm)) fun H2 sm2 => ⟨_, sm2 _ _ eD, ?_, ?_, ?_⟩
        · rw [List.length_map, List.length_map, List.length_take, vals_len]
          exact Nat.lt_of_le_of_lt (Nat.min_le_right _ _) (Nat.lt_of_le_of_lt hn (by decide))
        · exact fun b1 o e => by rw [upd_ne (ne_of_none e hD)]; exact sm2 _ _ (sm b1 o e)
        · rw [upd_same, et, List.map_append, List.map_append]
          rfl
      · rintro H1 ⟨sm1, eD⟩
        rw [refs_len, ← vals_len ps, List.take_length] at eD
        refine ⟨D, _, rfl, sqL eD, ?_⟩
        have ea : ((vals ps).map (beyB L W fi se)).any id = (vals ps).any (beyB L W fi se) := by
          rw [List.any_map]
          rfl
        rw [ea]
        refine ⟨_, rfl, iteB (fun c => ?_) (fun c => ?_)⟩
        · have e : fullB L W fi se (vals ps) = false := by
            unfold fullB
            rw [c]
            rfl
          rw [e] at q
          exact q _ sm1
        have hnb : ∀ b ∈ vals ps, beyB L W fi se b = false := fun b hbm => by
          have := List.any_eq_false.mp c b hbm
          exact Bool.eq_false_iff.mpr this
        have fe := fullB_eq hL.1 hW.1 hf hs hnb
        intro S hS
        have inG : ∀ i c, c ∈ allL fi se ((vals ps).take i) → cellB L W c = true := fun i c hc => by
          obtain ⟨b, hbm, hcb⟩ := List.mem_flatMap.mp hc
          exact cov_cell (hnb b (List.mem_of_mem_take hbm)) (mem_cells hf hs hcb)
        refine ⟨_, rfl, l, rfl, ⟨_, (same_upd hS).seq (sm1.seq hl)⟩, for_list (K := K) (a := l) (xs := refs ps) (fun i σ H' => SeenI p l S L W fi se ps H1 i σ H') (.mk (kvs := []) (same_upd hS) upd_same rfl List.Pairwise.nil) ?_ ?_ ?_⟩
        · rintro _ _ _ _ ⟨sm⟩
          exact sm.seq (sm1.seq hl)
        · rintro i v _ H2 hi @⟨_, _, _, kvs, sm2, eS, hk, nd⟩
          obtain ⟨pb, hpb, rfl, hm⟩ := refs_at hi
          have hbv : pb.2 ∈ vals ps := List.mem_map_of_mem hm
          have nb := hnb _ hbv
          have lim : pb.2.lo fi se ≤ 1000 ∧ pb.2.hi fi se ≤ 1000 := by
            unfold beyB at nb
            simp only [Bool.or_eq_false_iff, decide_eq_false_iff_not] at nb
            omega
          have lo0 : 0 < pb.2.lo fi se := by unfold Brick.lo; split <;> omega
          have hi0 : 0 < pb.2.hi fi se := by unfold Brick.hi; split <;> omega
          walk_at "rd"
          refine .mk (Same.tup (sm1.trans sm2) (hb pb hm)) ⟨by omega, lim.1⟩ ⟨by omega, lim.2⟩ fun C H3 cs sm3 eC hcs vcs => ?_
          have eS3 := sm3 _ _ eS
          have nSC : C ≠ S := ne_of eC eS3 (by intro z; cases z)
          refine ⟨C, rfl, ⟨_, sqL eC⟩, for_list (K := K) (a := C) (xs := refs cs) (fun j σ H' => SeenJ p l S pb.1 L W fi se ps (cellsL fi se pb.2) H1 i j σ H' ∧ H' C = some (.lst (refs cs)) ∧ CeAll H' cs) ⟨.mk (kvs := kvs) (sm2.trans sm3) eS3 (by rw [List.take_zero, List.append_nil]; exact hk) (by rw [List.take_zero, List.append_nil]; exact nd), eC, hcs⟩ ?_ ?_ ?_⟩
          · rintro _ _ _ _ ⟨_, e, _⟩
            exact sqL e
          · rintro j v _ H4 hj ⟨@⟨_, _, kvs4, sm4, eS4, hk4, nd4⟩, eC4, hcs4⟩
            obtain ⟨pc, hpc, rfl, hmc⟩ := refs_at hj
            have ec := hcs4 pc hmc
            have ecl : (cellsL fi se pb.2)[j]? = some pc.2 := by
              rw [← vcs]
              unfold vals
              rw [List.getElem?_map, hpc]
              rfl
            have ecol : cellB L W pc.2 = true := cov_cell nb (mem_cells hf hs (List.mem_of_getElem? ecl))
            have tk : (cellsL fi se pb.2).take (j + 1) = (cellsL fi se pb.2).take j ++ [pc.2] := by
              rw [List.take_add_one, ecl]
              rfl
            have fk := find_key hk4 pc.2
            walk_at "rd"
            refine ⟨S, _, rfl, DGet.t (k := keyL pc.2) eS4 ec, _, rfl, iteB (fun c4 => ?_) (fun c4 => ?_)⟩
            · -- twice
              have mem := fk.mp c4
              have e : fullB L W fi se (vals ps) = false := by
                apply Bool.eq_false_iff.mpr
                intro z
                have nda := (fe.mp z).1
                obtain ⟨r, er⟩ := all_split (f := fi) (s := se) hpb
                rw [er] at nda
                have e3 : cellsL fi se pb.2 = (cellsL fi se pb.2).take j ++ pc.2 :: (cellsL fi se pb.2).drop (j + 1) := by
                  have hlt := (List.getElem?_eq_some_iff.mp ecl).1
                  have h5 : (cellsL fi se pb.2)[j] = pc.2 := (List.getElem?_eq_some_iff.mp ecl).2
                  rw [← h5, ← List.drop_eq_getElem_cons hlt, List.take_append_drop]
                rw [e3, List.append_assoc, ← List.append_assoc] at nda
                have dj := (List.nodup_append.mp nda).2.2 pc.2 mem pc.2 (by simp)
                exact dj rfl
              rw [e] at q
              exact q _ (sm1.trans sm4)
            · have nmem : pc.2 ∉ allL fi se ((vals ps).take i) ++ (cellsL fi se pb.2).take j := fun z => by
                rw [fk.mpr z] at c4
                cases c4
              have nd5 : (allL fi se ((vals ps).take i) ++ (cellsL fi se pb.2).take (j + 1)).Nodup := by
                rw [tk, ← List.append_assoc]
                exact List.nodup_append.mpr ⟨nd4, by simp, fun a ha b hb2 e => by
                  rw [List.mem_singleton] at hb2
                  rw [e, hb2] at ha
                  exact nmem ha⟩
              have small : kvs4.length < sizeLine := by
                rw [keys_len hk4]
                refine Nat.lt_of_le_of_lt (nodup_len (L := L) (W := W) (by omega) (by omega) nd4 fun c hc => ?_) (by decide)
                rcases List.mem_append.mp hc with z | z
                · exact inG i c z
                · exact cov_cell nb (mem_cells hf hs (List.mem_of_mem_take z))
              walk_at "rd"
              have nCS : C ≠ S := ne_of eC4 eS4 (by intro z; cases z)
              refine ⟨S, _, rfl, DPut.t (k := keyL pc.2) eS4 ec small, .mk (kvs := putK kvs4 (keyL pc.2) (.bl true)) ?_ upd_same ?_ nd5, ?_, ?_⟩
              · exact fun b1 o e => by rw [upd_ne (ne_of_none e hS)]; exact sm4 b1 o e
              · rw [put_key hk4 nmem, tk, List.append_assoc]
              · rw [upd_ne nCS]
                exact eC4
              · exact fun z hz => by
                  have hz2 := hcs4 z hz
                  have nz : z.1 ≠ S := ne_of hz2 eS4 (by intro z; cases z)
                  rw [upd_ne nz]
                  exact hz2
          · rintro _ H4 ⟨@⟨_, _, kvs4, sm4, eS4, hk4, nd4⟩, _, _⟩
            have el : (cellsL fi se pb.2).take (refs cs).length = cellsL fi se pb.2 := by
              rw [refs_len, ← vals_len, vcs, List.take_length]
            rw [el] at hk4 nd4
            exact .mk (kvs := kvs4) sm4 eS4 (by rw [all_take hpb]; exact hk4) (by rw [all_take hpb]; exact nd4)
        · rintro _ H2 @⟨_, _, _, kvs, sm2, eS, hk, nd⟩
          rw [refs_len, ← vals_len ps, List.take_length] at hk nd
          refine ⟨_, rfl, S, kvs, rfl, eS, ?_⟩
          have bL : Bn 20 L := bnl (by omega)
          have bW : Bn 20 W := bnl (by omega)
          walk_at "rd"
          have e : decide (V.int ((kvs.length : Nat) : Int) = V.int (L * W)) = fullB L W fi se (vals ps) := by
            rw [keys_len hk]
            by_cases c : ((allL fi se (vals ps)).length : Int) = L * W
            · rw [fe.mpr ⟨nd, c⟩]
              exact decide_eq_true (congrArg V.int c)
            · rw [Bool.eq_false_iff.mpr fun z => c (fe.mp z).2]
              exact decide_eq_false fun z => c (V.int.inj z)
          show Q (.bl (decide (V.int ((kvs.length : Nat) : Int) = V.int (L * W)))) H2
          rw [e]
          exact q _ (sm1.trans sm2)
theorem H_shows5 (B : Bi mg) (G : ClG K mg) (p1 : PlM K .full "shows" "Full.shows" s_Full_shows) (p2 : PlM K .beyond "shows" "Beyond.shows" s_Beyond_shows) (p3 : PlM K .twice "shows" "Twice.shows" s_Twice_shows) (p4 : PlM K .bare "shows" "Bare.shows" s_Bare_shows)
    (h_is_beyond : Has P w K mg base CX0 1 "is_beyond" ["length", "width", "first", "second", "brick"] (SpBeyond K)) (h_cells_of : Has P w K mg base CX0 1 "cells_of" ["first", "second", "brick"] (SpCells K))
    (h_is_cell : Has P w K mg base CX0 2 "is_cell" ["length", "width", "thing"] SpIsCell) (h_often : Has P w K mg base CX0 2 "often" ["first", "second", "bricks", "cell"] (SpOften K)) :
    ∀ x, Ok5 x → HasM P w K mg base CX0 3 x "shows" ["self", "length", "width", "first", "second", "bricks"] (SpShows5 K x) := by
  intro x hx
  have e : x = .full ∨ x = .beyond ∨ x = .twice ∨ x = .bare := by simpa [Ok5] using hx
  rcases e with rfl | rfl | rfl | rfl
  · exact (H_Full_shows p1 B h_is_beyond h_cells_of).mono (by decide)
  · exact (H_Beyond_shows p2 B G h_is_beyond).mono (by decide)
  · exact H_Twice_shows p3 G h_is_cell h_often
  · exact H_Bare_shows p4 G h_is_cell h_often
end
end BF

/-! ### lists of bricks -/
namespace BF
open PySem PySem.Spec PyProof.Rows L2
/-- a loop over enumerate(list) -/
theorem for_enumL {K : PySem.W.Frag} {a : Addr} {xs : List V} {g : TG} {tb : TS} {D : Ends} {σ : L2.St} {H : Hp} (Pv : Nat → L2.St → Hp → Prop) (h0 : Pv 0 σ H) (hl : ∀ i σ H, i ≤ xs.length → Pv i σ H → SqL K H a xs)
    (hs : ∀ i x T σ H, xs[i]? = some x → Pv i σ H → H T = none → g (.ref T) σ (upd H T (.tup [.int (i : Nat), x])) fun σ2 H2 => tb { D with nx := Pv (i + 1), ct := Pv (i + 1), bk := D.nx } σ2 H2) (hd : ∀ σ H, Pv xs.length σ H → D.nx σ H) :
    ∃ W : Nat → Nat → L2.St → Hp → Prop, (∃ m, W 0 m σ H) ∧ ∀ i m σ H, W i m σ H →
      ((Ite K a).stop i H ∧ D.nx σ H) ∨ ((Ite K a).go i H ∧ ∃ N : L2.St → Hp → Prop, (∀ σ' H', N σ' H' → ∃ m', m' < m ∧ W (i + 1) m' σ' H') ∧ ∀ x H', (Ite K a).yld i H x H' → g x σ H' fun σ2 H2 => tb { D with nx := N, ct := N, bk := D.nx } σ2 H2) := by
  refine ⟨fun i m σ H => m = xs.length - i ∧ i ≤ xs.length ∧ Pv i σ H, ⟨_, rfl, Nat.zero_le _, h0⟩, ?_⟩
  rintro i m σ H ⟨rfl, hi, p⟩
  have sq := hl i σ H hi p
  by_cases c : i < xs.length
  · refine .inr ⟨⟨xs, xs[i], sq, by simp [c]⟩, Pv (i + 1), fun σ' H' p' => ⟨xs.length - (i + 1), by omega, rfl, c, p'⟩, fun x H' y => ?_⟩
    obtain ⟨T, z, rfl, hT, rfl, hx⟩ := y
    exact hs i z T σ H (hx xs sq) p hT
  · have e : i = xs.length := by omega
    subst e
    exact .inl ⟨⟨xs, sq, Nat.le_refl _⟩, hd σ H p⟩
theorem cut_ints2 (ns : List Int) (lo hi : Option Int) : ∃ ms : List Int, cutV (ns.map V.int) lo hi = ms.map V.int ∧ (∀ z ∈ ms, z ∈ ns) ∧ ms.length ≤ ns.length := by
  unfold cutV
  refine ⟨_, cut_map V.int ns _ _, fun z hz => List.mem_of_mem_drop (List.mem_of_mem_take hz), ?_⟩
  rw [List.length_take, List.length_drop]
  omega
def BrT (H : Hp) (ps : List (Addr × Brick)) : Prop := ∀ p ∈ ps, H p.1 = some (.tup p.2.vs)
theorem BrT.mono {H H' : Hp} {ps : List (Addr × Brick)} (h : BrT H ps) (sm : Same H H') : BrT H' ps := fun p hp => sm _ _ (h p hp)
theorem BrT.all {K : PySem.W.Frag} {H : Hp} {ps : List (Addr × Brick)} (h : BrT H ps) : BrAll K H ps := fun p hp => sqT (h p hp)
theorem BrT.app {H : Hp} {a b : List (Addr × Brick)} (h : BrT H a) (k : BrT H b) : BrT H (a ++ b) := fun p hp => by
  rcases List.mem_append.mp hp with z | z
  · exact h p z
  · exact k p z
theorem BrT.one {H : Hp} {p : Addr} {b : Brick} (h : H p = some (.tup b.vs)) : BrT H [(p, b)] := fun q hq => by
  obtain rfl := List.mem_singleton.mp hq
  exact h
theorem BrT.sub {H : Hp} {a b : List (Addr × Brick)} (h : BrT H a) (k : ∀ p ∈ b, p ∈ a) : BrT H b := fun p hp => h p (k p hp)
/-- a list is changed: bricks stay -/
theorem BrT.lst {H : Hp} {F : Addr} {xs : List V} {o : HO} {ps : List (Addr × Brick)} (h : BrT H ps) (e : H F = some (.lst xs)) : BrT (upd H F o) ps := fun p hp => by
  have z := h p hp
  rw [upd_ne (ne_of z e (by intro z; cases z))]
  exact z
/-- a list that H does not know is changed -/
theorem same_mut {H H' : Hp} {F : Addr} {o : HO} (sm : Same H H') (n : H F = none) : Same H (upd H' F o) := fun b u e => by
  rw [upd_ne (ne_of_none e n)]
  exact sm b u e
/-- a tuple where a list is changed -/
theorem keepT {H : Hp} {F t : Addr} {xs ys : List V} {o : HO} (h : H t = some (.tup xs)) (e : H F = some (.lst ys)) : (upd H F o) t = some (.tup xs) := by
  rw [upd_ne (ne_of h e (by intro z; cases z))]
  exact h
/-- one more brick in a comprehension's list -/
theorem lc_brick {H2 H3 : Hp} {D p4 : Addr} {ds : List (Addr × Brick)} {b : Brick} {j : Nat} (hD : H2 D = none) (sm3 : Same H2 H3) (eD : H3 D = some (.lst (refs ds))) (hds : BrT H3 ds) (hj : ds.length = j) (hp4 : H3 p4 = none) (hn : j < 1000) :
    ∃ acc, (upd H3 p4 (.tup b.vs)) D = some (.lst acc) ∧ acc.length < sizeLine ∧ Same H2 (upd (upd H3 p4 (.tup b.vs)) D (.lst (acc ++ [.ref p4]))) ∧ ∃ es, (upd (upd H3 p4 (.tup b.vs)) D (.lst (acc ++ [.ref p4]))) D = some (.lst (refs es)) ∧ BrT (upd (upd H3 p4 (.tup b.vs)) D (.lst (acc ++ [.ref p4]))) es ∧ es.length = j + 1 := by
  have e4 := same_upd (o := .tup b.vs) hp4 _ _ eD
  refine ⟨refs ds, e4, ?_, same_mut (sm3.trans (same_upd hp4)) hD, ds ++ [(p4, b)], ?_, ?_, ?_⟩
  · rw [refs_len, hj]
    exact Nat.lt_trans hn (by decide)
  · rw [upd_same, refs_app]
    rfl
  · exact ((hds.mono (same_upd hp4)).app (.one upd_same)).lst e4
  · rw [List.length_append, hj]
    rfl
theorem at_refs {ps : List (Addr × Brick)} {k : Int} (h0 : 0 ≤ k) (h1 : k < ps.length) : ∃ pb, pb ∈ ps ∧ ps[k.toNat]? = some pb ∧ atI (refs ps) k = some (.ref pb.1) := by
  obtain ⟨n, rfl⟩ := Int.eq_ofNat_of_zero_le h0
  have hlt : n < ps.length := by omega
  refine ⟨ps[n], List.getElem_mem hlt, by rw [Int.toNat_natCast]; exact List.getElem?_eq_getElem hlt, atI_nat ?_⟩
  unfold refs
  rw [List.getElem?_map, List.getElem?_eq_getElem hlt]
  rfl
theorem erase_refs {α : Type} : ∀ (ps : List (Addr × α)) (n : Nat), (refs ps).eraseIdx n = refs (ps.eraseIdx n)
  | [], _ => rfl
  | _ :: _, 0 => rfl
  | p :: ps, n + 1 => by
    show V.ref p.1 :: (refs ps).eraseIdx n = V.ref p.1 :: refs (ps.eraseIdx n)
    rw [erase_refs ps n]
theorem seq_ix {n k : Nat} (h : k < n) : seqIndex? (k : Int) n = some k := by
  unfold seqIndex?
  simp
  omega
end BF

/-! ### laying.py: told -/
namespace BF
open PySem PySem.Spec PyProof.Rows L2
noncomputable def tellA (L W f s : Int) : Ans := match strL L W f s with
  | i :: _ => .striped (.int i)
  | [] => match shoL L W f s with
    | i :: _ => .short (.int i)
    | [] => .laid
theorem tellA_4 (L W f s : Int) : A4 (tellA L W f s) := by
  unfold tellA
  cases strL L W f s with
  | cons i r => exact .striped i
  | nil =>
    show A4 (match shoL L W f s with | i :: _ => Ans.short (.int i) | [] => .laid)
    cases shoL L W f s with
    | cons i r => exact .short i
    | nil => exact .laid
inductive SpTold (K : PySem.W.Frag) : Sp where
  | mk {L W f s : Int} {H : Hp} {Q : VK} {E : XK} (hL : Sz L) (hW : Sz W) (hf : Sz f) (hs : Sz s) (fl : Fl L W f s) (q : ∀ p H', Same H H' → AnsAt K H' p (tellA L W f s) → Q (.ref p) H') : SpTold K [.int L, .int W, .int f, .int s] H Q E
theorem two_ne (a b : Bool) : (!PyData.eqv (.list ((two a b).map .int)) (.list [])) = !(two a b).isEmpty := by
  cases a <;> cases b <;> rfl
theorem two_sh (a b : Bool) : SeqAt.shaped (.list ((two a b).map .int)) = true := by
  cases a <;> cases b <;> rfl
section
variable {P : Program} {w : World} {K : PySem.W.Frag} {mg : Str → Option Value} {base : Heap}
theorem H_told (p : Pl K mg "told" s_told) (G : ClG K mg) (CI : ClI P w K mg base) (h_check_sizes : Has P w K mg base CX0 2 "check_sizes" ["some"] (SpCheckSizes K))
    (h_what_bars : Has P w K mg base CX0 3 "what_bars" ["length", "width", "first", "second"] SpBars) : Has P w K mg base CX0 4 "told" ["length", "width", "first", "second"] (SpTold K) := by
  refine p.mk0 sc_told (fun _ _ _ _ _ _ us hl => match us, hl with | [_, _, _, _], _ => rfl) (fun vs H Q E h => ?_) (fun f cdv A outer s H vs Q E hr h => ?_)
  · cases h; rfl
  · obtain @⟨L, W, fi, se, _, _, _, hL, hW, hf, hs, fl, q⟩ := h
    refine ⟨_, (pss_cons (ps_expr (pe_fn h_check_sizes (hr.mono (by decide)) pass0 (pa_cons (pe_lst (pa_cons (pv 0) (pa_cons (pv 1) (pa_cons (pv 2) (pa_cons (pv 3) pa_nil))))) pa_nil)))
      (pss_cons (ps_asg (pe_fn h_what_bars (hr.mono (by decide)) pass0 (pa_cons (pv 0) (pa_cons (pv 1) (pa_cons (pv 2) (pa_cons (pv 3) pa_nil))))) (pg_tup (by rfl) (pgs_cons (pg_name (i := 4) sc_told.nd rfl (Or.inl rfl)) (pgs_cons (pg_name (i := 5) sc_told.nd rfl (Or.inl rfl)) pgs_nil))))
      (pss_cons (ps_if (pt_cmpR (r := rNeD K) (op_neD hr.units) (pv 4) (pe_lst pa_nil) (nomark _)) (pss_one (ps_ret (pe_mkI (x := .striped) CI G (by decide) trivial (hr.mono (by decide)) (pa_cons (pe_ix (r := rIxL K) ix_list (pv 4) pe_int (fun _ _ => rfl)) pa_nil)))) pss_nil)
      (pss_one (ps_ret (pe_ifExp (pt_cmpR (r := rNeD K) (op_neD hr.units) (pv 5) (pe_lst pa_nil) (nomark _)) (pe_mkI (x := .short) CI G (by decide) trivial (hr.mono (by decide)) (pa_cons (pe_ix (r := rIxL K) ix_list (pv 5) pe_int (fun _ _ => rfl)) pa_nil)) (pe_mkN (x := .laid) CI G (by decide) (by decide)))))))), ?_⟩
    walk_at "rd"
    intro l1 hl1
    generalize hH1 : upd H l1 _ = H1
    obtain ⟨sm1, up1⟩ : Same H H1 ∧ H1 l1 = some (.lst ([L, W, fi, se].map V.int)) := newH hH1 hl1
    clear hH1
    refine .mk (ns := [L, W, fi, se]) (sqL up1) ?_ ?_
    · intro n hn
      have e : n = L ∨ n = W ∨ n = fi ∨ n = se := by simpa using hn
      rcases e with rfl | rfl | rfl | rfl
      · exact hL.pos
      · exact hW.pos
      · exact hf.pos
      · exact hs.pos
    walk_at "rd"
    refine .mk hL hW hf hs fl fun t p1 p2 H2 sm2 ht hp1 hp2 => ?_
    refine ⟨t, _, rfl, sqT ht, rfl, ?_⟩
    walk_at "rd"
    intro l3 hl3
    generalize hH3 : upd H2 l3 _ = H3
    obtain ⟨sm3, up3⟩ : Same H2 H3 ∧ H3 l3 = some (.lst []) := newH hH3 hl3
    clear hH3
    replace hp1 := sm3 _ _ hp1
    replace hp2 := sm3 _ _ hp2
    refine ⟨.list ((strL L W fi se).map .int), .list [], .lst (sqL hp1) (dp_ints _), .lst (sqL up3) .nil, two_sh _ _, rfl, _, rfl, ?_⟩
    have smA := sm1.trans (sm2.trans sm3)
    unfold tellA at q
    rw [show (!PyData.eqv (.list ((strL L W fi se).map .int)) (.list [])) = !(strL L W fi se).isEmpty from two_ne _ _]
    cases hst : strL L W fi se with
    | cons i r =>
      rw [hst] at q hp1
      refine iteT ?_
      refine ⟨_, rfl, p1, _, 0, .int i, rfl, rfl, sqL hp1, at0, ?_⟩
      exact ⟨_, rfl, fun p H4 hp sm4 ha => q p H4 (smA.trans sm4) ha⟩
    | nil =>
      rw [hst] at q
      refine iteF ?_
      walk_at "rd"
      intro l4 hl4
      generalize hH4 : upd H3 l4 _ = H4
      obtain ⟨sm4, up4⟩ : Same H3 H4 ∧ H4 l4 = some (.lst []) := newH hH4 hl4
      clear hH4
      replace hp2 := sm4 _ _ hp2
      refine ⟨.list ((shoL L W fi se).map .int), .list [], .lst (sqL hp2) (dp_ints _), .lst (sqL up4) .nil, two_sh _ _, rfl, _, rfl, ?_⟩
      rw [show (!PyData.eqv (.list ((shoL L W fi se).map .int)) (.list [])) = !(shoL L W fi se).isEmpty from two_ne _ _]
      replace smA := smA.trans sm4
      cases hsh : shoL L W fi se with
      | cons i r =>
        rw [hsh] at q hp2
        refine iteT ?_
        refine ⟨_, rfl, p2, _, 0, .int i, rfl, rfl, sqL hp2, at0, ?_⟩
        exact ⟨_, rfl, fun p H5 hp sm5 ha => q p H5 (smA.trans sm5) ha⟩
      | nil =>
        rw [hsh] at q
        refine iteF ?_
        exact fun p H5 hp sm5 ha => q p H5 (smA.trans sm5) ha
end
end BF

/-! ### judging.py -/
namespace BF
open PySem PySem.Spec PyProof.Rows L2
inductive SpIsBrick : Sp where
  | mk {o : Addr} {b : Brick} {H : Hp} {Q : VK} {E : XK} (ho : H o = some (.tup b.vs)) (q : Q (.bl true) H) : SpIsBrick [.ref o] H Q E
/-- an answer that is as told -/
def IsJ (L W f s : Int) (bs : List Brick) : D5 → Prop
  | .beyond i => beyAt L W f s bs i = true
  | .bare c => bs.any (beyB L W f s) = false ∧ cellB L W c = true ∧ oftN f s bs c = 0
  | .twice c => bs.any (beyB L W f s) = false ∧ cellB L W c = true ∧ 1 < oftN f s bs c
  | .full => bs.any (beyB L W f s) = false ∧ ∀ c, cellB L W c = true → oftN f s bs c = 1
theorem IsJ.due {L W f s : Int} {bs : List Brick} {d : D5} (hL : 0 < L) (hW : 0 < W) (h : IsJ L W f s bs d) : due5 L W f s bs d = true := by
  cases d with
  | beyond i => exact h
  | bare c =>
    show (cellB L W c && decide (oftN f s bs c = 0)) = true
    rw [h.2.1, decide_eq_true h.2.2]
    rfl
  | twice c =>
    show (cellB L W c && decide (1 < oftN f s bs c)) = true
    rw [h.2.1, decide_eq_true h.2.2]
    rfl
  | full =>
    show (!(bs.any (beyB L W f s)) && (gridL L W).all fun c => decide (oftN f s bs c = 1)) = true
    rw [h.1]
    show (gridL L W).all (fun c => decide (oftN f s bs c = 1)) = true
    rw [List.all_eq_true]
    intro c hc
    exact decide_eq_true (h.2 c ((mem_grid (by omega) (by omega)).mp hc))
theorem beyAt_any {L W f s : Int} {bs : List Brick} {i : Int} (h : beyAt L W f s bs i = true) : bs.any (beyB L W f s) = true := by
  unfold beyAt at h
  rw [Bool.and_eq_true] at h
  cases e : bs[i.toNat]? with
  | none => rw [e] at h; exact nomatch h.2
  | some b =>
    rw [e] at h
    exact List.any_eq_true.mpr ⟨b, List.mem_of_getElem? e, h.2⟩
theorem IsJ.full {L W f s : Int} {bs : List Brick} {d : D5} (hL : 0 < L) (hW : 0 < W) (h : IsJ L W f s bs d) : decide (d.cl = .full) = fullB L W f s bs := by
  cases d with
  | beyond i =>
    have e : fullB L W f s bs = false := by
      unfold fullB
      rw [beyAt_any h]
      rfl
    rw [e]
    rfl
  | bare c =>
    have e : fullB L W f s bs = false := by
      apply Bool.eq_false_iff.mpr
      intro z
      unfold fullB at z
      rw [Bool.and_eq_true] at z
      have := of_decide_eq_true (List.all_eq_true.mp z.2 c ((mem_grid (by omega) (by omega)).mpr h.2.1))
      have := h.2.2
      omega
    rw [e]
    rfl
  | twice c =>
    have e : fullB L W f s bs = false := by
      apply Bool.eq_false_iff.mpr
      intro z
      unfold fullB at z
      rw [Bool.and_eq_true] at z
      have := of_decide_eq_true (List.all_eq_true.mp z.2 c ((mem_grid (by omega) (by omega)).mpr h.2.1))
      have := h.2.2
      omega
    rw [e]
    rfl
  | full => exact (show fullB L W f s bs = true from h.due (d := .full) hL hW).symm
inductive SpJudged (K : PySem.W.Frag) : Sp where
  | mk {l : Addr} {ps : List (Addr × Brick)} {L W f s : Int} {H : Hp} {Q : VK} {E : XK} (hL : 0 < L) (hW : 0 < W) (hm : L * W ≤ 400) (hf : 0 < f) (hs : 0 < s) (el : H l = some (.lst (refs ps))) (hb : BrT H ps) (hn : ps.length ≤ 1000)
      (q : ∀ p H' d, Same H H' → At5 K H' p d → IsJ L W f s (vals ps) d → Q (.ref p) H') : SpJudged K [.int L, .int W, .int f, .int s, .ref l] H Q E
inductive JuI (l : Addr) (L W f s : Int) (bs : List Brick) (H : Hp) (i : Nat) : L2.St → Hp → Prop where
  | mk {H' : Hp} {y5 y6 : Option V} (sm : Same H H') (h : ∀ b ∈ bs.take i, beyB L W f s b = false) : JuI l L W f s bs H i [some (.int L), some (.int W), some (.int f), some (.int s), some (.ref l), y5, y6, none, none, none] H'
inductive JuA (l : Addr) (L W f s : Int) (bs : List Brick) (H : Hp) (i : Nat) : L2.St → Hp → Prop where
  | mk {H' : Hp} {y5 y6 y7 y8 y9 : Option V} (sm : Same H H') (h : ∀ x y : Int, 0 ≤ x → x < i → 0 ≤ y → y < W → oftN f s bs (x, y) = 1) : JuA l L W f s bs H i [some (.int L), some (.int W), some (.int f), some (.int s), some (.ref l), y5, y6, y7, y8, y9] H'
inductive JuB (l : Addr) (L W f s : Int) (bs : List Brick) (H : Hp) (x : Int) (j : Nat) : L2.St → Hp → Prop where
  | mk {H' : Hp} {y5 y6 y8 y9 : Option V} (sm : Same H H') (h : ∀ y : Int, 0 ≤ y → y < j → oftN f s bs (x, y) = 1) : JuB l L W f s bs H x j [some (.int L), some (.int W), some (.int f), some (.int s), some (.ref l), y5, y6, some (.int x), y8, y9] H'
section
variable {P : Program} {w : World} {K : PySem.W.Frag} {mg : Str → Option Value} {base : Heap}
theorem H_is_brick (p : Pl K mg "is_brick" s_is_brick) (B : Bi mg) (h_is_number : Has P w K mg base CX0 1 "is_number" ["thing"] (SpIsNumber K)) : Has P w K mg base CX0 2 "is_brick" ["thing"] SpIsBrick := by
  refine p.mk0 sc_is_brick (fun _ _ _ _ _ _ us hl => match us, hl with | [_], _ => rfl) (fun vs H Q E h => ?_) (fun f cdv A outer s H vs Q E hr h => ?_)
  · cases h; rfl
  · obtain @⟨o, ⟨x, y, l⟩, _, _, _, ho, q⟩ := h
    refine ⟨_, (pss_cons (ps_if (PW.pt (pw_or (pt_not (pt_val (pe_callB (r := rIsi K) call_isi (by rfl) B.isinstance (by decide +kernel) (pa_cons (pv 0) (pa_cons (pe_bltn (v := .ty "tuple") (by rfl) B.tuple (by decide +kernel) rfl) pa_nil))))) (pw_or (pt_cmpR op_ne (pe_callB (r := rLen2 K) call_len_seq (by rfl) B.len PySem.boot_len (pa_cons (pv 0) pa_nil)) pe_int (nomark _)) (pw_or1 (pt_not (pt_val (pe_callB (r := rIsi K) call_isi (by rfl) B.isinstance (by decide +kernel) (pa_cons (pe_ix (r := rIxT K) ix_tup (pv 0) pe_int (fun _ _ => rfl)) (pa_cons (pe_bltn (v := .ty "bool") (by rfl) B.bool (by decide +kernel) rfl) pa_nil))))))))) (pss_one (ps_ret pe_bl)) pss_nil)
      (pss_one (ps_ret (pe_and (pe_fn h_is_number (hr.mono (by decide)) pass0 (pa_cons (pe_ix (r := rIxT K) ix_tup (pv 0) pe_int (fun _ _ => rfl)) pa_nil)) (pe_one (pe_fn h_is_number (hr.mono (by decide)) pass0 (pa_cons (pe_ix (r := rIxT K) ix_tup (pv 0) pe_int (fun _ _ => rfl)) pa_nil))))))), ?_⟩
    refine ⟨_, rfl, _, _, _, _, true, rfl, .ty "tuple", .base (.tup ho), kit_ty (by decide +kernel), true, rfl, iteF ?_⟩
    refine ⟨_, rfl, o, _, rfl, .inr (sqT ho), rfl, _, rfl, iteNe (fun z => absurd rfl z) (fun _ => ?_)⟩
    refine ⟨_, rfl, o, _, 2, _, rfl, rfl, sqT ho, rfl, _, _, _, _, true, rfl, .ty "bool", .base (.bl l), kit_ty (by decide +kernel), true, rfl, iteF ?_⟩
    refine ⟨_, rfl, o, _, 0, _, rfl, rfl, sqT ho, rfl, num_int ⟨true, rfl, iteT ?_⟩⟩
    exact ⟨_, rfl, o, _, 1, _, rfl, rfl, sqT ho, rfl, num_int q⟩
theorem H_judged (p : Pl K mg "judged" s_judged) (B : Bi mg) (G : ClG K mg) (CI : ClI P w K mg base) (M_MOST : ∃ t, mg "MOST" = some (.int 400 t)) (h_check_sizes : Has P w K mg base CX0 2 "check_sizes" ["some"] (SpCheckSizes K)) (h_is_brick : Has P w K mg base CX0 2 "is_brick" ["thing"] SpIsBrick)
    (h_is_beyond : Has P w K mg base CX0 1 "is_beyond" ["length", "width", "first", "second", "brick"] (SpBeyond K)) (h_often : Has P w K mg base CX0 2 "often" ["first", "second", "bricks", "cell"] (SpOften K)) : Has P w K mg base CX0 3 "judged" ["length", "width", "first", "second", "bricks"] (SpJudged K) := by
  refine p.mk0 sc_judged (fun _ _ _ _ _ _ us hl => match us, hl with | [_, _, _, _, _], _ => rfl) (fun vs H Q E h => ?_) (fun f cdv A outer s H vs Q E hr h => ?_)
  · cases h; rfl
  · obtain @⟨l, ps, L, W, fi, se, _, _, _, hL, hW, hm, hf, hs, el, hb, hn, q⟩ := h
    refine ⟨_, (pss_cons (ps_expr (pe_fn h_check_sizes (hr.mono (by decide)) pass0 (pa_cons (pe_lst (pa_cons (pv 0) (pa_cons (pv 1) (pa_cons (pv 2) (pa_cons (pv 3) pa_nil))))) pa_nil)))
      (pss_cons (ps_if (pt_cmpR op_gt (pe_op op_mulX (pv 0) (pv 1)) (pe_const (by rfl) M_MOST) (nomark _)) (pss_one ps_never) pss_nil)
      (pss_cons (ps_if (PW.pt (pw_or (pt_not (pt_val (pe_callB (r := rIsi K) call_isi (by rfl) B.isinstance (by decide +kernel) (pa_cons (pv 4) (pa_cons (pe_bltn (v := .ty "list") (by rfl) B.list (by decide +kernel) rfl) pa_nil))))) (pw_or1 (pt_not (pt_val (pe_callB (cr_all rfl) (by rfl) B.all (by decide +kernel) (pa_cons (pe_lc (own := [("brick", 6)]) (by rfl) sc_judged.nd (pi_list (pv 4)) (blkOk_by (own := [("brick", 6)]) (N := ["length", "width", "first", "second", "bricks", "count", "brick", "along", "up", "many"]) (sc := defScope s_judged) (by decide +kernel)) (fun _ _ _ _ _ => (pg_name (i := 6) sc_judged.nd rfl (Or.inl rfl))) (fun _ _ _ _ _ => pts_nil) (fun _ _ _ _ _ => (pe_fn h_is_brick (hr.mono (by decide)) pass0 (pa_cons (pv 6) pa_nil)))) pa_nil))))))) (pss_one ps_never) pss_nil)
      (pss_cons (ps_for PassesOwn.never (by rfl) (pi_enum (by rfl) B.enumerate (pa_cons (pv 4) pa_nil)) (pg_tup (by rfl) (pgs_cons (pg_name (i := 5) sc_judged.nd rfl (Or.inl rfl)) (pgs_cons (pg_name (i := 6) sc_judged.nd rfl (Or.inl rfl)) pgs_nil))) (pss_one (ps_if (pt_val (pe_fn h_is_beyond (hr.mono (by decide)) pass0 (pa_cons (pv 0) (pa_cons (pv 1) (pa_cons (pv 2) (pa_cons (pv 3) (pa_cons (pv 6) pa_nil))))))) (pss_one (ps_ret (pe_mkI (x := .beyond) CI G (by decide) trivial (hr.mono (by decide)) (pa_cons (pv 5) pa_nil)))) pss_nil)))
      (pss_cons (ps_for PassesOwn.never (by rfl) (pi_range1 (by rfl) B.range (pa_cons (pv 0) pa_nil)) (pg_name (i := 7) sc_judged.nd rfl (Or.inl rfl)) (pss_one (ps_for PassesOwn.never (by rfl) (pi_range1 (by rfl) B.range (pa_cons (pv 1) pa_nil)) (pg_name (i := 8) sc_judged.nd rfl (Or.inl rfl)) (pss_cons (ps_set (i := 9) sc_judged.nd rfl (Or.inl rfl) (pe_fn h_often (hr.mono (by decide)) pass0 (pa_cons (pv 2) (pa_cons (pv 3) (pa_cons (pv 4) (pa_cons (pe_tup (pa_cons (pv 7) (pa_cons (pv 8) pa_nil))) pa_nil))))))
      (pss_one (ps_if (pt_cmpR op_ne (pv 9) pe_int (nomark _)) (pss_one (ps_ret (pe_ifExp (pt_cmpR op_eq (pv 9) pe_int (nomark _)) (pe_mkI (x := .bare) CI G (by decide) trivial (hr.mono (by decide)) (pa_cons (pe_tup (pa_cons (pv 7) (pa_cons (pv 8) pa_nil))) pa_nil)) (pe_mkI (x := .twice) CI G (by decide) trivial (hr.mono (by decide)) (pa_cons (pe_tup (pa_cons (pv 7) (pa_cons (pv 8) pa_nil))) pa_nil))))) pss_nil))))))
      (pss_one (ps_ret (pe_mkN (x := .full) CI G (by decide) (by decide))))))))), ?_⟩
    have hL2 : L ≤ 400 := by
      have := Int.mul_le_mul_of_nonneg_left (show (1 : Int) ≤ W by omega) (show 0 ≤ L by omega)
      omega
    have hW2 : W ≤ 400 := by
      have := Int.mul_le_mul_of_nonneg_right (show (1 : Int) ≤ L by omega) (show 0 ≤ W by omega)
      omega
    have bL : Bn 20 L := bnl (by omega)
    have bW : Bn 20 W := bnl (by omega)
    walk_at "rd"
    intro l1 hl1
    generalize hH1 : upd H l1 _ = H1
    obtain ⟨sm1, up1⟩ : Same H H1 ∧ H1 l1 = some (.lst ([L, W, fi, se].map V.int)) := newH hH1 hl1
    clear hH1
    refine .mk (ns := [L, W, fi, se]) (sqL up1) ?_ ?_
    · intro n hn
      have e : n = L ∨ n = W ∨ n = fi ∨ n = se := by simpa using hn
      rcases e with rfl | rfl | rfl | rfl
      · exact hL
      · exact hW
      · exact hf
      · exact hs
    walk_at "rd"
    refine iteN (show ¬ (400 : Int) < L * W by omega) ?_
    have el1 := sm1 _ _ el
    have hb1 := hb.mono sm1
    refine ⟨_, rfl, _, _, _, _, true, rfl, .ty "list", .base (.lst el1), kit_ty (by decide +kernel), true, rfl, iteF ?_⟩
    refine ⟨_, rfl, l, rfl, ⟨_, sqL el1⟩, fun D hD => ?_⟩
    refine lc_list (K := K) (a := l) (xs := refs ps) (fun i H' => Same H1 H' ∧ H' D = some (.lst ((List.replicate i true).map V.bl))) ⟨same_upd hD, upd_same⟩ (fun i H' _ ⟨sm, _⟩ => sqL (sm _ _ el1)) ?_ ?_
    · rintro i v H' hi ⟨sm, eD⟩
      obtain ⟨pb, hpb, rfl, hmm⟩ := refs_at hi
      have hlt := (List.getElem?_eq_some_iff.mp hpb).1
      refine ⟨rfl, lc_yes ?_⟩
      walk_at "rd"
      refine .mk (sm _ _ (hb1 _ hmm)) ⟨_, eD, ?_, same_mut sm hD, ?_⟩
      · rw [List.length_map, List.length_replicate]
        exact Nat.lt_of_lt_of_le hlt (Nat.le_trans hn (by decide))
      · rw [upd_same, List.replicate_succ', List.map_append]
        rfl
    rintro H2 ⟨sm2, eD⟩
    refine ⟨D, _, rfl, sqL eD, ?_⟩
    have ea : (List.replicate (refs ps).length true).all id = true := by
      rw [List.all_eq_true]
      intro x hx
      exact (List.mem_replicate.mp hx).2
    rw [ea]
    refine ⟨_, rfl, iteF ?_⟩
    have s02 : Same H H2 := sm1.trans sm2
    have el2 := s02 _ _ el
    refine ⟨_, rfl, l, _, rfl, sqL el2, for_enumL (K := K) (a := l) (xs := refs ps) (fun i σ H' => JuI l L W fi se (vals ps) H2 i σ H') (.mk (Same.refl _) (by simp)) ?_ ?_ ?_⟩
    · rintro _ _ _ _ ⟨sm⟩
      exact sqL (sm _ _ el2)
    · rintro i v T _ H3 hi @⟨_, _, _, sm3, hall⟩ hT
      obtain ⟨pb, hpb, rfl, hmm⟩ := refs_at hi
      have hlt := (List.getElem?_eq_some_iff.mp hpb).1
      generalize hH4 : upd H3 T _ = H4
      obtain ⟨sm4, up4⟩ : Same H3 H4 ∧ H4 T = some (.tup [.int (i : Nat), .ref pb.1]) := newH hH4 hT
      clear hH4
      have s04 := s02.trans (sm3.trans sm4)
      refine ⟨T, _, rfl, sqT up4, rfl, ?_⟩
      walk_at "rd"
      refine .mk (sqT (s04 _ _ (hb _ hmm))) fun H5 sm5 => ⟨_, rfl, iteB (fun c => ?_) (fun c => ?_)⟩
      · refine ⟨_, rfl, _, rfl, fun p1 H6 np1 sm6 ha => ?_⟩
        refine q p1 H6 (.beyond (i : Nat)) (s04.trans (sm5.trans sm6)) (.beyond ha) ?_
        show beyAt L W fi se (vals ps) (i : Nat) = true
        unfold beyAt
        have hv : (vals ps)[((i : Nat) : Int).toNat]? = some pb.2 := by
          unfold vals
          rw [Int.toNat_natCast, List.getElem?_map, hpb]
          rfl
        rw [vals_len, hv, decide_eq_true (by omega), decide_eq_true (by omega)]
        exact c
      · refine .mk (sm3.trans (sm4.trans sm5)) fun b hb2 => ?_
        have et : (vals ps).take (i + 1) = (vals ps).take i ++ [pb.2] := by
          unfold vals
          rw [List.take_add_one, List.getElem?_map, hpb]
          rfl
        rw [et] at hb2
        rcases List.mem_append.mp hb2 with z | z
        · exact hall b z
        · rw [List.mem_singleton.mp z]
          exact c
    rintro _ H3 @⟨_, _, _, sm3, hall⟩
    rw [refs_len, ← vals_len ps, List.take_length] at hall
    have nob : (vals ps).any (beyB L W fi se) = false := by
      rw [List.any_eq_false]
      intro b hbm
      rw [hall b hbm]
      decide
    have s03 := s02.trans sm3
    refine ⟨_, rfl, _, rfl, by omega, by omega, for_range (lo := 0) (n := L.toNat) (fun i σ H' => JuA l L W fi se (vals ps) H3 i σ H') (.mk (Same.refl _) (fun x y h0 h1 => by omega)) ?_ ?_⟩
    · rintro i _ H4 hi @⟨_, _, _, _, _, _, sm4, ha4⟩
      refine ⟨_, rfl, _, rfl, by omega, by omega, for_range (lo := 0) (n := W.toNat) (fun j σ H' => JuB l L W fi se (vals ps) H4 (0 + (i : Int)) j σ H') (.mk (Same.refl _) (fun y h0 h1 => by omega)) ?_ ?_⟩
      · rintro j _ H5 hj @⟨_, _, _, _, _, sm5, hb5⟩
        walk_at "rd"
        intro t6 ht6
        generalize hH6 : upd H5 t6 _ = H6
        obtain ⟨sm6, up6⟩ : Same H5 H6 ∧ H6 t6 = some (.tup (cellV (0 + (i : Int), 0 + (j : Int)))) := newH hH6 ht6
        clear hH6
        have s06 := s03.trans (sm4.trans (sm5.trans sm6))
        refine .mk (c := (0 + (i : Int), 0 + (j : Int))) (sqL (s06 _ _ el)) (hb.mono s06).all (by omega) (sqT up6) fun H7 sm7 => ?_
        have cc : cellB L W (0 + (i : Int), 0 + (j : Int)) = true := by
          unfold cellB
          simp only [Bool.and_eq_true, decide_eq_true_eq]
          omega
        walk_at "rd"
        refine iteNe (fun c => ?_) (fun c => ?_)
        · walk_at "rd"
          refine iteEq (fun d => ?_) (fun d => ?_)
          · walk_at "rd"
            intro t8 ht8
            generalize hH8 : upd H7 t8 _ = H8
            obtain ⟨sm8, up8⟩ : Same H7 H8 ∧ H8 t8 = some (.tup (cellV (0 + (i : Int), 0 + (j : Int)))) := newH hH8 ht8
            clear hH8
            refine ⟨_, rfl, fun p9 H9 np9 sm9 ha9 => ?_⟩
            refine q p9 H9 (.bare (0 + (i : Int), 0 + (j : Int))) (s06.trans (sm7.trans (sm8.trans sm9))) (.bare ha9 (sm9 _ _ up8)) ⟨nob, cc, by omega⟩
          · walk_at "rd"
            intro t8 ht8
            generalize hH8 : upd H7 t8 _ = H8
            obtain ⟨sm8, up8⟩ : Same H7 H8 ∧ H8 t8 = some (.tup (cellV (0 + (i : Int), 0 + (j : Int)))) := newH hH8 ht8
            clear hH8
            refine ⟨_, rfl, fun p9 H9 np9 sm9 ha9 => ?_⟩
            refine q p9 H9 (.twice (0 + (i : Int), 0 + (j : Int))) (s06.trans (sm7.trans (sm8.trans sm9))) (.twice ha9 (sm9 _ _ up8)) ⟨nob, cc, by omega⟩
        · refine .mk (sm5.trans (sm6.trans sm7)) fun y h0 h1 => ?_
          by_cases ey : y = (j : Int)
          · subst ey
            have e0 : (0 : Int) + (j : Int) = j := by omega
            rw [e0] at c
            omega
          · exact hb5 y h0 (by omega)
      · rintro _ H5 @⟨_, _, _, _, _, sm5, hb5⟩
        refine .mk (sm4.trans sm5) fun x y h0 h1 h2 h3 => ?_
        by_cases ex : x = (i : Int)
        · subst ex
          have := hb5 y h2 (by omega)
          rw [show (0 : Int) + (i : Int) = i by omega] at this
          exact this
        · exact ha4 x y h0 (by omega) h2 h3
    · rintro _ H4 @⟨_, _, _, _, _, _, sm4, ha4⟩
      refine fun p9 H9 np9 sm9 ha9 => q p9 H9 .full (s03.trans (sm4.trans sm9)) (.full ha9) ⟨nob, fun c hc => ?_⟩
      obtain ⟨x, y⟩ := c
      unfold cellB at hc
      simp only [Bool.and_eq_true, decide_eq_true_eq] at hc
      exact ha4 x y (by omega) (by omega) (by omega) (by omega)
end
end BF

/-! ### a hundred bricks, one fault -/
namespace BF
def gb (i : Nat) : Brick := ⟨(i : Int) % 20, (i : Int) / 20 * 4, true⟩
def gL : List Brick := (List.range 100).map gb
theorem gL_len : gL.length = 100 := by
  unfold gL
  rw [List.length_map, List.length_range]
theorem gL_at {a : Nat} (h : a < 100) : gL[a]? = some (gb a) := by
  unfold gL
  rw [List.getElem?_map, List.getElem?_range h]
  rfl
theorem gL_full : fullB 20 20 1 4 gL = true := by decide +kernel
theorem gL_in : gL.any (beyB 20 20 1 4) = false := by decide +kernel
theorem gL_one {c : Int × Int} (h : cellB 20 20 c = true) : oftN 1 4 gL c = 1 := by
  have e := gL_full
  unfold fullB at e
  rw [Bool.and_eq_true] at e
  exact of_decide_eq_true (List.all_eq_true.mp e.2 c ((mem_grid (by decide) (by decide)).mpr h))
theorem oft_app (f s : Int) (xs ys : List Brick) (c : Int × Int) : oftN f s (xs ++ ys) c = oftN f s xs c + oftN f s ys c := by
  unfold oftN
  rw [List.filter_append, List.length_append]
theorem oft_sing (f s : Int) (b : Brick) (c : Int × Int) : oftN f s [b] c = if covB f s c b then 1 else 0 := by
  unfold oftN
  rw [List.filter_cons]
  split <;> rfl
theorem split_at {α : Type} {xs : List α} {a : Nat} {x : α} (h : xs[a]? = some x) : xs = xs.take a ++ ([x] ++ xs.drop (a + 1)) := by
  obtain ⟨hl, e⟩ := List.getElem?_eq_some_iff.mp h
  have z := (List.take_append_drop a xs).symm
  rw [List.drop_eq_getElem_cons hl, e] at z
  exact z
theorem oft_gone {f s : Int} {xs : List Brick} {a : Nat} {b : Brick} (h : xs[a]? = some b) (c : Int × Int) : oftN f s (xs.take a ++ xs.drop (a + 1)) c + (if covB f s c b then 1 else 0) = oftN f s xs c := by
  have e : oftN f s xs c = oftN f s (xs.take a ++ ([b] ++ xs.drop (a + 1))) c := congrArg (fun l => oftN f s l c) (split_at h)
  rw [oft_app, oft_app, oft_sing] at e
  rw [oft_app, e]
  omega
theorem gb_cov {a : Nat} {c : Int × Int} : covB 1 4 c (gb a) = true ↔ c.1 = (gb a).x ∧ (gb a).y ≤ c.2 ∧ c.2 < (gb a).y + 4 := by
  unfold covB Brick.lo Brick.hi
  simp only [Bool.and_eq_true, decide_eq_true_eq, show (gb a).l = true from rfl, if_true]
  omega
theorem gb_cell {a : Nat} (h : a < 100) : cellB 20 20 ((gb a).x, (gb a).y) = true := by
  unfold cellB gb
  simp only [Bool.and_eq_true, decide_eq_true_eq]
  omega
theorem gb_self (a : Nat) : covB 1 4 ((gb a).x, (gb a).y) (gb a) = true := gb_cov.mpr ⟨rfl, Int.le_refl _, by omega⟩
theorem any_gone {a : Nat} : (gL.take a ++ gL.drop (a + 1)).any (beyB 20 20 1 4) = false := by
  rw [List.any_eq_false]
  intro b hb
  have e := List.any_eq_false.mp gL_in b
  rcases List.mem_append.mp hb with z | z
  · exact e (List.mem_of_mem_take z)
  · exact e (List.mem_of_mem_drop z)
theorem isj_gone {a : Nat} (h : a < 100) {d : D5} (j : IsJ 20 20 1 4 (gL.take a ++ gL.drop (a + 1)) d) : ∃ c, d = .bare c ∧ cellB 20 20 c = true ∧ covB 1 4 c (gb a) = true := by
  have g := fun c => oft_gone (f := 1) (s := 4) (gL_at h) c
  cases d with
  | beyond i => exact absurd (beyAt_any j) (by rw [any_gone]; decide)
  | full =>
    have z := j.2 _ (gb_cell h)
    have y := g ((gb a).x, (gb a).y)
    rw [gL_one (gb_cell h), if_pos (gb_self a)] at y
    omega
  | twice c =>
    have y := g c
    rw [gL_one j.2.1] at y
    have := j.2.2
    omega
  | bare c =>
    refine ⟨c, rfl, j.2.1, ?_⟩
    have y := g c
    rw [gL_one j.2.1, j.2.2] at y
    cases e : covB 1 4 c (gb a) with
    | true => rfl
    | false => rw [e] at y; exact nomatch y
theorem isj_twice {a : Nat} (h : a < 100) {d : D5} (j : IsJ 20 20 1 4 (gL ++ [gb a]) d) : ∃ c, d = .twice c ∧ cellB 20 20 c = true ∧ covB 1 4 c (gb a) = true := by
  have g : ∀ c, oftN 1 4 (gL ++ [gb a]) c = oftN 1 4 gL c + if covB 1 4 c (gb a) then 1 else 0 := fun c => by rw [oft_app, oft_sing]
  have nb : (gL ++ [gb a]).any (beyB 20 20 1 4) = false := by
    rw [List.any_append, gL_in, Bool.false_or]
    have e := List.any_eq_false.mp gL_in (gb a) (List.mem_of_getElem? (gL_at h))
    simpa using e
  cases d with
  | beyond i => exact absurd (beyAt_any j) (by rw [nb]; decide)
  | full =>
    have z := j.2 _ (gb_cell h)
    rw [g, gL_one (gb_cell h), if_pos (gb_self a)] at z
    exact nomatch z
  | bare c =>
    have z := j.2.2
    rw [g, gL_one j.2.1] at z
    omega
  | twice c =>
    refine ⟨c, rfl, j.2.1, ?_⟩
    have y := j.2.2
    rw [g, gL_one j.2.1] at y
    cases e : covB 1 4 c (gb a) with
    | true => rfl
    | false => rw [e] at y; exact absurd y (by decide)
theorem bey_split {xs ys : List Brick} {b : Brick} {L W f s i : Int} (hx : xs.any (beyB L W f s) = false) (hy : ys.any (beyB L W f s) = false) (h : beyAt L W f s (xs ++ b :: ys) i = true) : i = xs.length := by
  unfold beyAt at h
  simp only [Bool.and_eq_true, decide_eq_true_eq] at h
  obtain ⟨⟨h0, h1⟩, h2⟩ := h
  obtain ⟨n, rfl⟩ := Int.eq_ofNat_of_zero_le h0
  rw [Int.toNat_natCast] at h2
  rcases Nat.lt_trichotomy n xs.length with c | c | c
  · rw [List.getElem?_append_left c, List.getElem?_eq_getElem c] at h2
    exact absurd h2 (List.any_eq_false.mp hx _ (List.getElem_mem c))
  · rw [c]
  · rw [List.getElem?_append_right (by omega)] at h2
    obtain ⟨k, hk⟩ : ∃ k, n - xs.length = k + 1 := ⟨n - xs.length - 1, by omega⟩
    rw [hk, List.getElem?_cons_succ] at h2
    cases e : ys[k]? with
    | none => rw [e] at h2; exact nomatch h2
    | some z =>
      rw [e] at h2
      exact absurd h2 (List.any_eq_false.mp hy _ (List.mem_of_getElem? e))
theorem isj_bey1 {xs ys : List Brick} {b : Brick} {L W f s : Int} {d : D5} (hx : xs.any (beyB L W f s) = false) (hy : ys.any (beyB L W f s) = false) (hb : beyB L W f s b = true) (j : IsJ L W f s (xs ++ b :: ys) d) : d = .beyond xs.length := by
  have an : (xs ++ b :: ys).any (beyB L W f s) = true := by
    rw [List.any_append, List.any_cons, hb, Bool.true_or, Bool.or_true]
  cases d with
  | beyond i => rw [bey_split hx hy j]
  | full => exact absurd j.1 (by rw [an]; decide)
  | bare c => exact absurd j.1 (by rw [an]; decide)
  | twice c => exact absurd j.1 (by rw [an]; decide)
end BF

/-! ### stripes.py -/
namespace BF
open PySem PySem.Spec PyProof.Rows L2
theorem pairs_ifs (l h t : Int) : (if (if l - 1 < t then l - 1 else t) - (if t - h + 1 > 0 then t - h + 1 else 0) + 1 > 0 then (if l - 1 < t then l - 1 else t) - (if t - h + 1 > 0 then t - h + 1 else 0) + 1 else 0) = pairsI l h t := by
  unfold pairsI
  split <;> split <;> split <;> omega
inductive SpPairs : Sp where
  | mk {l h t : Int} {H : Hp} {Q : VK} {E : XK} (q : Q (.int (pairsI l h t)) H) : SpPairs [.int l, .int h, .int t] H Q E
inductive SpAlike : Sp where
  | mk {L W s c : Int} {H : Hp} {Q : VK} {E : XK} (hL : Sz L) (hW : Sz W) (hs : Sz s) (hd : Dz L s) (he : Dz W s) (h0 : 0 ≤ c) (h1 : c < s) (q : ∀ H', Same H H' → Q (.int (alikeI L W s c)) H') : SpAlike [.int L, .int W, .int s, .int c] H Q E
section
variable {P : Program} {w : World} {K : PySem.W.Frag} {mg : Str → Option Value} {base : Heap}
theorem H_pairs_to (p : Pl K mg "pairs_to" s_pairs_to) (B : Bi mg) : Has P w K mg base CX0 1 "pairs_to" ["long", "high", "sum_wanted"] SpPairs := by
  refine p.mk0 sc_pairs_to (fun _ _ _ _ _ _ us hl => match us, hl with | [_, _, _], _ => rfl) (fun vs H Q E h => ?_) (fun f cdv A outer s H vs Q E hr h => ?_)
  · cases h; rfl
  · obtain @⟨l, hh, t, _, _, _, q⟩ := h
    refine ⟨_, (pss_one (ps_ret (pe_callB (call_max2 rfl) (by rfl) B.max (by decide +kernel) (pa_cons pe_int (pa_cons (pe_op op_add (pe_op op_sub (pe_callB (call_min2 rfl) (by rfl) B.min (by decide +kernel) (pa_cons (pv 2) (pa_cons (pe_op op_sub (pv 0) pe_int) pa_nil))) (pe_callB (call_max2 rfl) (by rfl) B.max (by decide +kernel) (pa_cons pe_int (pa_cons (pe_op op_add (pe_op op_sub (pv 2) (pv 1)) pe_int) pa_nil)))) pe_int) pa_nil))))), ?_⟩
    refine ⟨_, rfl, _, rfl, _, _, rfl, rfl, _, _, rfl, ?_⟩
    refine ⟨_, rfl, _, rfl, _, _, rfl, rfl, _, _, rfl, rfl, _, _, rfl, _, _, rfl, rfl, _, _, rfl, rfl, _, _, rfl, ?_⟩
    rw [← pairs_ifs l hh t] at q
    exact q
theorem H_alike (p : Pl K mg "alike" s_alike) (h_check_sizes : Has P w K mg base CX0 2 "check_sizes" ["some"] (SpCheckSizes K)) (h_is_number : Has P w K mg base CX0 1 "is_number" ["thing"] (SpIsNumber K))
    (h_pairs_to : Has P w K mg base CX0 1 "pairs_to" ["long", "high", "sum_wanted"] SpPairs) : Has P w K mg base CX0 3 "alike" ["length", "width", "size", "colour"] SpAlike := by
  refine p.mk0 sc_alike (fun _ _ _ _ _ _ us hl => match us, hl with | [_, _, _, _], _ => rfl) (fun vs H Q E h => ?_) (fun f cdv A outer s H vs Q E hr h => ?_)
  · cases h; rfl
  · obtain @⟨L, W, sz, c, _, _, _, hL, hW, hs, hd, he, h0, h1, q⟩ := h
    refine ⟨_, (pss_cons (ps_expr (pe_fn h_check_sizes (hr.mono (by decide)) pass0 (pa_cons (pe_lst (pa_cons (pv 0) (pa_cons (pv 1) (pa_cons (pv 2) pa_nil)))) pa_nil)))
      (pss_cons (ps_if (PW.pt (pw_or (pt_not (pt_val (pe_fn h_is_number (hr.mono (by decide)) pass0 (pa_cons (pv 3) pa_nil)))) (pw_or1 (pt_not (pt_chain op_le op_lt pe_int (pv 3) (pv 2)))))) (pss_one ps_never) pss_nil)
      (pss_cons (ps_par (i := 4) (j := 5) (by rfl) sc_alike.nd rfl rfl (by decide) rfl rfl (pa_cons (pe_op op_mod (pv 0) (pv 2)) (pa_cons (pe_op op_mod (pv 1) (pv 2)) pa_nil)) (by rfl))
      (pss_cons (ps_set (i := 6) sc_alike.nd rfl (Or.inl rfl) (pe_op op_add (pe_op op_mulX (pe_op op_fdivY (pv 0) (pv 2)) (pv 1)) (pe_op op_mulX (pv 4) (pe_op op_fdivY (pv 1) (pv 2)))))
      (pss_one (ps_ret (pe_op op_add (pe_op op_add (pv 6) (pe_fn h_pairs_to (hr.mono (by decide)) pass0 (pa_cons (pv 4) (pa_cons (pv 5) (pa_cons (pv 3) pa_nil))))) (pe_fn h_pairs_to (hr.mono (by decide)) pass0 (pa_cons (pv 4) (pa_cons (pv 5) (pa_cons (pe_op op_add (pv 3) (pv 2)) pa_nil))))))))))), ?_⟩
    refine ⟨_, rfl, _, rfl, _, rfl, by show 3 ≤ sizeLine; decide, fun p hp => .mk (ns := [L, W, sz]) (sqL upd_same) ?_ ?_⟩
    · intro n hn
      have e : n = L ∨ n = W ∨ n = sz := by simpa using hn
      rcases e with rfl | rfl | rfl
      · exact hL.pos
      · exact hW.pos
      · exact hs.pos
    · have sm : Same H (upd H p (.lst ([L, W, sz].map V.int))) := same_upd hp
      refine ⟨_, rfl, num_int ⟨true, rfl, iteF ?_⟩⟩
      refine ⟨_, rfl, _, _, rfl, rfl, _, rfl, iteP h0 ⟨_, rfl, _, _, rfl, rfl, _, rfl, iteNP h1 ?_⟩⟩
      have p0 := hs.pos
      have m1 : Bn 1100000 (L % sz) := hs.bn.mod p0
      have m2 : Bn 1100000 (W % sz) := hs.bn.mod p0
      refine ⟨_, rfl, _, rfl, _, _, rfl, rfl, p0, _, rfl, _, rfl, _, _, rfl, rfl, p0, _, _, rfl, ?_⟩
      refine ⟨_, rfl, _, rfl, _, _, rfl, rfl, hd.ok p0 (Int.le_of_lt hL.pos) (Int.le_refl _), _, rfl, _, _, rfl, rfl, (hL.bn.div p0).mulOk hW.bn (by decide), ?_⟩
      refine ⟨_, rfl, _, rfl, _, rfl, _, _, rfl, rfl, he.ok p0 (Int.le_of_lt hW.pos) (Int.le_refl _), _, _, rfl, rfl, m1.mulOk (hW.bn.div p0) (by decide), _, _, rfl, rfl, ?_⟩
      refine ⟨_, rfl, _, rfl, _, rfl, _, rfl, .mk ⟨_, _, rfl, rfl, ?_⟩⟩
      exact ⟨_, rfl, _, rfl, _, rfl, _, rfl, _, _, rfl, rfl, .mk ⟨_, _, rfl, rfl, q _ sm⟩⟩
end
end BF

namespace BF
open PySem PySem.Spec PyProof.Rows L2
section
variable {P : Program} {w : World} {K : PySem.W.Frag} {mg : Str → Option Value} {base : Heap}
theorem H_sum_of (p : Pl K mg "sum_of" s_sum_of) (h_check_sizes : Has P w K mg base CX0 2 "check_sizes" ["some"] (SpCheckSizes K)) (h_parts_of : Has P w K mg base CX0 2 "parts_of" ["size", "first", "second"] SpParts) :
    Has P w K mg base CX0 3 "sum_of" ["size", "first", "second"] SpParts := by
  refine p.mk0 sc_sum_of (fun _ _ _ _ _ _ us hl => match us, hl with | [_, _, _], _ => rfl) (fun vs H Q E h => ?_) (fun f cdv A outer s H vs Q E hr h => ?_)
  · cases h; rfl
  · obtain @⟨sz, a, b, _, _, _, hs, ha, hb, hm, hd, q⟩ := h
    refine ⟨_, (pss_cons (ps_expr (pe_fn h_check_sizes (hr.mono (by decide)) pass0 (pa_cons (pe_lst (pa_cons (pv 0) (pa_cons (pv 1) (pa_cons (pv 2) pa_nil)))) pa_nil)))
      (pss_one (ps_ret (pe_fn h_parts_of (hr.mono (by decide)) pass0 (pa_cons (pv 0) (pa_cons (pv 1) (pa_cons (pv 2) pa_nil))))))), ?_⟩
    refine ⟨_, rfl, _, rfl, _, rfl, by show 3 ≤ sizeLine; decide, fun p hp => .mk (ns := [sz, a, b]) (sqL upd_same) ?_ ?_⟩
    · intro n hn
      have e : n = sz ∨ n = a ∨ n = b := by simpa using hn
      rcases e with rfl | rfl | rfl
      · exact hs.pos
      · exact ha.pos
      · exact hb.pos
    · exact ⟨_, rfl, _, rfl, _, rfl, .mk hs ha hb hm hd (q.mono (same_upd hp))⟩
end
end BF

/-! ### what are no sizes is refused -/
namespace BF
open PySem PySem.Spec PyProof.Rows L2
/-- a thing and its type -/
inductive Kd (H : Hp) : V → String → Prop where
  | int (n : Int) : Kd H (.int n) "int"
  | bl (b : Bool) : Kd H (.bl b) "bool"
  | non : Kd H .non "NoneType"
  | str (x : Str) : Kd H (.str x) "str"
  | lst {a : Addr} {xs : List V} (h : H a = some (.lst xs)) : Kd H (.ref a) "list"
  | tup {a : Addr} {xs : List V} (h : H a = some (.tup xs)) : Kd H (.ref a) "tuple"
  | dct {a : Addr} {kvs : List (List Key × V)} (h : H a = some (.dT kvs)) : Kd H (.ref a) "dict"
theorem Kd.mono {H H' : Hp} {v : V} {T : String} (h : Kd H v T) (sm : Same H H') : Kd H' v T := by
  cases h with
  | int n => exact .int n
  | bl b => exact .bl b
  | non => exact .non
  | str x => exact .str x
  | lst h => exact .lst (sm _ _ h)
  | tup h => exact .tup (sm _ _ h)
  | dct h => exact .dct (sm _ _ h)
theorem Kd.ty {K : PySem.W.Frag} {H : Hp} {v : V} {T : String} (h : Kd H v T) : TyX K H v (.type T) := by
  cases h with
  | int n => exact .base (.int n)
  | bl b => exact .base (.bl b)
  | non => exact .base .non
  | str x => exact .base (.str x)
  | lst h => exact .base (.lst h)
  | tup h => exact .base (.tup h)
  | dct h => exact .base (.dT h)
theorem Kd.kit {H : Hp} {v : V} {T : String} (h : Kd H v T) : (∃ i b, kitB T "int" = some i ∧ kitB T "bool" = some b ∧ (i && !b) = decide (T = "int")) ∧ kitB T "tuple" = some (decide (T = "tuple")) ∧ kitB T "list" = some (decide (T = "list")) ∧ kitB T "bool" = some (decide (T = "bool")) := by
  cases h with
  | int n => exact ⟨⟨true, false, by decide +kernel, by decide +kernel, by decide +kernel⟩, by decide +kernel, by decide +kernel, by decide +kernel⟩
  | bl b => exact ⟨⟨true, true, by decide +kernel, by decide +kernel, by decide +kernel⟩, by decide +kernel, by decide +kernel, by decide +kernel⟩
  | non => exact ⟨⟨false, false, by decide +kernel, by decide +kernel, by decide +kernel⟩, by decide +kernel, by decide +kernel, by decide +kernel⟩
  | str x => exact ⟨⟨false, false, by decide +kernel, by decide +kernel, by decide +kernel⟩, by decide +kernel, by decide +kernel, by decide +kernel⟩
  | lst h => exact ⟨⟨false, false, by decide +kernel, by decide +kernel, by decide +kernel⟩, by decide +kernel, by decide +kernel, by decide +kernel⟩
  | tup h => exact ⟨⟨false, false, by decide +kernel, by decide +kernel, by decide +kernel⟩, by decide +kernel, by decide +kernel, by decide +kernel⟩
  | dct h => exact ⟨⟨false, false, by decide +kernel, by decide +kernel, by decide +kernel⟩, by decide +kernel, by decide +kernel, by decide +kernel⟩
theorem kd_num {K : PySem.W.Frag} {H : Hp} {v : V} {T : String} {Q : VK} {E : XK} (h : Kd H v T) (q : Q (.bl (decide (T = "int"))) H) : SpIsNumber K [v] H Q E := by
  obtain ⟨⟨i, b, h1, h2, h3⟩, _⟩ := h.kit
  refine .mk h.ty h1 h2 ?_
  rw [h3]
  exact q
inductive BadS (H : Hp) : V → Prop where
  | low {n : Int} (h : n < 1) : BadS H (.int n)
  | kd {v : V} {T : String} (h : Kd H v T) (hn : T ≠ "int") : BadS H v
theorem BadS.mono {H H' : Hp} {v : V} (h : BadS H v) (sm : Same H H') : BadS H' v := by
  cases h with
  | low h => exact .low h
  | kd h hn => exact .kd (h.mono sm) hn
/-- the first that is no size -/
inductive BadL (H : Hp) : List V → Prop where
  | here {v : V} {xs : List V} (h : BadS H v) : BadL H (v :: xs)
  | next {n : Int} {xs : List V} (h0 : 0 < n) (h : BadL H xs) : BadL H (.int n :: xs)
theorem BadL.mono {H H' : Hp} {xs : List V} (h : BadL H xs) (sm : Same H H') : BadL H' xs := by
  induction h with
  | here h => exact .here (h.mono sm)
  | next h0 _ ih => exact .next h0 ih
inductive SpCheckX (K : PySem.W.Frag) : Sp where
  | mk {a : Addr} {xs : List V} {H : Hp} {Q : VK} {E : XK} (hS : H a = some (.lst xs)) (hb : BadL H xs) (q : E (.ref (er K .size)) none H) : SpCheckX K [.ref a] H Q E
/-- n sizes, one of them bad; m more things -/
inductive SpSz (K : PySem.W.Frag) (n m : Nat) : Sp where
  | mk {xs ys : List V} {H : Hp} {Q : VK} {E : XK} (hx : xs.length = n) (hy : ys.length = m) (hb : BadL H xs) (q : ∀ H', Same H H' → E (.ref (er K .size)) none H') : SpSz K n m (xs ++ ys) H Q E
theorem pss_no {X : Cx} {ss : List Stmt} : PSs X ss (fun _ _ _ => False) := ⟨fun _ _ _ _ _ _ h => h.elim⟩
inductive BadI (a : Addr) (xs : List V) (H : Hp) (i : Nat) : L2.St → Hp → Prop where
  | mk {y : Option V} (h : BadL H (xs.drop i)) : BadI a xs H i [some (.ref a), y] H
theorem BadL.ne {H : Hp} {xs : List V} (h : BadL H xs) : xs ≠ [] := by
  cases h <;> intro z <;> cases z
section
variable {P : Program} {w : World} {K : PySem.W.Frag} {mg : Str → Option Value} {base : Heap}
theorem HX_check_sizes (p : Pl K mg "check_sizes" s_check_sizes) (GE : ErG K mg) (h_is_number : Has P w K mg base CX0 1 "is_number" ["thing"] (SpIsNumber K)) : Has P w K mg base (CXN P w) 2 "check_sizes" ["some"] (SpCheckX K) := by
  refine p.mkX sc_check_sizes (fun _ _ _ _ _ _ us hl => match us, hl with | [_], _ => rfl) (fun vs H Q E h => ?_) (fun f cdv A outer s H vs Q E hr h => ?_)
  · cases h; rfl
  · obtain @⟨a, xs, _, _, _, hS, hb, q⟩ := h
    refine ⟨_, (pss_one (ps_for (passes_of rfl) (by rfl) (pi_list (pv 0)) (pg_name (i := 1) sc_check_sizes.nd rfl (Or.inl rfl)) (pss_one (ps_if (PW.pt (pw_or (pt_not (pt_val (pe_fn h_is_number (hr.mono (by decide)) pass0 (pa_cons (pv 1) pa_nil)))) (pw_or1 (pt_cmpR op_lt (pv 1) pe_int (nomark _))))) (pss_one (L2N.ps_raise rfl (L2N.takes_of rfl rfl rfl rfl) (pmk_err (e := .size) GE rfl))) pss_nil)))), ?_⟩
    refine ⟨_, rfl, a, rfl, ⟨_, sqL hS⟩, for_list (K := K) (a := a) (xs := xs) (fun i σ H' => BadI a xs H i σ H') (.mk hb) ?_ ?_ ?_⟩
    · rintro i σ H' _ ⟨_⟩
      exact sqL hS
    · rintro i y σ _ hi ⟨h⟩
      have hlt := (List.getElem?_eq_some_iff.mp hi).1
      have ed : xs.drop i = y :: xs.drop (i + 1) := by
        rw [List.drop_eq_getElem_cons hlt, (List.getElem?_eq_some_iff.mp hi).2]
      rw [ed] at h
      cases h with
      | here hb =>
        cases hb with
        | low hn =>
          refine ⟨_, rfl, num_int ⟨_, rfl, iteF ⟨_, rfl, _, _, rfl, rfl, _, rfl, ?_⟩⟩⟩
          exact iteP hn q
        | kd hk hn =>
          refine ⟨_, rfl, kd_num hk ⟨_, rfl, ?_⟩⟩
          rw [decide_eq_false hn]
          exact iteT (iteT q)
      | @next n _ h0 h =>
        refine ⟨_, rfl, num_int ⟨_, rfl, iteF ⟨_, rfl, _, _, rfl, rfl, _, rfl, ?_⟩⟩⟩
        exact iteN (show ¬ n < 1 by omega) (.mk h)
    · rintro σ _ ⟨h⟩
      rw [List.drop_length] at h
      exact absurd rfl h.ne
theorem HX_told (p : Pl K mg "told" s_told) (hx_check_sizes : Has P w K mg base (CXN P w) 2 "check_sizes" ["some"] (SpCheckX K)) : Has P w K mg base (CXN P w) 3 "told" ["length", "width", "first", "second"] (SpSz K 4 0) := by
  refine p.mkX sc_told (fun _ _ _ _ _ _ us hl => match us, hl with | [_, _, _, _], _ => rfl) (fun vs H Q E h => ?_) (fun f cdv A outer s H vs Q E hr h => ?_)
  · cases h with
    | mk hx hy => rw [List.length_append, hx, hy]; rfl
  · obtain @⟨xs, ys, _, _, _, hx, hy, hb, q⟩ := h
    refine ⟨_, (pss_cons (ps_expr (pe_fn hx_check_sizes (hr.mono (by decide)) (L2N.passes_call (L2N.takes_of rfl rfl rfl rfl) (fun _ _ _ _ h => h)) (pa_cons (pe_lst (pa_cons (pv 0) (pa_cons (pv 1) (pa_cons (pv 2) (pa_cons (pv 3) pa_nil))))) pa_nil)))
      pss_no), ?_⟩
    match xs, ys, hx, hy with
    | [x0, x1, x2, x3], [], _, _ =>
      walk_at "rd"
      intro l hl
      generalize hH1 : upd H l _ = H1
      obtain ⟨sm1, up1⟩ : Same H H1 ∧ H1 l = some (.lst [x0, x1, x2, x3]) := newH hH1 hl
      clear hH1
      exact .mk up1 (hb.mono sm1) (q _ sm1)
theorem HXS_check_laid (p : Pl K mg "check_laid" s_check_laid) (hx_check_sizes : Has P w K mg base (CXN P w) 2 "check_sizes" ["some"] (SpCheckX K)) : Has P w K mg base (CXN P w) 3 "check_laid" ["length", "width", "first", "second"] (SpSz K 4 0) := by
  refine p.mkX sc_check_laid (fun _ _ _ _ _ _ us hl => match us, hl with | [_, _, _, _], _ => rfl) (fun vs H Q E h => ?_) (fun f cdv A outer s H vs Q E hr h => ?_)
  · cases h with
    | mk hx hy => rw [List.length_append, hx, hy]; rfl
  · obtain @⟨xs, ys, _, _, _, hx, hy, hb, q⟩ := h
    refine ⟨_, (pss_cons (ps_expr (pe_fn hx_check_sizes (hr.mono (by decide)) (L2N.passes_call (L2N.takes_of rfl rfl rfl rfl) (fun _ _ _ _ h => h)) (pa_cons (pe_lst (pa_cons (pv 0) (pa_cons (pv 1) (pa_cons (pv 2) (pa_cons (pv 3) pa_nil))))) pa_nil)))
      pss_no), ?_⟩
    match xs, ys, hx, hy with
    | [x0, x1, x2, x3], [], _, _ =>
      walk_at "rd"
      intro l hl
      generalize hH1 : upd H l _ = H1
      obtain ⟨sm1, up1⟩ : Same H H1 ∧ H1 l = some (.lst [x0, x1, x2, x3]) := newH hH1 hl
      clear hH1
      exact .mk up1 (hb.mono sm1) (q _ sm1)
theorem HXS_judged (p : Pl K mg "judged" s_judged) (hx_check_sizes : Has P w K mg base (CXN P w) 2 "check_sizes" ["some"] (SpCheckX K)) : Has P w K mg base (CXN P w) 3 "judged" ["length", "width", "first", "second", "bricks"] (SpSz K 4 1) := by
  refine p.mkX sc_judged (fun _ _ _ _ _ _ us hl => match us, hl with | [_, _, _, _, _], _ => rfl) (fun vs H Q E h => ?_) (fun f cdv A outer s H vs Q E hr h => ?_)
  · cases h with
    | mk hx hy => rw [List.length_append, hx, hy]; rfl
  · obtain @⟨xs, ys, _, _, _, hx, hy, hb, q⟩ := h
    refine ⟨_, (pss_cons (ps_expr (pe_fn hx_check_sizes (hr.mono (by decide)) (L2N.passes_call (L2N.takes_of rfl rfl rfl rfl) (fun _ _ _ _ h => h)) (pa_cons (pe_lst (pa_cons (pv 0) (pa_cons (pv 1) (pa_cons (pv 2) (pa_cons (pv 3) pa_nil))))) pa_nil)))
      pss_no), ?_⟩
    match xs, ys, hx, hy with
    | [x0, x1, x2, x3], [y0], _, _ =>
      walk_at "rd"
      intro l hl
      generalize hH1 : upd H l _ = H1
      obtain ⟨sm1, up1⟩ : Same H H1 ∧ H1 l = some (.lst [x0, x1, x2, x3]) := newH hH1 hl
      clear hH1
      exact .mk up1 (hb.mono sm1) (q _ sm1)
theorem HXS_sum_of (p : Pl K mg "sum_of" s_sum_of) (hx_check_sizes : Has P w K mg base (CXN P w) 2 "check_sizes" ["some"] (SpCheckX K)) : Has P w K mg base (CXN P w) 3 "sum_of" ["size", "first", "second"] (SpSz K 3 0) := by
  refine p.mkX sc_sum_of (fun _ _ _ _ _ _ us hl => match us, hl with | [_, _, _], _ => rfl) (fun vs H Q E h => ?_) (fun f cdv A outer s H vs Q E hr h => ?_)
  · cases h with
    | mk hx hy => rw [List.length_append, hx, hy]; rfl
  · obtain @⟨xs, ys, _, _, _, hx, hy, hb, q⟩ := h
    refine ⟨_, (pss_cons (ps_expr (pe_fn hx_check_sizes (hr.mono (by decide)) (L2N.passes_call (L2N.takes_of rfl rfl rfl rfl) (fun _ _ _ _ h => h)) (pa_cons (pe_lst (pa_cons (pv 0) (pa_cons (pv 1) (pa_cons (pv 2) pa_nil)))) pa_nil)))
      pss_no), ?_⟩
    match xs, ys, hx, hy with
    | [x0, x1, x2], [], _, _ =>
      walk_at "rd"
      intro l hl
      generalize hH1 : upd H l _ = H1
      obtain ⟨sm1, up1⟩ : Same H H1 ∧ H1 l = some (.lst [x0, x1, x2]) := newH hH1 hl
      clear hH1
      exact .mk up1 (hb.mono sm1) (q _ sm1)
theorem HXS_alike (p : Pl K mg "alike" s_alike) (hx_check_sizes : Has P w K mg base (CXN P w) 2 "check_sizes" ["some"] (SpCheckX K)) : Has P w K mg base (CXN P w) 3 "alike" ["length", "width", "size", "colour"] (SpSz K 3 1) := by
  refine p.mkX sc_alike (fun _ _ _ _ _ _ us hl => match us, hl with | [_, _, _, _], _ => rfl) (fun vs H Q E h => ?_) (fun f cdv A outer s H vs Q E hr h => ?_)
  · cases h with
    | mk hx hy => rw [List.length_append, hx, hy]; rfl
  · obtain @⟨xs, ys, _, _, _, hx, hy, hb, q⟩ := h
    refine ⟨_, (pss_cons (ps_expr (pe_fn hx_check_sizes (hr.mono (by decide)) (L2N.passes_call (L2N.takes_of rfl rfl rfl rfl) (fun _ _ _ _ h => h)) (pa_cons (pe_lst (pa_cons (pv 0) (pa_cons (pv 1) (pa_cons (pv 2) pa_nil)))) pa_nil)))
      pss_no), ?_⟩
    match xs, ys, hx, hy with
    | [x0, x1, x2], [y0], _, _ =>
      walk_at "rd"
      intro l hl
      generalize hH1 : upd H l _ = H1
      obtain ⟨sm1, up1⟩ : Same H H1 ∧ H1 l = some (.lst [x0, x1, x2]) := newH hH1 hl
      clear hH1
      exact .mk up1 (hb.mono sm1) (q _ sm1)
theorem HXS_lying (p : Pl K mg "lying" s_lying) (hx_check_laid : Has P w K mg base (CXN P w) 3 "check_laid" ["length", "width", "first", "second"] (SpSz K 4 0)) : Has P w K mg base (CXN P w) 4 "lying" ["length", "width", "first", "second"] (SpSz K 4 0) := by
  refine p.mkX sc_lying (fun _ _ _ _ _ _ us hl => match us, hl with | [_, _, _, _], _ => rfl) (fun vs H Q E h => ?_) (fun f cdv A outer s H vs Q E hr h => ?_)
  · cases h with
    | mk hx hy => rw [List.length_append, hx, hy]; rfl
  · obtain @⟨xs, ys, _, _, _, hx, hy, hb, q⟩ := h
    refine ⟨_, (pss_cons (ps_expr (pe_fn hx_check_laid (hr.mono (by decide)) (L2N.passes_call (L2N.takes_of rfl rfl rfl rfl) (fun _ _ _ _ h => h)) (pa_cons (pv 0) (pa_cons (pv 1) (pa_cons (pv 2) (pa_cons (pv 3) pa_nil))))))
      pss_no), ?_⟩
    match xs, ys, hx, hy with
    | [x0, x1, x2, x3], [], _, _ =>
      walk_at "rd"
      exact .mk (xs := [x0, x1, x2, x3]) (ys := []) rfl rfl hb q
theorem HXS_standing (p : Pl K mg "standing" s_standing) (hx_lying : Has P w K mg base (CXN P w) 4 "lying" ["length", "width", "first", "second"] (SpSz K 4 0)) : Has P w K mg base (CXN P w) 5 "standing" ["length", "width", "first", "second"] (SpSz K 4 0) := by
  refine p.mkX sc_standing (fun _ _ _ _ _ _ us hl => match us, hl with | [_, _, _, _], _ => rfl) (fun vs H Q E h => ?_) (fun f cdv A outer s H vs Q E hr h => ?_)
  · cases h with
    | mk hx hy => rw [List.length_append, hx, hy]; rfl
  · obtain @⟨xs, ys, _, _, _, hx, hy, hb, q⟩ := h
    refine ⟨_, (pss_cons (ps_set (i := 4) sc_standing.nd rfl (Or.inl rfl) (pe_fn hx_lying (hr.mono (by decide)) (L2N.passes_call (L2N.takes_of rfl rfl rfl rfl) (fun _ _ _ _ h => h)) (pa_cons (pv 0) (pa_cons (pv 1) (pa_cons (pv 2) (pa_cons (pv 3) pa_nil))))))
      pss_no), ?_⟩
    match xs, ys, hx, hy with
    | [x0, x1, x2, x3], [], _, _ =>
      walk_at "rd"
      exact .mk (xs := [x0, x1, x2, x3]) (ys := []) rfl rfl hb q
theorem HXS_brick_on (p : Pl K mg "brick_on" s_brick_on) (hx_check_laid : Has P w K mg base (CXN P w) 3 "check_laid" ["length", "width", "first", "second"] (SpSz K 4 0)) : Has P w K mg base (CXN P w) 4 "brick_on" ["length", "width", "first", "second", "cell"] (SpSz K 4 1) := by
  refine p.mkX sc_brick_on (fun _ _ _ _ _ _ us hl => match us, hl with | [_, _, _, _, _], _ => rfl) (fun vs H Q E h => ?_) (fun f cdv A outer s H vs Q E hr h => ?_)
  · cases h with
    | mk hx hy => rw [List.length_append, hx, hy]; rfl
  · obtain @⟨xs, ys, _, _, _, hx, hy, hb, q⟩ := h
    refine ⟨_, (pss_cons (ps_expr (pe_fn hx_check_laid (hr.mono (by decide)) (L2N.passes_call (L2N.takes_of rfl rfl rfl rfl) (fun _ _ _ _ h => h)) (pa_cons (pv 0) (pa_cons (pv 1) (pa_cons (pv 2) (pa_cons (pv 3) pa_nil))))))
      pss_no), ?_⟩
    match xs, ys, hx, hy with
    | [x0, x1, x2, x3], [y0], _, _ =>
      walk_at "rd"
      exact .mk (xs := [x0, x1, x2, x3]) (ys := []) rfl rfl hb q
end
end BF

/-! ### what are no cells, colours, bricks, and too great floors are refused -/
namespace BF
open PySem PySem.Spec PyProof.Rows L2
inductive BadC (L W : Int) (H : Hp) : V → Prop where
  | kd {v : V} {T : String} (h : Kd H v T) (hn : T ≠ "tuple") : BadC L W H v
  | len {a : Addr} {xs : List V} (h : H a = some (.tup xs)) (hl : xs.length ≠ 2) : BadC L W H (.ref a)
  | fst {a : Addr} {x y : V} {T : String} (h : H a = some (.tup [x, y])) (k : Kd H x T) (hn : T ≠ "int") : BadC L W H (.ref a)
  | snd {a : Addr} {n : Int} {y : V} {T : String} (h : H a = some (.tup [.int n, y])) (k : Kd H y T) (hn : T ≠ "int") : BadC L W H (.ref a)
  | out {a : Addr} {n m : Int} (h : H a = some (.tup [.int n, .int m])) (ho : ¬ ((0 ≤ n ∧ n < L) ∧ 0 ≤ m ∧ m < W)) : BadC L W H (.ref a)
theorem BadC.mono {L W : Int} {H H' : Hp} {v : V} (h : BadC L W H v) (sm : Same H H') : BadC L W H' v := by
  cases h with
  | kd h hn => exact .kd (h.mono sm) hn
  | len h hl => exact .len (sm _ _ h) hl
  | fst h k hn => exact .fst (sm _ _ h) (k.mono sm) hn
  | snd h k hn => exact .snd (sm _ _ h) (k.mono sm) hn
  | out h ho => exact .out (sm _ _ h) ho
inductive SpIsCellN : Sp where
  | mk {L W : Int} {v : V} {H : Hp} {Q : VK} {E : XK} (hb : BadC L W H v) (q : Q (.bl false) H) : SpIsCellN [.int L, .int W, v] H Q E
inductive SpBrickC (K : PySem.W.Frag) : Sp where
  | mk {L W f s : Int} {v : V} {H : Hp} {Q : VK} {E : XK} (hL : Sz L) (hW : Sz W) (hf : Ss f) (hs : Ss s) (fr : Free L W f s) (hb : BadC L W H v) (q : ∀ H', Same H H' → E (.ref (er K .cell)) none H') : SpBrickC K [.int L, .int W, .int f, .int s, v] H Q E
inductive BadK (s : Int) (H : Hp) : V → Prop where
  | kd {v : V} {T : String} (h : Kd H v T) (hn : T ≠ "int") : BadK s H v
  | out {n : Int} (ho : ¬ (0 ≤ n ∧ n < s)) : BadK s H (.int n)
theorem BadK.mono {s : Int} {H H' : Hp} {v : V} (h : BadK s H v) (sm : Same H H') : BadK s H' v := by
  cases h with
  | kd h hn => exact .kd (h.mono sm) hn
  | out ho => exact .out ho
inductive SpColX (K : PySem.W.Frag) : Sp where
  | mk {L W s : Int} {v : V} {H : Hp} {Q : VK} {E : XK} (hL : 0 < L) (hW : 0 < W) (hs : 0 < s) (hb : BadK s H v) (q : ∀ H', Same H H' → E (.ref (er K .colour)) none H') : SpColX K [.int L, .int W, .int s, v] H Q E
/-- a thing, whether it is a brick -/
inductive BrK (H : Hp) : V → Bool → Prop where
  | good {a : Addr} {x y : Int} {l : Bool} (h : H a = some (.tup [.int x, .int y, .bl l])) : BrK H (.ref a) true
  | kd {v : V} {T : String} (h : Kd H v T) (hn : T ≠ "tuple") : BrK H v false
  | len {a : Addr} {xs : List V} (h : H a = some (.tup xs)) (hl : xs.length ≠ 3) : BrK H (.ref a) false
  | trd {a : Addr} {x y z : V} {T : String} (h : H a = some (.tup [x, y, z])) (k : Kd H z T) (hn : T ≠ "bool") : BrK H (.ref a) false
  | fst {a : Addr} {x y : V} {l : Bool} {T : String} (h : H a = some (.tup [x, y, .bl l])) (k : Kd H x T) (hn : T ≠ "int") : BrK H (.ref a) false
  | snd {a : Addr} {n : Int} {y : V} {l : Bool} {T : String} (h : H a = some (.tup [.int n, y, .bl l])) (k : Kd H y T) (hn : T ≠ "int") : BrK H (.ref a) false
theorem BrK.mono {H H' : Hp} {v : V} {b : Bool} (h : BrK H v b) (sm : Same H H') : BrK H' v b := by
  cases h with
  | good h => exact .good (sm _ _ h)
  | kd h hn => exact .kd (h.mono sm) hn
  | len h hl => exact .len (sm _ _ h) hl
  | trd h k hn => exact .trd (sm _ _ h) (k.mono sm) hn
  | fst h k hn => exact .fst (sm _ _ h) (k.mono sm) hn
  | snd h k hn => exact .snd (sm _ _ h) (k.mono sm) hn
inductive SpIsBrickG : Sp where
  | mk {v : V} {b : Bool} {H : Hp} {Q : VK} {E : XK} (hb : BrK H v b) (q : Q (.bl b) H) : SpIsBrickG [v] H Q E
/-- things each a brick or none, one of them none -/
def BrL (H : Hp) (xs : List V) (bs : List Bool) : Prop := xs.length = bs.length ∧ ∀ (i : Nat) (v : V) (b : Bool), xs[i]? = some v → bs[i]? = some b → BrK H v b
theorem BrL.mono {H H' : Hp} {xs : List V} {bs : List Bool} (h : BrL H xs bs) (sm : Same H H') : BrL H' xs bs := ⟨h.1, fun i v b h1 h2 => (h.2 i v b h1 h2).mono sm⟩
inductive BadB (H : Hp) : V → Prop where
  | kd {v : V} {T : String} (h : Kd H v T) (hn : T ≠ "list") : BadB H v
  | lst {a : Addr} {xs : List V} {bs : List Bool} (h : H a = some (.lst xs)) (hl : xs.length ≤ 1000) (hb : BrL H xs bs) (ha : bs.all id = false) : BadB H (.ref a)
theorem BadB.mono' {H H' : Hp} {v : V} (h : BadB H v) (sm : Same H H') : BadB H' v := by
  cases h with
  | kd h hn => exact .kd (h.mono sm) hn
  | lst h hl hb ha => exact .lst (sm _ _ h) hl (hb.mono sm) ha
theorem same_mut2 {H H' : Hp} {F : Addr} {o : HO} (sm : Same H H') (n : H F = none) : Same H (upd H' F o) := fun b u e => by
  rw [upd_ne (ne_of_none e n)]
  exact sm b u e
inductive SpBrX (K : PySem.W.Frag) : Sp where
  | mk {L W f s : Int} {v : V} {H : Hp} {Q : VK} {E : XK} (hL : 0 < L) (hW : 0 < W) (hm : L * W ≤ 400) (hf : 0 < f) (hs : 0 < s) (hb : BadB H v) (q : ∀ H', Same H H' → E (.ref (er K .bricks)) none H') : SpBrX K [.int L, .int W, .int f, .int s, v] H Q E
inductive SpGrX (K : PySem.W.Frag) : Sp where
  | mk {L W f s : Int} {v : V} {H : Hp} {Q : VK} {E : XK} (hL : Sz L) (hW : Sz W) (hm : 400 < L * W) (hf : 0 < f) (hs : 0 < s) (q : ∀ H', Same H H' → E (.ref (er K .great)) none H') : SpGrX K [.int L, .int W, .int f, .int s, v] H Q E
section
variable {P : Program} {w : World} {K : PySem.W.Frag} {mg : Str → Option Value} {base : Heap}
theorem HN_is_cell (p : Pl K mg "is_cell" s_is_cell) (B : Bi mg) (h_is_number : Has P w K mg base CX0 1 "is_number" ["thing"] (SpIsNumber K)) : Has P w K mg base CX0 2 "is_cell" ["length", "width", "thing"] SpIsCellN := by
  refine p.mk0 sc_is_cell (fun _ _ _ _ _ _ us hl => match us, hl with | [_, _, _], _ => rfl) (fun vs H Q E h => ?_) (fun f cdv A outer s H vs Q E hr h => ?_)
  · cases h; rfl
  · obtain @⟨L, W, v, _, _, _, hb, q⟩ := h
    refine ⟨_, (pss_cons (ps_if (PW.pt (pw_or (pt_not (pt_val (pe_callB (r := rIsi K) call_isi (by rfl) B.isinstance (by decide +kernel) (pa_cons (pv 2) (pa_cons (pe_bltn (v := .ty "tuple") (by rfl) B.tuple (by decide +kernel) rfl) pa_nil))))) (pw_or (pt_cmpR op_ne (pe_callB (r := rLen2 K) call_len_seq (by rfl) B.len PySem.boot_len (pa_cons (pv 2) pa_nil)) pe_int (nomark _)) (pw_or (pt_not (pt_val (pe_fn h_is_number (hr.mono (by decide)) pass0 (pa_cons (pe_ix (r := rIxT K) ix_tup (pv 2) pe_int (fun _ _ => rfl)) pa_nil)))) (pw_or1 (pt_not (pt_val (pe_fn h_is_number (hr.mono (by decide)) pass0 (pa_cons (pe_ix (r := rIxT K) ix_tup (pv 2) pe_int (fun _ _ => rfl)) pa_nil))))))))) (pss_one (ps_ret pe_bl)) pss_nil)
      (pss_one (ps_ret (pe_and (pe_chain op_le op_lt pe_int (pe_ix (r := rIxT K) ix_tup (pv 2) pe_int (fun _ _ => rfl)) (pv 0)) (pe_one (pe_chain op_le op_lt pe_int (pe_ix (r := rIxT K) ix_tup (pv 2) pe_int (fun _ _ => rfl)) (pv 1))))))), ?_⟩
    cases hb with
    | kd h hn =>
      refine ⟨_, rfl, v, _, _, _, _, rfl, .ty "tuple", h.ty, kit_ty h.kit.2.1, _, rfl, ?_⟩
      rw [decide_eq_false hn]
      exact iteT (iteT q)
    | @len a xs h hl =>
      refine ⟨_, rfl, _, _, _, _, true, rfl, .ty "tuple", .base (.tup h), kit_ty (by decide +kernel), true, rfl, iteF ?_⟩
      refine ⟨_, rfl, a, _, rfl, .inr (sqT h), rfl, _, rfl, iteNe (fun _ => iteT q) (fun z => absurd (by omega) hl)⟩
    | @fst a x y T h k hn =>
      refine ⟨_, rfl, _, _, _, _, true, rfl, .ty "tuple", .base (.tup h), kit_ty (by decide +kernel), true, rfl, iteF ?_⟩
      refine ⟨_, rfl, a, _, rfl, .inr (sqT h), rfl, _, rfl, iteNe (fun z => absurd rfl z) (fun _ => ?_)⟩
      refine ⟨_, rfl, a, _, 0, _, rfl, rfl, sqT h, rfl, kd_num k ⟨_, rfl, ?_⟩⟩
      rw [decide_eq_false hn]
      exact iteT (iteT q)
    | @snd a n y T h k hn =>
      refine ⟨_, rfl, _, _, _, _, true, rfl, .ty "tuple", .base (.tup h), kit_ty (by decide +kernel), true, rfl, iteF ?_⟩
      refine ⟨_, rfl, a, _, rfl, .inr (sqT h), rfl, _, rfl, iteNe (fun z => absurd rfl z) (fun _ => ?_)⟩
      refine ⟨_, rfl, a, _, 0, _, rfl, rfl, sqT h, rfl, num_int ⟨true, rfl, iteF ?_⟩⟩
      refine ⟨_, rfl, a, _, 1, _, rfl, rfl, sqT h, rfl, kd_num k ⟨_, rfl, ?_⟩⟩
      rw [decide_eq_false hn]
      exact iteT q
    | @out a n m h ho =>
      refine ⟨_, rfl, _, _, _, _, true, rfl, .ty "tuple", .base (.tup h), kit_ty (by decide +kernel), true, rfl, iteF ?_⟩
      refine ⟨_, rfl, a, _, rfl, .inr (sqT h), rfl, _, rfl, iteNe (fun z => absurd rfl z) (fun _ => ?_)⟩
      refine ⟨_, rfl, a, _, 0, _, rfl, rfl, sqT h, rfl, num_int ⟨true, rfl, iteF ?_⟩⟩
      refine ⟨_, rfl, a, _, 1, _, rfl, rfl, sqT h, rfl, num_int ⟨true, rfl, iteF ?_⟩⟩
      refine ⟨_, rfl, a, _, 0, _, rfl, rfl, sqT h, rfl, ?_⟩
      walk_at "rd"
      refine iteD (fun c1 => ?_) (fun _ => ⟨_, rfl, iteF q⟩)
      walk_at "rd"
      refine iteD (fun c2 => ?_) (fun _ => q)
      refine ⟨_, rfl, a, _, 1, _, rfl, rfl, sqT h, rfl, ?_⟩
      walk_at "rd"
      refine iteD (fun c3 => ?_) (fun _ => q)
      walk_at "rd"
      show Q (.bl (decide (m < W))) H
      rw [decide_eq_false (show ¬ m < W from fun c4 => ho ⟨⟨c1, c2⟩, c3, c4⟩)]
      exact q
theorem HC_brick_on (p : Pl K mg "brick_on" s_brick_on) (GE : ErG K mg) (h_check_laid : Has P w K mg base CX0 4 "check_laid" ["length", "width", "first", "second"] SpLaid) (h_is_cell : Has P w K mg base CX0 2 "is_cell" ["length", "width", "thing"] SpIsCellN) :
    Has P w K mg base (CXN P w) 5 "brick_on" ["length", "width", "first", "second", "cell"] (SpBrickC K) := by
  refine p.mkX sc_brick_on (fun _ _ _ _ _ _ us hl => match us, hl with | [_, _, _, _, _], _ => rfl) (fun vs H Q E h => ?_) (fun f cdv A outer s H vs Q E hr h => ?_)
  · cases h; rfl
  · obtain @⟨L, W, fi, se, v, _, _, _, hL, hW, hf, hs, fr, hb, q⟩ := h
    refine ⟨_, (pss_cons (ps_expr (pe_fn h_check_laid (hr.mono (by decide)) pass0 (pa_cons (pv 0) (pa_cons (pv 1) (pa_cons (pv 2) (pa_cons (pv 3) pa_nil))))))
      (pss_cons (ps_if (pt_not (pt_val (pe_fn h_is_cell (hr.mono (by decide)) pass0 (pa_cons (pv 0) (pa_cons (pv 1) (pa_cons (pv 4) pa_nil)))))) (pss_one (L2N.ps_raise rfl (L2N.takes_of rfl rfl rfl rfl) (pmk_err (e := .cell) GE rfl))) pss_nil)
      pss_no)), ?_⟩
    walk_at "rd"
    refine .mk hL hW hf hs fr fun H1 sm1 => ?_
    walk_at "rd"
    exact .mk (hb.mono sm1) ⟨_, rfl, iteT (q _ sm1)⟩
theorem HC_alike (p : Pl K mg "alike" s_alike) (GE : ErG K mg) (h_check_sizes : Has P w K mg base CX0 2 "check_sizes" ["some"] (SpCheckSizes K)) (h_is_number : Has P w K mg base CX0 1 "is_number" ["thing"] (SpIsNumber K)) :
    Has P w K mg base (CXN P w) 3 "alike" ["length", "width", "size", "colour"] (SpColX K) := by
  refine p.mkX sc_alike (fun _ _ _ _ _ _ us hl => match us, hl with | [_, _, _, _], _ => rfl) (fun vs H Q E h => ?_) (fun f cdv A outer s H vs Q E hr h => ?_)
  · cases h; rfl
  · obtain @⟨L, W, se, v, _, _, _, hL, hW, hs, hb, q⟩ := h
    refine ⟨_, (pss_cons (ps_expr (pe_fn h_check_sizes (hr.mono (by decide)) pass0 (pa_cons (pe_lst (pa_cons (pv 0) (pa_cons (pv 1) (pa_cons (pv 2) pa_nil)))) pa_nil)))
      (pss_cons (ps_if (PW.pt (pw_or (pt_not (pt_val (pe_fn h_is_number (hr.mono (by decide)) pass0 (pa_cons (pv 3) pa_nil)))) (pw_or1 (pt_not (pt_chain op_le op_lt pe_int (pv 3) (pv 2)))))) (pss_one (L2N.ps_raise rfl (L2N.takes_of rfl rfl rfl rfl) (pmk_err (e := .colour) GE rfl))) pss_nil)
      pss_no)), ?_⟩
    walk_at "rd"
    intro l hl
    generalize hH1 : upd H l _ = H1
    obtain ⟨sm1, up1⟩ : Same H H1 ∧ H1 l = some (.lst ([L, W, se].map V.int)) := newH hH1 hl
    clear hH1
    refine .mk (ns := [L, W, se]) (sqL up1) (fun n hn => ?_) ?_
    · have e : n = L ∨ n = W ∨ n = se := by simpa using hn
      rcases e with rfl | rfl | rfl <;> assumption
    cases hb.mono sm1 with
    | kd h hn =>
      refine ⟨_, rfl, kd_num h ⟨_, rfl, ?_⟩⟩
      rw [decide_eq_false hn]
      exact iteT (iteT (q _ sm1))
    | @out n ho =>
      refine ⟨_, rfl, num_int ⟨_, rfl, iteF ?_⟩⟩
      walk_at "rd"
      refine iteD (fun c1 => ?_) (fun _ => ⟨_, rfl, iteT (q _ sm1)⟩)
      walk_at "rd"
      refine iteNN (show ¬ n < se from fun c2 => ho ⟨c1, c2⟩) (q _ sm1)
theorem HG_is_brick (p : Pl K mg "is_brick" s_is_brick) (B : Bi mg) (h_is_number : Has P w K mg base CX0 1 "is_number" ["thing"] (SpIsNumber K)) : Has P w K mg base CX0 2 "is_brick" ["thing"] SpIsBrickG := by
  refine p.mk0 sc_is_brick (fun _ _ _ _ _ _ us hl => match us, hl with | [_], _ => rfl) (fun vs H Q E h => ?_) (fun f cdv A outer s H vs Q E hr h => ?_)
  · cases h; rfl
  · obtain @⟨v, b, _, _, _, hb, q⟩ := h
    refine ⟨_, (pss_cons (ps_if (PW.pt (pw_or (pt_not (pt_val (pe_callB (r := rIsi K) call_isi (by rfl) B.isinstance (by decide +kernel) (pa_cons (pv 0) (pa_cons (pe_bltn (v := .ty "tuple") (by rfl) B.tuple (by decide +kernel) rfl) pa_nil))))) (pw_or (pt_cmpR op_ne (pe_callB (r := rLen2 K) call_len_seq (by rfl) B.len PySem.boot_len (pa_cons (pv 0) pa_nil)) pe_int (nomark _)) (pw_or1 (pt_not (pt_val (pe_callB (r := rIsi K) call_isi (by rfl) B.isinstance (by decide +kernel) (pa_cons (pe_ix (r := rIxT K) ix_tup (pv 0) pe_int (fun _ _ => rfl)) (pa_cons (pe_bltn (v := .ty "bool") (by rfl) B.bool (by decide +kernel) rfl) pa_nil))))))))) (pss_one (ps_ret pe_bl)) pss_nil)
      (pss_one (ps_ret (pe_and (pe_fn h_is_number (hr.mono (by decide)) pass0 (pa_cons (pe_ix (r := rIxT K) ix_tup (pv 0) pe_int (fun _ _ => rfl)) pa_nil)) (pe_one (pe_fn h_is_number (hr.mono (by decide)) pass0 (pa_cons (pe_ix (r := rIxT K) ix_tup (pv 0) pe_int (fun _ _ => rfl)) pa_nil))))))), ?_⟩
    cases hb with
    | @good o x y l ho =>
      refine ⟨_, rfl, _, _, _, _, true, rfl, .ty "tuple", .base (.tup ho), kit_ty (by decide +kernel), true, rfl, iteF ?_⟩
      refine ⟨_, rfl, o, _, rfl, .inr (sqT ho), rfl, _, rfl, iteNe (fun z => absurd rfl z) (fun _ => ?_)⟩
      refine ⟨_, rfl, o, _, 2, _, rfl, rfl, sqT ho, rfl, _, _, _, _, true, rfl, .ty "bool", .base (.bl l), kit_ty (by decide +kernel), true, rfl, iteF ?_⟩
      refine ⟨_, rfl, o, _, 0, _, rfl, rfl, sqT ho, rfl, num_int ⟨true, rfl, iteT ?_⟩⟩
      exact ⟨_, rfl, o, _, 1, _, rfl, rfl, sqT ho, rfl, num_int q⟩
    | kd h hn =>
      refine ⟨_, rfl, v, _, _, _, _, rfl, .ty "tuple", h.ty, kit_ty h.kit.2.1, _, rfl, ?_⟩
      rw [decide_eq_false hn]
      exact iteT (iteT q)
    | @len a xs h hl =>
      refine ⟨_, rfl, _, _, _, _, true, rfl, .ty "tuple", .base (.tup h), kit_ty (by decide +kernel), true, rfl, iteF ?_⟩
      refine ⟨_, rfl, a, _, rfl, .inr (sqT h), rfl, _, rfl, iteNe (fun _ => iteT q) (fun z => absurd (by omega) hl)⟩
    | @trd a x y z T h k hn =>
      refine ⟨_, rfl, _, _, _, _, true, rfl, .ty "tuple", .base (.tup h), kit_ty (by decide +kernel), true, rfl, iteF ?_⟩
      refine ⟨_, rfl, a, _, rfl, .inr (sqT h), rfl, _, rfl, iteNe (fun z => absurd rfl z) (fun _ => ?_)⟩
      refine ⟨_, rfl, a, _, 2, _, rfl, rfl, sqT h, rfl, z, _, _, _, _, rfl, .ty "bool", k.ty, kit_ty k.kit.2.2.2, _, rfl, ?_⟩
      rw [decide_eq_false hn]
      exact iteT q
    | @fst a x y l T h k hn =>
      refine ⟨_, rfl, _, _, _, _, true, rfl, .ty "tuple", .base (.tup h), kit_ty (by decide +kernel), true, rfl, iteF ?_⟩
      refine ⟨_, rfl, a, _, rfl, .inr (sqT h), rfl, _, rfl, iteNe (fun z => absurd rfl z) (fun _ => ?_)⟩
      refine ⟨_, rfl, a, _, 2, _, rfl, rfl, sqT h, rfl, _, _, _, _, true, rfl, .ty "bool", .base (.bl l), kit_ty (by decide +kernel), true, rfl, iteF ?_⟩
      refine ⟨_, rfl, a, _, 0, _, rfl, rfl, sqT h, rfl, kd_num k ⟨_, rfl, ?_⟩⟩
      rw [decide_eq_false hn]
      exact iteF q
    | @snd a n y l T h k hn =>
      refine ⟨_, rfl, _, _, _, _, true, rfl, .ty "tuple", .base (.tup h), kit_ty (by decide +kernel), true, rfl, iteF ?_⟩
      refine ⟨_, rfl, a, _, rfl, .inr (sqT h), rfl, _, rfl, iteNe (fun z => absurd rfl z) (fun _ => ?_)⟩
      refine ⟨_, rfl, a, _, 2, _, rfl, rfl, sqT h, rfl, _, _, _, _, true, rfl, .ty "bool", .base (.bl l), kit_ty (by decide +kernel), true, rfl, iteF ?_⟩
      refine ⟨_, rfl, a, _, 0, _, rfl, rfl, sqT h, rfl, num_int ⟨true, rfl, iteT ?_⟩⟩
      refine ⟨_, rfl, a, _, 1, _, rfl, rfl, sqT h, rfl, kd_num k ?_⟩
      rw [decide_eq_false hn]
      exact q
theorem HB_judged (p : Pl K mg "judged" s_judged) (B : Bi mg) (GE : ErG K mg) (M_MOST : ∃ t, mg "MOST" = some (.int 400 t)) (h_check_sizes : Has P w K mg base CX0 2 "check_sizes" ["some"] (SpCheckSizes K)) (h_is_brick : Has P w K mg base CX0 2 "is_brick" ["thing"] SpIsBrickG) :
    Has P w K mg base (CXN P w) 3 "judged" ["length", "width", "first", "second", "bricks"] (SpBrX K) := by
  refine p.mkX sc_judged (fun _ _ _ _ _ _ us hl => match us, hl with | [_, _, _, _, _], _ => rfl) (fun vs H Q E h => ?_) (fun f cdv A outer s H vs Q E hr h => ?_)
  · cases h; rfl
  · obtain @⟨L, W, fi, se, v, _, _, _, hL, hW, hm, hf, hs, hb, q⟩ := h
    refine ⟨_, (pss_cons (ps_expr (pe_fn h_check_sizes (hr.mono (by decide)) pass0 (pa_cons (pe_lst (pa_cons (pv 0) (pa_cons (pv 1) (pa_cons (pv 2) (pa_cons (pv 3) pa_nil))))) pa_nil)))
      (pss_cons (ps_if (pt_cmpR op_gt (pe_op op_mulX (pv 0) (pv 1)) (pe_const (by rfl) M_MOST) (nomark _)) (pss_one (L2N.ps_raise rfl (L2N.takes_of rfl rfl rfl rfl) (pmk_err (e := .great) GE rfl))) pss_nil)
      (pss_cons (ps_if (PW.pt (pw_or (pt_not (pt_val (pe_callB (r := rIsi K) call_isi (by rfl) B.isinstance (by decide +kernel) (pa_cons (pv 4) (pa_cons (pe_bltn (v := .ty "list") (by rfl) B.list (by decide +kernel) rfl) pa_nil))))) (pw_or1 (pt_not (pt_val (pe_callB (cr_all rfl) (by rfl) B.all (by decide +kernel) (pa_cons (pe_lc (own := [("brick", 6)]) (by rfl) sc_judged.nd (pi_list (pv 4)) (blkOk_by (own := [("brick", 6)]) (N := ["length", "width", "first", "second", "bricks", "count", "brick", "along", "up", "many"]) (sc := defScope s_judged) (by decide +kernel)) (fun _ _ _ _ _ => (pg_name (i := 6) sc_judged.nd rfl (Or.inl rfl))) (fun _ _ _ _ _ => pts_nil) (fun _ _ _ _ _ => (pe_fn h_is_brick (hr.mono (by decide)) pass0 (pa_cons (pv 6) pa_nil)))) pa_nil))))))) (pss_one (L2N.ps_raise rfl (L2N.takes_of rfl rfl rfl rfl) (pmk_err (e := .bricks) GE rfl))) pss_nil)
      pss_no))), ?_⟩
    have hL2 : L ≤ 400 := by
      have := Int.mul_le_mul_of_nonneg_left (show (1 : Int) ≤ W by omega) (show 0 ≤ L by omega)
      omega
    have hW2 : W ≤ 400 := by
      have := Int.mul_le_mul_of_nonneg_right (show (1 : Int) ≤ L by omega) (show 0 ≤ W by omega)
      omega
    have bL : Bn 20 L := bnl (by omega)
    have bW : Bn 20 W := bnl (by omega)
    walk_at "rd"
    intro l hl
    generalize hH1 : upd H l _ = H1
    obtain ⟨sm1, up1⟩ : Same H H1 ∧ H1 l = some (.lst ([L, W, fi, se].map V.int)) := newH hH1 hl
    clear hH1
    refine .mk (ns := [L, W, fi, se]) (sqL up1) (fun n hn => ?_) ?_
    · have e : n = L ∨ n = W ∨ n = fi ∨ n = se := by simpa using hn
      rcases e with rfl | rfl | rfl | rfl <;> assumption
    walk_at "rd"
    refine iteN (show ¬ (400 : Int) < L * W by omega) ?_
    cases hb.mono' sm1 with
    | kd h hn =>
      refine ⟨_, rfl, v, _, _, _, _, rfl, .ty "list", h.ty, kit_ty h.kit.2.2.1, _, rfl, ?_⟩
      rw [decide_eq_false hn]
      exact iteT (iteT (q _ sm1))
    | @lst a xs bs h hl hbl ha =>
      refine ⟨_, rfl, _, _, _, _, true, rfl, .ty "list", .base (.lst h), kit_ty (by decide +kernel), true, rfl, iteF ?_⟩
      refine ⟨_, rfl, a, rfl, ⟨_, sqL h⟩, fun D hD => ?_⟩
      refine lc_list (K := K) (a := a) (xs := xs) (fun i H' => Same H1 H' ∧ H' D = some (.lst ((bs.take i).map V.bl))) ⟨same_upd hD, by rw [upd_same]; rfl⟩ (fun i H' _ ⟨sm, _⟩ => sqL (sm _ _ h)) ?_ ?_
      · rintro i x H' hi ⟨sm, eD⟩
        have hlt := (List.getElem?_eq_some_iff.mp hi).1
        have hlb : i < bs.length := by rw [← hbl.1]; exact hlt
        have hbi : bs[i]? = some bs[i] := List.getElem?_eq_getElem hlb
        refine ⟨rfl, lc_yes ?_⟩
        walk_at "rd"
        refine .mk ((hbl.2 i x _ hi hbi).mono sm) ⟨_, eD, ?_, same_mut2 sm hD, ?_⟩
        · rw [List.length_map, List.length_take]
          exact Nat.lt_of_le_of_lt (show min i bs.length ≤ 1000 by omega) (by decide)
        · rw [upd_same, List.take_add_one, hbi, List.map_append]
          rfl
      rintro H2 ⟨sm2, eD⟩
      rw [hbl.1, List.take_length] at eD
      refine ⟨D, bs, rfl, sqL eD, ?_⟩
      rw [ha]
      exact ⟨_, rfl, iteT (q _ (sm1.trans sm2))⟩
theorem HG_judged (p : Pl K mg "judged" s_judged) (GE : ErG K mg) (M_MOST : ∃ t, mg "MOST" = some (.int 400 t)) (h_check_sizes : Has P w K mg base CX0 2 "check_sizes" ["some"] (SpCheckSizes K)) :
    Has P w K mg base (CXN P w) 3 "judged" ["length", "width", "first", "second", "bricks"] (SpGrX K) := by
  refine p.mkX sc_judged (fun _ _ _ _ _ _ us hl => match us, hl with | [_, _, _, _, _], _ => rfl) (fun vs H Q E h => ?_) (fun f cdv A outer s H vs Q E hr h => ?_)
  · cases h; rfl
  · obtain @⟨L, W, fi, se, v, _, _, _, hL, hW, hm, hf, hs, q⟩ := h
    refine ⟨_, (pss_cons (ps_expr (pe_fn h_check_sizes (hr.mono (by decide)) pass0 (pa_cons (pe_lst (pa_cons (pv 0) (pa_cons (pv 1) (pa_cons (pv 2) (pa_cons (pv 3) pa_nil))))) pa_nil)))
      (pss_cons (ps_if (pt_cmpR op_gt (pe_op op_mulX (pv 0) (pv 1)) (pe_const (by rfl) M_MOST) (nomark _)) (pss_one (L2N.ps_raise rfl (L2N.takes_of rfl rfl rfl rfl) (pmk_err (e := .great) GE rfl))) pss_nil)
      pss_no)), ?_⟩
    have pL := hL.pos
    have pW := hW.pos
    walk_at "rd"
    intro l hl
    generalize hH1 : upd H l _ = H1
    obtain ⟨sm1, up1⟩ : Same H H1 ∧ H1 l = some (.lst ([L, W, fi, se].map V.int)) := newH hH1 hl
    clear hH1
    refine .mk (ns := [L, W, fi, se]) (sqL up1) (fun n hn => ?_) ?_
    · have e : n = L ∨ n = W ∨ n = fi ∨ n = se := by simpa using hn
      rcases e with rfl | rfl | rfl | rfl <;> assumption
    walk_at "rd"
    exact iteP hm (q _ sm1)
end
end BF

/-! ### floors that can't be laid are refused -/
namespace BF
open PySem PySem.Spec PyProof.Rows L2
inductive SpLaidX (K : PySem.W.Frag) : Sp where
  | mk {L W f s : Int} {H : Hp} {Q : VK} {E : XK} (hL : Sz L) (hW : Sz W) (hf : Ss f) (hs : Ss s) (fr : ¬ Free L W f s) (q : ∀ H', Same H H' → E (.ref (er K .barred)) none H') : SpLaidX K [.int L, .int W, .int f, .int s] H Q E
inductive SpBrickX (K : PySem.W.Frag) : Sp where
  | mk {L W f s : Int} {v : V} {H : Hp} {Q : VK} {E : XK} (hL : Sz L) (hW : Sz W) (hf : Ss f) (hs : Ss s) (fr : ¬ Free L W f s) (q : ∀ H', Same H H' → E (.ref (er K .barred)) none H') : SpBrickX K [.int L, .int W, .int f, .int s, v] H Q E
theorem shp_two (xs ys : List Int) : SeqAt.shaped (.tuple [.list (xs.map .int), .list (ys.map .int)]) = true := (shp_tuple (n := 2) fun d hd => by
  have z : d = .list (xs.map .int) ∨ d = .list (ys.map .int) := by simpa using hd
  rcases z with rfl | rfl
  · exact shp_list (n := 1) fun d hd => by
      obtain ⟨i, _, rfl⟩ := List.mem_map.mp hd
      exact shp_int i
  · exact shp_list (n := 1) fun d hd => by
      obtain ⟨i, _, rfl⟩ := List.mem_map.mp hd
      exact shp_int i).ok (by decide)
theorem two_neR {xs ys : List Int} (h : ¬ (xs = [] ∧ ys = [])) : (!PyData.eqv (.tuple [.list (xs.map .int), .list (ys.map .int)]) (.tuple [.list [], .list []])) = true := by
  cases xs with
  | cons x xs => rfl
  | nil =>
    cases ys with
    | cons y ys => rfl
    | nil => exact absurd ⟨rfl, rfl⟩ h
section
variable {P : Program} {w : World} {K : PySem.W.Frag} {mg : Str → Option Value} {base : Heap}
theorem HX_check_laid (p : Pl K mg "check_laid" s_check_laid) (GE : ErG K mg) (h_check_sizes : Has P w K mg base CX0 2 "check_sizes" ["some"] (SpCheckSizes K)) (h_what_bars : Has P w K mg base CX0 3 "what_bars" ["length", "width", "first", "second"] SpBars) :
    Has P w K mg base (CXN P w) 4 "check_laid" ["length", "width", "first", "second"] (SpLaidX K) := by
  refine p.mkX sc_check_laid (fun _ _ _ _ _ _ us hl => match us, hl with | [_, _, _, _], _ => rfl) (fun vs H Q E h => ?_) (fun f cdv A outer s H vs Q E hr h => ?_)
  · cases h; rfl
  · obtain @⟨L, W, fi, se, _, _, _, hL, hW, hf, hs, fr, q⟩ := h
    refine ⟨_, (pss_cons (ps_expr (pe_fn h_check_sizes (hr.mono (by decide)) pass0 (pa_cons (pe_lst (pa_cons (pv 0) (pa_cons (pv 1) (pa_cons (pv 2) (pa_cons (pv 3) pa_nil))))) pa_nil)))
      (pss_one (ps_if (pt_cmpR (r := rNeD K) (op_neD hr.units) (pe_fn h_what_bars (hr.mono (by decide)) pass0 (pa_cons (pv 0) (pa_cons (pv 1) (pa_cons (pv 2) (pa_cons (pv 3) pa_nil))))) (pe_tup (pa_cons (pe_lst pa_nil) (pa_cons (pe_lst pa_nil) pa_nil))) (nomark _)) (pss_one (L2N.ps_raise rfl (L2N.takes_of rfl rfl rfl rfl) (pmk_err (e := .barred) GE rfl))) pss_nil))), ?_⟩
    walk_at "rd"
    intro l1 hl1
    generalize hH1 : upd H l1 _ = H1
    obtain ⟨sm1, up1⟩ : Same H H1 ∧ H1 l1 = some (.lst ([L, W, fi, se].map V.int)) := newH hH1 hl1
    clear hH1
    refine .mk (ns := [L, W, fi, se]) (sqL up1) ?_ ?_
    · intro n hn
      have e : n = L ∨ n = W ∨ n = fi ∨ n = se := by simpa using hn
      rcases e with rfl | rfl | rfl | rfl
      · exact hL.pos
      · exact hW.pos
      · exact hf.pos
      · exact hs.pos
    walk_at "rd"
    refine .mk hL hW hf.sz hs.sz (.of hs) fun t p1 p2 H2 sm2 ht hp1 hp2 => ?_
    walk_at "rd"
    intro l3 hl3
    generalize hH3 : upd H2 l3 _ = H3
    obtain ⟨sm3, up3⟩ : Same H2 H3 ∧ H3 l3 = some (.lst []) := newH hH3 hl3
    clear hH3
    walk_at "rd"
    intro l4 hl4
    generalize hH4 : upd H3 l4 _ = H4
    obtain ⟨sm4, up4⟩ : Same H3 H4 ∧ H4 l4 = some (.lst []) := newH hH4 hl4
    clear hH4
    walk_at "rd"
    intro t5 ht5
    generalize hH5 : upd H4 t5 _ = H5
    obtain ⟨sm5, up5⟩ : Same H4 H5 ∧ H5 t5 = some (.tup [.ref l3, .ref l4]) := newH hH5 ht5
    clear hH5
    have s45 := sm4.trans sm5
    have s25 := sm3.trans s45
    refine ⟨.tuple [.list ((strL L W fi se).map .int), .list ((shoL L W fi se).map .int)], .tuple [.list [], .list []], .tup (sqT (s25 _ _ ht)) (.cons (.lst (sqL (s25 _ _ hp1)) (dp_ints _)) (.cons (.lst (sqL (s25 _ _ hp2)) (dp_ints _)) .nil)), .tup (sqT up5) (.cons (.lst (sqL (s45 _ _ up3)) .nil) (.cons (.lst (sqL (sm5 _ _ up4)) .nil) .nil)), shp_two _ _, rfl, ?_⟩
    rw [two_neR fr]
    exact ⟨_, rfl, iteT (q _ (sm1.trans (sm2.trans s25)))⟩
theorem HX_brick_on (p : Pl K mg "brick_on" s_brick_on) (GE : ErG K mg) (hx_check_laid : Has P w K mg base (CXN P w) 4 "check_laid" ["length", "width", "first", "second"] (SpLaidX K)) (h_is_cell : Has P w K mg base CX0 2 "is_cell" ["length", "width", "thing"] SpIsCell) (h_plan : Has P w K mg base CX0 3 "plan" ["length", "width", "first", "second"] SpPlan) :
    Has P w K mg base (CXN P w) 5 "brick_on" ["length", "width", "first", "second", "cell"] (SpBrickX K) := by
  refine p.mkX sc_brick_on (fun _ _ _ _ _ _ us hl => match us, hl with | [_, _, _, _, _], _ => rfl) (fun vs H Q E h => ?_) (fun f cdv A outer s H vs Q E hr h => ?_)
  · cases h; rfl
  · obtain @⟨L, W, fi, se, v, _, _, _, hL, hW, hf, hs, fr, q⟩ := h
    refine ⟨_, (pss_cons (ps_expr (pe_fn hx_check_laid (hr.mono (by decide)) (L2N.passes_call (L2N.takes_of rfl rfl rfl rfl) (fun _ _ _ _ h => h)) (pa_cons (pv 0) (pa_cons (pv 1) (pa_cons (pv 2) (pa_cons (pv 3) pa_nil))))))
      (pss_cons (ps_if (pt_not (pt_val (pe_fn h_is_cell (hr.mono (by decide)) pass0 (pa_cons (pv 0) (pa_cons (pv 1) (pa_cons (pv 4) pa_nil)))))) (pss_one (L2N.ps_raise rfl (L2N.takes_of rfl rfl rfl rfl) (pmk_err (e := .cell) GE rfl))) pss_nil)
      (pss_cons (ps_asg (pe_fn h_plan (hr.mono (by decide)) pass0 (pa_cons (pv 0) (pa_cons (pv 1) (pa_cons (pv 2) (pa_cons (pv 3) pa_nil))))) (pg_tup (by rfl) (pgs_cons (pg_name (i := 5) sc_brick_on.nd rfl (Or.inl rfl)) (pgs_cons (pg_name (i := 6) sc_brick_on.nd rfl (Or.inl rfl)) pgs_nil))))
      (pss_cons (ps_if (PW.pt (pw_and (pt_cmpR op_lt (pe_ix (r := rIxT K) ix_tup (pv 4) pe_int (fun _ _ => rfl)) (pv 5) (nomark _)) (pw_and1 (pt_cmpR op_lt (pe_ix (r := rIxT K) ix_tup (pv 4) pe_int (fun _ _ => rfl)) (pv 6) (nomark _))))) (pss_one (ps_ret (pe_tup (pa_cons (pe_tup (pa_cons (pe_op op_mulX (pe_op op_fdivW (pe_ix (r := rIxT K) ix_tup (pv 4) pe_int (fun _ _ => rfl)) (pv 2)) (pv 2)) (pa_cons (pe_op op_mulX (pe_op op_fdivW (pe_ix (r := rIxT K) ix_tup (pv 4) pe_int (fun _ _ => rfl)) (pv 3)) (pv 3)) pa_nil))) (pa_cons pe_bl pa_nil))))) pss_nil)
      (pss_cons (ps_par (i := 7) (j := 8) (by rfl) sc_brick_on.nd rfl rfl (by decide) rfl rfl (pa_cons (pe_ifExp (pt_cmpR op_eq (pv 6) (pv 1) (nomark _)) (pv 5) pe_int) (pa_cons (pe_ifExp (pt_cmpR op_eq (pv 5) (pv 0) (nomark _)) (pv 6) pe_int) pa_nil)) (by rfl))
      (pss_cons (ps_set (i := 9) sc_brick_on.nd rfl (Or.inl rfl) (pe_tup (pa_cons (pe_op op_add (pv 7) (pe_op op_mulX (pe_op op_fdivW (pe_op op_sub (pe_ix (r := rIxT K) ix_tup (pv 4) pe_int (fun _ _ => rfl)) (pv 7)) (pv 3)) (pv 3))) (pa_cons (pe_op op_add (pv 8) (pe_op op_mulX (pe_op op_fdivW (pe_op op_sub (pe_ix (r := rIxT K) ix_tup (pv 4) pe_int (fun _ _ => rfl)) (pv 8)) (pv 2)) (pv 2))) pa_nil))))
      (pss_one (ps_ret (pe_tup (pa_cons (pv 9) (pa_cons (pe_cmpR op_eq (pv 2) (pv 3) (nomark _)) pa_nil))))))))))), ?_⟩
    walk_at "rd"
    exact .mk hL hW hf hs fr q
theorem HX_lying (p : Pl K mg "lying" s_lying) (hx_check_laid : Has P w K mg base (CXN P w) 4 "check_laid" ["length", "width", "first", "second"] (SpLaidX K)) (h_plan : Has P w K mg base CX0 3 "plan" ["length", "width", "first", "second"] SpPlan) :
    Has P w K mg base (CXN P w) 5 "lying" ["length", "width", "first", "second"] (SpLaidX K) := by
  refine p.mkX sc_lying (fun _ _ _ _ _ _ us hl => match us, hl with | [_, _, _, _], _ => rfl) (fun vs H Q E h => ?_) (fun f cdv A outer s H vs Q E hr h => ?_)
  · cases h; rfl
  · obtain @⟨L, W, fi, se, _, _, _, hL, hW, hf, hs, fr, q⟩ := h
    refine ⟨_, (pss_cons (ps_expr (pe_fn hx_check_laid (hr.mono (by decide)) (L2N.passes_call (L2N.takes_of rfl rfl rfl rfl) (fun _ _ _ _ h => h)) (pa_cons (pv 0) (pa_cons (pv 1) (pa_cons (pv 2) (pa_cons (pv 3) pa_nil))))))
      (pss_cons (ps_asg (pe_fn h_plan (hr.mono (by decide)) pass0 (pa_cons (pv 0) (pa_cons (pv 1) (pa_cons (pv 2) (pa_cons (pv 3) pa_nil))))) (pg_tup (by rfl) (pgs_cons (pg_name (i := 4) sc_lying.nd rfl (Or.inl rfl)) (pgs_cons (pg_name (i := 5) sc_lying.nd rfl (Or.inl rfl)) pgs_nil))))
      (pss_cons (ps_if (pt_cmpR op_eq (pv 2) (pv 3) (nomark _)) (pss_one (ps_ret (pe_op op_fdivW (pe_op op_mulX (pv 0) (pv 1)) (pe_op op_mulX (pv 2) (pv 3))))) pss_nil)
      (pss_one (ps_ret (pe_op op_fdivW (pe_op op_mulX (pv 4) (pv 5)) (pe_op op_mulX (pv 2) (pv 3)))))))), ?_⟩
    walk_at "rd"
    exact .mk hL hW hf hs fr q
theorem HX_standing (p : Pl K mg "standing" s_standing) (hx_lying : Has P w K mg base (CXN P w) 5 "lying" ["length", "width", "first", "second"] (SpLaidX K)) : Has P w K mg base (CXN P w) 6 "standing" ["length", "width", "first", "second"] (SpLaidX K) := by
  refine p.mkX sc_standing (fun _ _ _ _ _ _ us hl => match us, hl with | [_, _, _, _], _ => rfl) (fun vs H Q E h => ?_) (fun f cdv A outer s H vs Q E hr h => ?_)
  · cases h; rfl
  · obtain @⟨L, W, fi, se, _, _, _, hL, hW, hf, hs, fr, q⟩ := h
    refine ⟨_, (pss_cons (ps_set (i := 4) sc_standing.nd rfl (Or.inl rfl) (pe_fn hx_lying (hr.mono (by decide)) (L2N.passes_call (L2N.takes_of rfl rfl rfl rfl) (fun _ _ _ _ h => h)) (pa_cons (pv 0) (pa_cons (pv 1) (pa_cons (pv 2) (pa_cons (pv 3) pa_nil))))))
      (pss_one (ps_ret (pe_op op_sub (pe_op op_fdivW (pe_op op_mulX (pv 0) (pv 1)) (pe_op op_mulX (pv 2) (pv 3))) (pv 4))))), ?_⟩
    walk_at "rd"
    exact .mk hL hW hf hs fr q
end
end BF

/-! ### k11: lambdas that let errors out; a refusal's word -/
namespace BF
open PySem PySem.Spec PyProof.Rows L2 LamX NdefX
/-- x(..), x a name that holds the lambda F at f; what it lets out is caught here -/
def tCallLS (f : Addr) (F : LF) (i : Nat) (ws : List (Option V)) (sp : List (Option V) → Sp) (E : L2.St → XK) (t : TA) : TE := fun σ H Q => σ[i]? = some (some (.ref f)) ∧ H f = some (LamO f F) ∧
  t σ H fun vs H1 => H1 f = some (LamO f F) ∧ H1 F.c = some (CodeO F.c F.qual) ∧ sp ws vs H1 Q (E σ)
section
variable {X : Cx} {CX : CXT} {F : LF} {f : Addr} {ps fr : List Str} {i j k : Nat} {x : Str} {sp : List (Option V) → Sp} {ws : List (Option V)} {E : L2.St → XK} {t : TA} {e : Expr} {es : List Expr} {p pos : Pos}
theorem pe_calllS (Fn : LOk X.prog X.w X.K X.mg X.base CX k f F ps fr sp) (C : CellsAt F.cl fr ws X.s_0.heap X.H_0) (hex : X.ex = []) (hr : Room j X.A) (hk : k ≤ j) (hx : ∀ σ, PassesAt CX X σ (E σ)) (hN : X.N[i]? = some x) (hv : Vis X.env.scope x) (ha : PA X (e :: es) t)
    (hd : (x == ("__debug__" : Str)) = false := by decide) (hcd : (x == ("__classdict__" : Str)) = false := by decide)
    (he : starEach (e :: es) X.env = (false, eval e X.env) :: starEach es X.env := by rfl) (hpl : (backTo pos (starEach es X.env)).any (·.1) = false := by rfl) :
    PE X (.Call (.Name x p) (e :: es) [] pos) (tCallLS f F i ws sp E t) := by
  refine ⟨fun pins s σ H Q I h => ?_⟩
  obtain ⟨hs, hf, ht⟩ := h
  refine wpAny_Call_Name_kw (thn ((pe_var (pos := p) hN hv hd hcd).run pins s σ H (fun v H1 => v = .ref f ∧ H1 = H) I ⟨.ref f, hs, rfl, rfl⟩) fun u s1 ⟨v, H1, I1, r1, q1⟩ => ?_)
  obtain ⟨ev, eH⟩ := q1
  subst ev
  rw [eH] at I1
  obtain rfl : u = Value.ref f := r1
  refine PySem.W.callWith_F (first := []) (fnAt_lam I1 hf) (thn (ha.run pos pins s1 σ H _ I1 ht) fun us s2 ⟨vs, H2, I2, r, h1, h2, q⟩ => ⟨fnAt_lam I2 h1, ?_⟩) he hpl
  show wpAny _ _ (call (.ref f) us) _ _ _
  refine wpAny_call (codeAny_mono (Fn.run X.A X.stack s2 H2 us vs _ Q (E σ) (hr.mono hk) I2.env0 h1 h2 (cells_later C hex I2) r q) fun r s' hq => ?_)
  cases r with
  | error e => exact hx σ pins H2 s2 e s' I2 hq
  | ok fl =>
    cases fl with
    | ret u => exact I2.after hq
    | next => exact False.elim hq
    | brk => exact False.elim hq
    | cont => exact False.elim hq
end
/-- the lambda F stands at f -/
structure Kp (f : Addr) (F : LF) (H : Hp) : Prop where
  f : H f = some (LamO f F)
  c : H F.c = some (CodeO F.c F.qual)
theorem Kp.mono {f : Addr} {F : LF} {H H' : Hp} (h : Kp f F H) (sm : Same H H') : Kp f F H' := ⟨sm _ _ h.f, sm _ _ h.c⟩
theorem Kp.ext {f : Addr} {F : LF} {H H' : Hp} (h : Kp f F H) (e : ExtN H H') : Kp f F H' := ⟨e _ _ h.f lamO_ne, e _ _ h.c codeO_ne⟩
theorem cells_nil {cl : List (Str × Addr)} {h : Heap} {H : Hp} (e : cl = []) : CellsAt cl [] [] h H := by
  subst e
  refine ⟨rfl, fun y c z => ?_, fun _ _ _ z => ?_, fun i y z => ?_⟩
  · cases z
  · cases z
  · cases z
/-- (..)[l.index(True)] -/
theorem pe_ixIndex {X : Cx} (K : PySem.W.Frag) (hK : X.K = K) {a o : Expr} {ta to : TE} {b : Bool} {k : Nat} {p1 apos cpos pos : Pos} (ha : PE X a ta) (ho : PE X o to) (hbase : attributeBase o "index" X.env (eval o X.env) = eval o X.env := by rfl) (hline : (apos.endLine == cpos.line) = true := by rfl) :
    PE X (.Subscript a (.Call (.Attribute o "index" apos) [.Constant (.bool b) k p1] [] cpos) pos) (tOp (rIxT K) ta (tBM K "list" (rIndex K) to (tCons (tC (.bl b)) tNil))) := by
  subst hK
  exact pe_ix ix_tup ha (pe_bm PySem.F.plainAttrs_list PySem.F.slot_list_index PySem.F.type_list_index mt_index ho (pa_cons pe_bl pa_nil) hbase (by rfl) hline (by rfl) (by rfl)) (fun _ _ => rfl)
def Er.word : Er → Str
  | .bricks => "bricks"
  | .cell => "cell"
  | .colour => "colour"
  | .size => "size"
  | .barred => "barred"
  | .great => "great"
  | .floor => "other"
def dueW (e : Er) : List Bool := [Er.bricks, .cell, .colour, .size, .barred, .great].map fun y => decide (y = e) || decide (y = .floor)
def idxW : Er → Nat
  | .bricks => 0
  | .cell => 1
  | .colour => 2
  | .size => 3
  | .barred => 4
  | .great => 5
  | .floor => 0
theorem due_flat (e : Er) : ((dueW e).map V.bl).all flatV = true := by cases e <;> rfl
theorem due_in {e : Er} (he : e ≠ .floor) : inV (.bl true) ((dueW e).map V.bl) = true := by
  cases e with
  | floor => exact absurd rfl he
  | _ => rfl
theorem due_at {e : Er} (he : e ≠ .floor) : ((dueW e).map V.bl)[idxW e]? = some (.bl true) := by
  cases e with
  | floor => exact absurd rfl he
  | _ => rfl
theorem due_lt {e : Er} (he : e ≠ .floor) : ∀ (m : Nat) (z : V), m < idxW e → ((dueW e).map V.bl)[m]? = some z → eqV z (.bl true) = false := by
  intro m z hm h
  have m6 : m < 5 := by
    cases e <;> (simp only [idxW] at hm; omega)
  have hm' : m = 0 ∨ m = 1 ∨ m = 2 ∨ m = 3 ∨ m = 4 := by omega
  rcases hm' with rfl | rfl | rfl | rfl | rfl <;> cases e <;> first | exact absurd hm (by decide) | exact absurd rfl he | (cases h; rfl)
theorem word_at {e : Er} (he : e ≠ .floor) : atI [V.str "bricks", .str "cell", .str "colour", .str "size", .str "barred", .str "great"] (idxW e : Int) = some (.str e.word) := by
  cases e with
  | floor => exact absurd rfl he
  | _ => rfl
theorem tyL {K : PySem.W.Frag} {H : Hp} {l : Addr} {xs : List V} (h : H l = some (.lst xs)) : tyV K "list" (.ref l) H := .inl ⟨rfl, xs, sqL h⟩
/-- a lambda of one parameter that is refused by e for what is Ok -/
inductive SpRz (K : PySem.W.Frag) (Ok : Hp → V → Prop) (e : Er) : List (Option V) → Sp where
  | mk {ws : List (Option V)} {v : V} {H : Hp} {Q : VK} {E : XK} (hv : Ok H v) (x : ∀ H', Same H H' → E (.ref (er K e)) none H') : SpRz K Ok e ws [v] H Q E
inductive SpWrd (P : Program) (w : World) (K : PySem.W.Frag) (mg : Str → Option Value) (base : Heap) : Sp where
  | mk {f : Addr} {v : V} {F : LF} {x : Str} {Ok : Hp → V → Prop} {e : Er} {H : Hp} {Q : VK} {E : XK} (ok : LOk P w K mg base (CXN P w) 8 f F [x] [] (SpRz K Ok e)) (kp : Kp f F H) (hcl : F.cl = []) (he : e ≠ .floor) (hv : Ok H v) (q : ∀ H', Same H H' → Q (.str e.word) H') : SpWrd P w K mg base [.ref f, v] H Q E
theorem try_in {K : PySem.W.Frag} {c : Value} {i : Nat} {ts : Addr → Value → Option Addr → TS} {Wo : WX} {tb : WX → TS} {U : TS} {D : Ends} {σ : L2.St} {H : Hp} (h : tb (wAs K c i ts Wo { D with nx := U D }) { D with nx := U D } σ H) : tSeq (tTryN K c i ts Wo tb) U D σ H := h
section
variable {P : Program} {w : World} {K : PySem.W.Frag} {mg : Str → Option Value} {base : Heap}
theorem H__law_word (p : Pl K mg "_law_word" s__law_word) (B : Bi mg) (GE : ErG K mg) : Has P w K mg base CX0 9 "_law_word" ["_law_ask", "_law_thing"] (SpWrd P w K mg base) := by
  refine p.mk0 sc__law_word (fun _ _ _ _ _ _ us hl => match us, hl with | [_, _], _ => rfl) (fun vs H Q E h => ?_) (fun fn cdv A outer s H vs Q E hr h => ?_)
  · cases h; rfl
  · obtain @⟨f, v, F, x, Ok, e, _, _, _, l__law_ask, kp, hcl, he, hv, q⟩ := h
    have c__law_ask : CellsAt F.cl [] [] s.heap H := cells_nil hcl
    refine ⟨_, (pss_cons (ps_tryN (i := 2) rfl rfl sc__law_word.nd rfl rfl ⟨rfl, by decide, .inl (GE.g .floor)⟩ takes0N (fun W pn xe tk _ => (pss_one (ps_expr (pe_calllS (i := 0) l__law_ask c__law_ask rfl (hr.mono (by decide)) (Nat.le_refl _) (fun σ => L2N.passAt tk σ) rfl (.inl rfl) (pa_cons (pv 1) pa_nil))))) (fun a oe cls d pn hz hf => pss_any (Ok := IsEr K cls d) (fun e hi => (pss_cons (ps_set (i := 3) sc__law_word.nd rfl (Or.inl rfl) (pe_lst (pa_cons (pe_callB (r := rIsX K e a) (call_isX GE hi hz hf) (by rfl) B.isinstance (by decide +kernel) (pa_cons (pv 2) (pa_cons (pe_glob (v := .ref (er _ .bricks)) (by rfl) (GE.g .bricks) rfl) pa_nil))) (pa_cons (pe_callB (r := rIsX K e a) (call_isX GE hi hz hf) (by rfl) B.isinstance (by decide +kernel) (pa_cons (pv 2) (pa_cons (pe_glob (v := .ref (er _ .cell)) (by rfl) (GE.g .cell) rfl) pa_nil))) pa_nil))))
      (pss_cons (ps_set (i := 3) sc__law_word.nd rfl (Or.inl rfl) (pe_op op_cat (pv 3) (pe_lst (pa_cons (pe_callB (r := rIsX K e a) (call_isX GE hi hz hf) (by rfl) B.isinstance (by decide +kernel) (pa_cons (pv 2) (pa_cons (pe_glob (v := .ref (er _ .colour)) (by rfl) (GE.g .colour) rfl) pa_nil))) (pa_cons (pe_callB (r := rIsX K e a) (call_isX GE hi hz hf) (by rfl) B.isinstance (by decide +kernel) (pa_cons (pv 2) (pa_cons (pe_glob (v := .ref (er _ .size)) (by rfl) (GE.g .size) rfl) pa_nil))) pa_nil)))))
      (pss_cons (ps_set (i := 3) sc__law_word.nd rfl (Or.inl rfl) (pe_op op_cat (pv 3) (pe_lst (pa_cons (pe_callB (r := rIsX K e a) (call_isX GE hi hz hf) (by rfl) B.isinstance (by decide +kernel) (pa_cons (pv 2) (pa_cons (pe_glob (v := .ref (er _ .barred)) (by rfl) (GE.g .barred) rfl) pa_nil))) (pa_cons (pe_callB (r := rIsX K e a) (call_isX GE hi hz hf) (by rfl) B.isinstance (by decide +kernel) (pa_cons (pv 2) (pa_cons (pe_glob (v := .ref (er _ .great)) (by rfl) (GE.g .great) rfl) pa_nil))) pa_nil)))))
      (pss_one (ps_ret (pe_ifExp (pt_cmpR (r := rIn K false) op_in_seq pe_bl (pv 3) (by rfl)) (pe_ixIndex K rfl (pe_tup (pa_cons pe_str (pa_cons pe_str (pa_cons pe_str (pa_cons pe_str (pa_cons pe_str (pa_cons pe_str pa_nil))))))) (pv 3)) pe_str)))))))))
      (pss_one (ps_ret pe_str))), ?_⟩
    refine try_in ?_
    generalize hW : wAs _ _ _ _ _ _ = W
    have key : ∀ H2, Same H H2 → W (.ref (er K e)) none [some (.ref f), some v, none, none] H2 := by
      intro H2 sm2
      rw [← hW]
      refine ⟨true, (GE.f e).ex, fun _ a ha => ⟨e, ⟨rfl, rfl⟩, ?_⟩, fun z => nomatch z⟩
      walk_at "rd"
      intro l3 hl3
      generalize hH3 : upd H2 l3 _ = H3
      obtain ⟨sm3, up3⟩ := newH hH3 hl3
      clear hH3
      walk_at "rd"
      intro l4 hl4
      generalize hH4 : upd H3 l4 _ = H4
      obtain ⟨sm4, up4⟩ := newH hH4 hl4
      clear hH4
      refine ⟨l3, l4, _, _, rfl, rfl, sm4 _ _ up3, up4, size4 (by simp), fun l5 hl5 => ?_⟩
      generalize hH5 : upd H4 l5 _ = H5
      obtain ⟨sm5, up5⟩ := newH hH5 hl5
      clear hH5
      walk_at "rd"
      intro l6 hl6
      generalize hH6 : upd H5 l6 _ = H6
      obtain ⟨sm6, up6⟩ := newH hH6 hl6
      clear hH6
      refine ⟨l5, l6, _, _, rfl, rfl, sm6 _ _ up5, up6, size4 (by simp), fun l7 hl7 => ?_⟩
      generalize hH7 : upd H6 l7 _ = H7
      obtain ⟨sm7, up7⟩ : Same H6 H7 ∧ H7 l7 = some (.lst ((dueW e).map V.bl)) := newH hH7 hl7
      clear hH7
      have s27 := sm3.trans (sm4.trans (sm5.trans (sm6.trans sm7)))
      refine ⟨_, rfl, l7, _, rfl, .inl (sqL up7), rfl, due_flat e, true, ?_, ?_⟩
      · show V.bl (inV (.bl true) ((dueW e).map V.bl)) = _
        rw [due_in he]
      refine iteT ?_
      walk_at "rd"
      intro t8 ht8
      generalize hH8 : upd H7 t8 _ = H8
      obtain ⟨sm8, up8⟩ : Same H7 H8 ∧ H8 t8 = some (.tup [.str "bricks", .str "cell", .str "colour", .str "size", .str "barred", .str "great"]) := newH hH8 ht8
      clear hH8
      have up78 := sm8 _ _ up7
      refine ⟨_, rfl, tyL up78, l7, _, .bl true, idxW e, .bl true, rfl, rfl, sqL up78, rfl, due_flat e, due_at he, rfl, due_lt he, ?_⟩
      refine ⟨t8, _, (idxW e : Int), .str e.word, rfl, rfl, sqT up8, word_at he, ?_⟩
      exact q _ (sm2.trans (s27.trans sm8))
    clear hW
    refine ⟨rfl, kp.f, _, rfl, kp.f, kp.c, .mk hv key⟩
end
end BF

/-! ### k11: what is told -/
namespace BF
open PySem PySem.Spec PyProof.Rows L2 LamX NdefX
/-- the far size -/
structure Far (x : Int) : Prop where
  lo : 1000000 < x
  bn : Bn 1050000 x
theorem Far.sz {x : Int} (h : Far x) : Sz x := ⟨by have := h.lo; omega, h.bn.mono (by decide)⟩
/-- all of a list -/
theorem allc {α : Type} {p : α → Prop} {a : α} {l : List α} (h : p a) (t : ∀ x ∈ l, p x) : ∀ x ∈ a :: l, p x := List.forall_mem_cons.mpr ⟨h, t⟩
theorem alln {α : Type} {p : α → Prop} : ∀ x ∈ ([] : List α), p x := fun _ z => nomatch z
theorem all_true (n : Nat) : (List.replicate n true).all id = true := by
  rw [List.all_eq_true]
  intro x hx
  rw [List.eq_of_mem_replicate hx]
  rfl
theorem all_false (n : Nat) : (List.replicate n false).any id = false := by
  rw [List.any_eq_false]
  intro x hx
  rw [List.eq_of_mem_replicate hx]
  decide
theorem size3 {n : Nat} (h : n ≤ 1000) : n < sizeLine := Nat.lt_of_le_of_lt h (by decide)
theorem told_due (L W f s : Int) : due4 L W f s (tellA L W f s) = true := by
  unfold tellA strL shoL
  cases h1 : strB L W f <;> cases h2 : strB L W s <;> cases h3 : shoB L f s <;> cases h4 : shoB W f s <;> simp [two, due4, h1, h2, h3, h4, strL, shoL]
theorem told_laid (L W f s : Int) : decide ((tellA L W f s).cl = .laid) = due4 L W f s .laid := by
  unfold tellA due4 strL shoL
  cases h1 : strB L W f <;> cases h2 : strB L W s <;> cases h3 : shoB L f s <;> cases h4 : shoB W f s <;> simp [two, Ans.cl]
theorem ne_bl {a b : Bool} (h : b = a) : (!decide (V.bl a = V.bl b)) = false := by
  rw [h, decide_eq_true rfl]
  rfl
/-- what five answers show -/
noncomputable def shown (L W f s : Int) : List Bool := [due4 L W f s .laid, strB L W f, strB L W s, shoB L f s, shoB W f s]
/-- a floor, a brick and what is due of them -/
structure CaseOk (L W f s : Int) (d : Str) : Prop where
  zl : Sz L
  zw : Sz W
  zf : Sz f
  zs : Sz s
  fl : Fl L W f s
  due : (d = "laid" ∧ Free L W f s) ∨ (d = "striped 0" ∧ strB L W f = true) ∨ (d = "striped 1" ∧ strB L W s = true) ∨ (d = "short 0" ∧ shoB L f s = true) ∨ (d = "short 1" ∧ shoB W f s = true)
theorem sz_lit {x : Int} (h0 : 0 < x) (h : x < 1000000) : Sz x := (ss_lit h0 h).sz
theorem free_due {L W f s : Int} (h : Free L W f s) : strB L W f = false ∧ strB L W s = false ∧ shoB L f s = false ∧ shoB W f s = false := by
  obtain ⟨h1, h2⟩ := h
  unfold strL two at h1
  unfold shoL two at h2
  cases a : strB L W f <;> cases b : strB L W s <;> cases c : shoB L f s <;> cases d : shoB W f s <;> simp_all
theorem case_lit {L W f s : Int} {d : Str} (hL : Sz L) (hW : Sz W) (hf : 0 < f ∧ f < 1000000) (hs : 0 < s ∧ s < 1000000)
    (due : (d = "laid" ∧ Free L W f s) ∨ (d = "striped 0" ∧ strB L W f = true) ∨ (d = "striped 1" ∧ strB L W s = true) ∨ (d = "short 0" ∧ shoB L f s = true) ∨ (d = "short 1" ∧ shoB W f s = true)) : CaseOk L W f s d :=
  ⟨hL, hW, sz_lit hf.1 hf.2, sz_lit hs.1 hs.2, .of (ss_lit hs.1 hs.2), due⟩
abbrev namesL : List V := [.str "laid", .str "striped 0", .str "striped 1", .str "short 0", .str "short 1"]
theorem case_facts {L W f s : Int} {d : Str} (co : CaseOk L W f s d) : ∃ j : Nat, j < 5 ∧ namesL[j]? = some (.str d) ∧ (∀ (m : Nat) (z : V), m < j → namesL[m]? = some z → eqV z (.str d) = false) ∧ (shown L W f s)[j]? = some true ∧
    decide (V.str d = V.str "laid") = due4 L W f s .laid ∧ (due4 L W f s .laid = true → ((shown L W f s).drop 1).any id = false) := by
  have lt : ∀ (d : Str) (j : Nat), j < 5 → (∀ m, m < j → eqV (namesL.getD m .non) (.str d) = false) → ∀ (m : Nat) (z : V), m < j → namesL[m]? = some z → eqV z (.str d) = false := fun d j hj h m z hm e => by
    have := h m hm
    rw [List.getD_eq_getElem?_getD, e] at this
    exact this
  have last : due4 L W f s .laid = true → ((shown L W f s).drop 1).any id = false := by
    unfold shown due4 strL shoL
    cases a : strB L W f <;> cases b : strB L W s <;> cases c : shoB L f s <;> cases d : shoB W f s <;> simp [two]
  rcases co.due with ⟨rfl, h⟩ | ⟨rfl, h⟩ | ⟨rfl, h⟩ | ⟨rfl, h⟩ | ⟨rfl, h⟩
  · refine ⟨0, by decide, rfl, lt _ 0 (by decide) (by decide), ?_, ?_, last⟩
    · obtain ⟨h1, h2⟩ := h
      unfold shown due4
      rw [h1, h2]
      rfl
    · obtain ⟨h1, h2⟩ := h
      unfold due4
      rw [h1, h2]
      rfl
  · refine ⟨1, by decide, rfl, lt _ 1 (by decide) (by decide), congrArg some h, ?_, last⟩
    unfold due4 strL shoL
    cases b : strB L W s <;> cases c : shoB L f s <;> cases d : shoB W f s <;> simp [two, h] <;> decide
  · refine ⟨2, by decide, rfl, lt _ 2 (by decide) (by decide), congrArg some h, ?_, last⟩
    unfold due4 strL shoL
    cases b : strB L W f <;> cases c : shoB L f s <;> cases d : shoB W f s <;> simp [two, h] <;> decide
  · refine ⟨3, by decide, rfl, lt _ 3 (by decide) (by decide), congrArg some h, ?_, last⟩
    unfold due4 strL shoL
    cases b : strB L W f <;> cases c : strB L W s <;> cases d : shoB W f s <;> simp [two, h] <;> decide
  · refine ⟨4, by decide, rfl, lt _ 4 (by decide) (by decide), congrArg some h, ?_, last⟩
    unfold due4 strL shoL
    cases b : strB L W f <;> cases c : strB L W s <;> cases d : shoB L f s <;> simp [two, h] <;> decide
/-- a case's tuple -/
def CaseAt (H : Hp) (x : V) : Prop := ∃ t L W f s d, x = V.ref t ∧ H t = some (.tup [.int L, .int W, .int f, .int s, .str d]) ∧ CaseOk L W f s d
def toldD : Option (Int × Int) → PyData
  | none => .none
  | some y => .tuple [.int y.1, .int y.2]
theorem told_dp {K : PySem.W.Frag} {H : Hp} {x : Option (Int × Int)} {v : V} (h : Told x H v) : Dp K H v (toldD x) := by
  cases x with
  | none =>
    obtain rfl : v = .non := h
    exact .non
  | some y =>
    obtain ⟨p, rfl, hp⟩ := h
    exact .tup (sqT hp) (.cons (.int _) (.cons (.int _) .nil))
theorem told_shp (x : Option (Int × Int)) : SeqAt.shaped (toldD x) = true := by cases x <;> rfl
theorem told_eqv (x : Option (Int × Int)) : PyData.eqv (toldD x) (toldD x) = true := SeqAt.eqv_refl _ (by cases x <;> rfl)
/-- a sum's tuple -/
def SumAt (H : Hp) (x : V) : Prop := ∃ t t1 s a b y v, x = V.ref t ∧ H t = some (.tup [.ref t1, v]) ∧ H t1 = some (.tup [.int s, .int a, .int b]) ∧ Told y H v ∧ parts s a b = y ∧ Sz s ∧ Sz a ∧ Sz b ∧ Sm a b ∧ Dz s b
theorem sum_lit {H : Hp} {t t1 : Addr} {s a b : Int} {y : Option (Int × Int)} {v : V} (ht : H t = some (.tup [.ref t1, v])) (h1 : H t1 = some (.tup [.int s, .int a, .int b])) (tv : Told y H v) (e : IsParts s a b y) (hs : Sz s) (ha : 0 < a ∧ a < 1000000) (hb : 0 < b ∧ b < 1000000) : SumAt H (.ref t) :=
  ⟨t, t1, s, a, b, y, v, rfl, ht, h1, tv, parts_eq hb.1 e, hs, sz_lit ha.1 ha.2, sz_lit hb.1 hb.2, .inl (ss_lit hb.1 hb.2).bn, .inl (ss_lit hb.1 hb.2).bn⟩
theorem no_rep {s a b : Int} (hs : 0 < a ∧ 0 < b) (h : ∀ m n : Int, 0 ≤ m → 0 ≤ n → m * a + n * b ≠ s) : IsParts s a b none := fun m n r => h m n r.1 r.2.1 r.2.2
theorem app_all {α : Type} {p : α → Prop} {a b : List α} (h : ∀ x ∈ a, p x) (k : ∀ x ∈ b, p x) : ∀ x ∈ a ++ b, p x := fun x hx => (List.mem_append.mp hx).elim (h x) (k x)
theorem CaseAt.mono {H H' : Hp} {x : V} (h : CaseAt H x) (sm : Same H H') : CaseAt H' x := by
  obtain ⟨t, L, W, f, s, d, e, ht, co⟩ := h
  exact ⟨t, L, W, f, s, d, e, sm _ _ ht, co⟩
theorem SumAt.mono {H H' : Hp} {x : V} (h : SumAt H x) (sm : Same H H') : SumAt H' x := by
  obtain ⟨t, t1, s, a, b, y, v, e, ht, ht1, tv, r⟩ := h
  exact ⟨t, t1, s, a, b, y, v, e, sm _ _ ht, sm _ _ ht1, tv.mono sm, r⟩
theorem cut_last (xs : List V) (v : V) : cutV (xs ++ [v]) none (some (-1)) = xs := by
  unfold cutV
  have e : HT.sIx (xs ++ [v]).length (xs ++ [v]).length (some (-1)) = xs.length := by
    rw [List.length_append, List.length_singleton]
    unfold HT.sIx
    simp
    omega
  rw [e]
  show ((xs ++ [v]).drop 0).take (xs.length - 0) = xs
  rw [List.drop_zero, Nat.sub_zero, List.take_left]
inductive TcI (far : Int) (H0 : Hp) (n : Nat) : L2.St → Hp → Prop where
  | mk {H : Hp} {l : Addr} {xs : List V} (s0 : Same H0 H) (el : H l = some (.lst xs)) (hc : ∀ x ∈ xs, CaseAt H x) (hl : xs.length ≤ n) : TcI far H0 n [some (.int far), some (.ref l), none, none, none, none, none, none, none, none] H
inductive TsI (far : Int) (H0 : Hp) (n : Nat) : L2.St → Hp → Prop where
  | mk {H : Hp} {l : Addr} {xs : List V} {y2 y3 y4 y5 y6 y7 y8 : Option V} (s0 : Same H0 H) (el : H l = some (.lst xs)) (hc : ∀ x ∈ xs, SumAt H x) (hl : xs.length ≤ n) : TsI far H0 n [some (.int far), some (.ref l), y2, y3, y4, y5, y6, y7, y8, none] H
inductive TsJ (far : Int) (H0 : Hp) (n : Nat) : L2.St → Hp → Prop where
  | mk {H : Hp} {l : Addr} {xs : List V} {v : V} {y2 y3 y4 y5 y6 y7 y8 : Option V} (s0 : Same H0 H) (el : H l = some (.lst (xs ++ [v]))) (hc : ∀ x ∈ xs, SumAt H x) (hl : xs.length ≤ n) : TsJ far H0 n [some (.int far), some (.ref l), y2, y3, y4, y5, y6, y7, y8, none] H
inductive ToI (far : Int) (lc : Addr) (H0 : Hp) : L2.St → Hp → Prop where
  | mk {H : Hp} {y2 y3 y4 y5 y6 y7 y8 : Option V} (sm : Same H0 H) : ToI far lc H0 [some (.int far), some (.ref lc), y2, y3, y4, y5, y6, y7, y8, none] H
/-- a promise of a def of the law: it hands back True, the tables stay right -/
inductive SpFar (T : List (Addr × Str)) : Sp where
  | mk {far : Int} {H : Hp} {Q : VK} {E : XK} (hf : Far far) (hT : Tabs T H) (q : ∀ H', Tabs T H' → Q (.bl true) H') : SpFar T [.int far] H Q E
section
variable {P : Program} {w : World} {K : PySem.W.Frag} {mg : Str → Option Value} {base : Heap}
theorem H__law_told_right {T : List (Addr × Str)} (p : Pl K mg "_law_told_right" s__law_told_right) (B : Bi mg) (G : ClG K mg) (CI : ClI P w K mg base) (h_told : Has P w K mg base CX0 4 "told" ["length", "width", "first", "second"] (SpTold K))
    (h_shows4 : ∀ x, Ok4 x → HasM P w K mg base CX0 4 x "shows" ["self", "length", "width", "first", "second"] (SpShows4 K x)) (h_sum_of : Has P w K mg base CX0 3 "sum_of" ["size", "first", "second"] SpParts) :
    Has P w K mg base CX0 5 "_law_told_right" ["_law_far"] (SpFar T) := by
  refine p.mk0 sc__law_told_right (fun _ _ _ _ _ _ us hl => match us, hl with | [_], _ => rfl) (fun vs H Q E h => ?_) (fun f cdv A outer s H vs Q E hr h => ?_)
  · cases h; rfl
  · obtain @⟨far, _, _, _, hf, hT, q⟩ := h
    have flo := hf.lo
    have cm6 : CMulX 6 far := Bn.mulOk (n := 10) (bnl (by decide)) hf.bn (by decide)
    have cm3 : CMulX 3 far := Bn.mulOk (n := 10) (bnl (by decide)) hf.bn (by decide)
    have cm2 : CMulX 2 far := Bn.mulOk (n := 10) (bnl (by decide)) hf.bn (by decide)
    have z6 : Sz (6 * far) := ⟨by omega, (Bn.mul (n := 10) (bnl (by decide)) hf.bn).mono (by decide)⟩
    have z31 : Sz (3 * far + 1) := ⟨by omega, ((Bn.mul (n := 10) (bnl (by decide)) hf.bn).add (m := 10) (bnl (by decide))).mono (by decide)⟩
    have z32 : Sz (3 * far + 2) := ⟨by omega, ((Bn.mul (n := 10) (bnl (by decide)) hf.bn).add (m := 10) (bnl (by decide))).mono (by decide)⟩
    have z3 : Sz (3 * far) := ⟨by omega, (Bn.mul (n := 10) (bnl (by decide)) hf.bn).mono (by decide)⟩
    refine ⟨_, (Evl.pss_cut (ps_set (i := 1) sc__law_told_right.nd rfl (Or.inl rfl) (pe_lst (pa_cons (pe_tup (pa_cons pe_int (pa_cons pe_int (pa_cons pe_int (pa_cons pe_int (pa_cons pe_str pa_nil)))))) (pa_cons (pe_tup (pa_cons pe_int (pa_cons (pv 0) (pa_cons pe_int (pa_cons pe_int (pa_cons pe_str pa_nil)))))) (pa_cons (pe_tup (pa_cons pe_int (pa_cons pe_int (pa_cons pe_int (pa_cons pe_int (pa_cons pe_str pa_nil)))))) pa_nil)))))
      (Evl.pss_cut (ps_set (i := 1) sc__law_told_right.nd rfl (Or.inl rfl) (pe_op op_cat (pv 1) (pe_lst (pa_cons (pe_tup (pa_cons pe_int (pa_cons pe_int (pa_cons pe_int (pa_cons pe_int (pa_cons pe_str pa_nil)))))) (pa_cons (pe_tup (pa_cons pe_int (pa_cons pe_int (pa_cons pe_int (pa_cons pe_int (pa_cons pe_str pa_nil)))))) (pa_cons (pe_tup (pa_cons pe_int (pa_cons pe_int (pa_cons pe_int (pa_cons pe_int (pa_cons pe_str pa_nil)))))) pa_nil))))))
      (Evl.pss_cut (ps_set (i := 1) sc__law_told_right.nd rfl (Or.inl rfl) (pe_op op_cat (pv 1) (pe_lst (pa_cons (pe_tup (pa_cons pe_int (pa_cons pe_int (pa_cons pe_int (pa_cons pe_int (pa_cons pe_str pa_nil)))))) (pa_cons (pe_tup (pa_cons pe_int (pa_cons pe_int (pa_cons pe_int (pa_cons pe_int (pa_cons pe_str pa_nil)))))) pa_nil)))))
      (Evl.pss_cut (ps_set (i := 1) sc__law_told_right.nd rfl (Or.inl rfl) (pe_op op_cat (pv 1) (pe_lst (pa_cons (pe_tup (pa_cons (pe_op op_mulX pe_int (pv 0)) (pa_cons pe_int (pa_cons pe_int (pa_cons pe_int (pa_cons pe_str pa_nil)))))) (pa_cons (pe_tup (pa_cons (pe_op op_mulX pe_int (pv 0)) (pa_cons pe_int (pa_cons pe_int (pa_cons pe_int (pa_cons pe_str pa_nil)))))) pa_nil)))))
      (Evl.pss_cut (ps_set (i := 1) sc__law_told_right.nd rfl (Or.inl rfl) (pe_op op_cat (pv 1) (pe_lst (pa_cons (pe_tup (pa_cons pe_int (pa_cons (pv 0) (pa_cons pe_int (pa_cons (pv 0) (pa_cons pe_str pa_nil)))))) (pa_cons (pe_tup (pa_cons pe_int (pa_cons pe_int (pa_cons pe_int (pa_cons pe_int (pa_cons pe_str pa_nil)))))) (pa_cons (pe_tup (pa_cons pe_int (pa_cons pe_int (pa_cons pe_int (pa_cons pe_int (pa_cons pe_str pa_nil)))))) pa_nil))))))
      (Evl.pss_cut (ps_set (i := 1) sc__law_told_right.nd rfl (Or.inl rfl) (pe_op op_cat (pv 1) (pe_lst (pa_cons (pe_tup (pa_cons pe_int (pa_cons pe_int (pa_cons pe_int (pa_cons pe_int (pa_cons pe_str pa_nil)))))) (pa_cons (pe_tup (pa_cons pe_int (pa_cons pe_int (pa_cons pe_int (pa_cons pe_int (pa_cons pe_str pa_nil)))))) pa_nil)))))
      (pss_cons (ps_for PassesOwn.never (by rfl) (pi_list (pv 1)) (pg_tup (by rfl) (pgs_cons (pg_name (i := 2) sc__law_told_right.nd rfl (Or.inl rfl)) (pgs_cons (pg_name (i := 3) sc__law_told_right.nd rfl (Or.inl rfl)) (pgs_cons (pg_name (i := 4) sc__law_told_right.nd rfl (Or.inl rfl)) (pgs_cons (pg_name (i := 5) sc__law_told_right.nd rfl (Or.inl rfl)) (pgs_cons (pg_name (i := 6) sc__law_told_right.nd rfl (Or.inl rfl)) pgs_nil)))))) (pss_cons (ps_set (i := 7) sc__law_told_right.nd rfl (Or.inl rfl) (pe_fn h_told (hr.mono (by decide)) pass0 (pa_cons (pv 2) (pa_cons (pv 3) (pa_cons (pv 4) (pa_cons (pv 5) pa_nil))))))
      (pss_cons (ps_set (i := 8) sc__law_told_right.nd rfl (Or.inl rfl) (pe_lst (pa_cons (pe_methA h_shows4 (fun x hx => (G.f x (ok4 hx)).c) (hr.mono (by decide)) pass0 (pe_mkN (x := .laid) CI G (by decide) (by decide)) (pa_cons (pv 2) (pa_cons (pv 3) (pa_cons (pv 4) (pa_cons (pv 5) pa_nil))))) pa_nil)))
      (pss_cons (ps_set (i := 8) sc__law_told_right.nd rfl (Or.inl rfl) (pe_op op_cat (pv 8) (pe_lst (pa_cons (pe_methA h_shows4 (fun x hx => (G.f x (ok4 hx)).c) (hr.mono (by decide)) pass0 (pe_mkI (x := .striped) CI G (by decide) trivial (hr.mono (by decide)) (pa_cons pe_int pa_nil)) (pa_cons (pv 2) (pa_cons (pv 3) (pa_cons (pv 4) (pa_cons (pv 5) pa_nil))))) pa_nil))))
      (pss_cons (ps_set (i := 8) sc__law_told_right.nd rfl (Or.inl rfl) (pe_op op_cat (pv 8) (pe_lst (pa_cons (pe_methA h_shows4 (fun x hx => (G.f x (ok4 hx)).c) (hr.mono (by decide)) pass0 (pe_mkI (x := .striped) CI G (by decide) trivial (hr.mono (by decide)) (pa_cons pe_int pa_nil)) (pa_cons (pv 2) (pa_cons (pv 3) (pa_cons (pv 4) (pa_cons (pv 5) pa_nil))))) pa_nil))))
      (pss_cons (ps_set (i := 8) sc__law_told_right.nd rfl (Or.inl rfl) (pe_op op_cat (pv 8) (pe_lst (pa_cons (pe_methA h_shows4 (fun x hx => (G.f x (ok4 hx)).c) (hr.mono (by decide)) pass0 (pe_mkI (x := .short) CI G (by decide) trivial (hr.mono (by decide)) (pa_cons pe_int pa_nil)) (pa_cons (pv 2) (pa_cons (pv 3) (pa_cons (pv 4) (pa_cons (pv 5) pa_nil))))) pa_nil))))
      (pss_cons (ps_set (i := 8) sc__law_told_right.nd rfl (Or.inl rfl) (pe_op op_cat (pv 8) (pe_lst (pa_cons (pe_methA h_shows4 (fun x hx => (G.f x (ok4 hx)).c) (hr.mono (by decide)) pass0 (pe_mkI (x := .short) CI G (by decide) trivial (hr.mono (by decide)) (pa_cons pe_int pa_nil)) (pa_cons (pv 2) (pa_cons (pv 3) (pa_cons (pv 4) (pa_cons (pv 5) pa_nil))))) pa_nil))))
      (pss_cons (ps_if (pt_cmpR op_isBl (pe_ix (r := rIxL K) ix_list (pv 8) (pe_bm PySem.F.plainAttrs_list PySem.F.slot_list_index PySem.F.type_list_index mt_index (pe_lst (pa_cons pe_str (pa_cons pe_str (pa_cons pe_str (pa_cons pe_str (pa_cons pe_str pa_nil)))))) (pa_cons (pv 6) pa_nil)) (fun _ _ => rfl)) pe_bl (nomark _)) (pss_one (ps_ret pe_bl)) pss_nil)
      (pss_cons (ps_if (pt_not (pt_val (pe_methA h_shows4 (fun x hx => (G.f x (ok4 hx)).c) (hr.mono (by decide)) pass0 (pv 7) (pa_cons (pv 2) (pa_cons (pv 3) (pa_cons (pv 4) (pa_cons (pv 5) pa_nil))))))) (pss_one (ps_ret pe_bl)) pss_nil)
      (pss_cons (ps_if (PW.pt (pw_or (pt_cmpR op_ne (pe_callB (r := rIsi K) call_isi (by rfl) B.isinstance (by decide +kernel) (pa_cons (pv 7) (pa_cons (pe_glob (v := .ref (cl _ .laid)) (by rfl) (G.g .laid (by decide)) rfl) pa_nil))) (pe_cmpR op_eq (pv 6) pe_str (nomark _)) (nomark _)) (pw_or1 (pt_cmpR op_ne (pe_ix (r := rIxL K) ix_list (pv 8) pe_int (fun _ _ => rfl)) (pe_cmpR op_eq (pv 6) pe_str (nomark _)) (nomark _))))) (pss_one (ps_ret pe_bl)) pss_nil)
      (pss_one (ps_if (PW.pt (pw_and (pt_cmpR op_eq (pv 6) pe_str (nomark _)) (pw_and1 (pt_val (pe_callB (cr_any rfl) (by rfl) B.any (by decide +kernel) (pa_cons (pe_slice (r := rSlL K) sl_list (pv 8) (po_some pe_int) po_none) pa_nil)))))) (pss_one (ps_ret pe_bl)) pss_nil))))))))))))
      (pss_cons (ps_if (PW.pt (pw_or (pt_val (pe_methA h_shows4 (fun x hx => (G.f x (ok4 hx)).c) (hr.mono (by decide)) pass0 (pe_mkI (x := .striped) CI G (by decide) trivial (hr.mono (by decide)) (pa_cons pe_int pa_nil)) (pa_cons pe_int (pa_cons pe_int (pa_cons pe_int (pa_cons pe_int pa_nil)))))) (pw_or (pt_val (pe_methA h_shows4 (fun x hx => (G.f x (ok4 hx)).c) (hr.mono (by decide)) pass0 (pe_mkI (x := .striped) CI G (by decide) trivial (hr.mono (by decide)) (pa_cons (pe_un un_neg pe_int) pa_nil)) (pa_cons pe_int (pa_cons pe_int (pa_cons pe_int (pa_cons pe_int pa_nil)))))) (pw_or1 (pt_val (pe_methA h_shows4 (fun x hx => (G.f x (ok4 hx)).c) (hr.mono (by decide)) pass0 (pe_mkI (x := .short) CI G (by decide) trivial (hr.mono (by decide)) (pa_cons pe_int pa_nil)) (pa_cons pe_int (pa_cons pe_int (pa_cons pe_int (pa_cons pe_int pa_nil)))))))))) (pss_one (ps_ret pe_bl)) pss_nil)
      (pss_cons (ps_if (pt_val (pe_methA h_shows4 (fun x hx => (G.f x (ok4 hx)).c) (hr.mono (by decide)) pass0 (pe_mkI (x := .short) CI G (by decide) trivial (hr.mono (by decide)) (pa_cons (pe_un un_neg pe_int) pa_nil)) (pa_cons pe_int (pa_cons pe_int (pa_cons pe_int (pa_cons pe_int pa_nil)))))) (pss_one (ps_ret pe_bl)) pss_nil)
      (Evl.pss_cut (ps_set (i := 1) sc__law_told_right.nd rfl (Or.inl rfl) (pe_lst (pa_cons (pe_tup (pa_cons (pe_tup (pa_cons pe_int (pa_cons pe_int (pa_cons pe_int pa_nil)))) (pa_cons (pe_tup (pa_cons pe_int (pa_cons pe_int pa_nil))) pa_nil))) (pa_cons (pe_tup (pa_cons (pe_tup (pa_cons pe_int (pa_cons pe_int (pa_cons pe_int pa_nil)))) (pa_cons (pe_tup (pa_cons pe_int (pa_cons pe_int pa_nil))) pa_nil))) (pa_cons (pe_tup (pa_cons (pe_tup (pa_cons pe_int (pa_cons pe_int (pa_cons pe_int pa_nil)))) (pa_cons pe_non pa_nil))) (pa_cons (pe_tup (pa_cons (pe_tup (pa_cons pe_int (pa_cons pe_int (pa_cons pe_int pa_nil)))) (pa_cons pe_non pa_nil))) pa_nil))))))
      (Evl.pss_cut (ps_set (i := 1) sc__law_told_right.nd rfl (Or.inl rfl) (pe_op op_cat (pv 1) (pe_lst (pa_cons (pe_tup (pa_cons (pe_tup (pa_cons pe_int (pa_cons pe_int (pa_cons pe_int pa_nil)))) (pa_cons (pe_tup (pa_cons pe_int (pa_cons pe_int pa_nil))) pa_nil))) (pa_cons (pe_tup (pa_cons (pe_tup (pa_cons pe_int (pa_cons pe_int (pa_cons pe_int pa_nil)))) (pa_cons (pe_tup (pa_cons pe_int (pa_cons pe_int pa_nil))) pa_nil))) (pa_cons (pe_tup (pa_cons (pe_tup (pa_cons pe_int (pa_cons pe_int (pa_cons pe_int pa_nil)))) (pa_cons (pe_tup (pa_cons pe_int (pa_cons pe_int pa_nil))) pa_nil))) pa_nil))))))
      (Evl.pss_cut (ps_set (i := 1) sc__law_told_right.nd rfl (Or.inl rfl) (pe_op op_cat (pv 1) (pe_lst (pa_cons (pe_tup (pa_cons (pe_tup (pa_cons (pv 0) (pa_cons (pv 0) (pa_cons pe_int pa_nil)))) (pa_cons (pe_tup (pa_cons pe_int (pa_cons (pv 0) pa_nil))) pa_nil))) (pa_cons (pe_tup (pa_cons (pe_tup (pa_cons (pv 0) (pa_cons pe_int (pa_cons (pv 0) pa_nil)))) (pa_cons (pe_tup (pa_cons pe_int (pa_cons pe_int pa_nil))) pa_nil))) (pa_cons (pe_tup (pa_cons (pe_tup (pa_cons pe_int (pa_cons pe_int (pa_cons pe_int pa_nil)))) (pa_cons pe_non pa_nil))) pa_nil))))))
      (Evl.pss_cut (ps_set (i := 1) sc__law_told_right.nd rfl (Or.inl rfl) (pe_op op_cat (pv 1) (pe_lst (pa_cons (pe_tup (pa_cons (pe_tup (pa_cons (pe_op op_add (pe_op op_mulX pe_int (pv 0)) pe_int) (pa_cons pe_int (pa_cons pe_int pa_nil)))) (pa_cons (pe_tup (pa_cons pe_int (pa_cons (pe_op op_sub (pv 0) pe_int) pa_nil))) pa_nil))) (pa_cons (pe_tup (pa_cons (pe_tup (pa_cons (pe_op op_mulX pe_int (pv 0)) (pa_cons pe_int (pa_cons pe_int pa_nil)))) (pa_cons (pe_tup (pa_cons pe_int (pa_cons (pv 0) pa_nil))) pa_nil))) pa_nil)))))
      (Evl.pss_cut (ps_set (i := 1) sc__law_told_right.nd rfl (Or.inl rfl) (pe_op op_cat (pv 1) (pe_lst (pa_cons (pe_tup (pa_cons (pe_tup (pa_cons (pe_op op_add (pe_op op_mulX pe_int (pv 0)) pe_int) (pa_cons pe_int (pa_cons pe_int pa_nil)))) (pa_cons (pe_tup (pa_cons pe_int (pa_cons (pv 0) pa_nil))) pa_nil))) pa_nil))))
      (Evl.pss_cut (ps_set (i := 1) sc__law_told_right.nd rfl (Or.inl rfl) (pe_op op_cat (pv 1) (pe_lst (pa_cons (pe_tup (pa_cons (pe_tup (pa_cons (pe_op op_mulX pe_int (pv 0)) (pa_cons pe_int (pa_cons pe_int pa_nil)))) (pa_cons (pe_tup (pa_cons (pe_op op_mulX (pe_op op_mod (pe_op op_mod (pv 0) pe_int) pe_int) pe_int) (pa_cons (pe_op op_fdivW (pe_op op_sub (pe_op op_mulX pe_int (pv 0)) (pe_op op_mulX pe_int (pe_op op_mod (pe_op op_mod (pv 0) pe_int) pe_int))) pe_int) pa_nil))) pa_nil))) pa_nil))))
      (pss_one (ps_ret (pe_callB (cr_all rfl) (by rfl) B.all (by decide +kernel) (pa_cons (pe_lc (own := [("_law_size", 9), ("_law_first", 4), ("_law_second", 5), ("_law_due", 6)]) (g := (gTup K 2 (gCons (gTup K 3 (gCons (gName 9) (gCons (gName 4) (gCons (gName 5) gNil)))) (gCons (gName 6) gNil)))) (by rfl) sc__law_told_right.nd (pi_list (pe_slice (r := rSlL K) sl_list (pv 1) po_none (po_some (pe_un un_neg pe_int)))) (blkOk_by (own := [("_law_size", 9), ("_law_first", 4), ("_law_second", 5), ("_law_due", 6)]) (N := ["_law_far", "_law_cases", "_law_length", "_law_width", "_law_first", "_law_second", "_law_due", "_law_found", "_law_shown", "_law_size"]) (sc := defScope s__law_told_right) (by decide +kernel)) (fun _ _ _ _ _ => (pg_tup (by rfl) (pgs_cons (pg_tup (by rfl) (pgs_cons (pg_name (i := 9) sc__law_told_right.nd rfl (Or.inl rfl)) (pgs_cons (pg_name (i := 4) sc__law_told_right.nd rfl (Or.inl rfl)) (pgs_cons (pg_name (i := 5) sc__law_told_right.nd rfl (Or.inl rfl)) pgs_nil)))) (pgs_cons (pg_name (i := 6) sc__law_told_right.nd rfl (Or.inl rfl)) pgs_nil)))) (fun _ _ _ _ _ => pts_nil) (fun _ _ _ _ _ => (pe_cmpR (r := rEqD K) (op_eqD hr.units) (pe_fn h_sum_of (hr.mono (by decide)) pass0 (pa_cons (pv 9) (pa_cons (pv 4) (pa_cons (pv 5) pa_nil)))) (pv 6) (nomark _)))) pa_nil))))))))))))))))))), ?_⟩
    refine ⟨TcI far H 10, ?_, ?_⟩
    · skip
      walk_at "rd"
      intro t1 h_t1
      generalize hH1 : upd H t1 _ = H1
      obtain ⟨sm1, up_t1⟩ : Same H H1 ∧ H1 t1 = some (.tup [.int 6, .int 6, .int 2, .int 3, .str "laid"]) := newH hH1 h_t1
      clear hH1
      walk_at "rd"
      intro t2 h_t2
      generalize hH2 : upd H1 t2 _ = H2
      obtain ⟨sm2, up_t2⟩ : Same H1 H2 ∧ H2 t2 = some (.tup [.int 1, .int far, .int 1, .int 1, .str "laid"]) := newH hH2 h_t2
      clear hH2
      walk_at "rd"
      intro t3 h_t3
      generalize hH3 : upd H2 t3 _ = H3
      obtain ⟨sm3, up_t3⟩ : Same H2 H3 ∧ H3 t3 = some (.tup [.int 5, .int 6, .int 2, .int 3, .str "laid"]) := newH hH3 h_t3
      clear hH3
      walk_at "rd"
      intro m h_m
      generalize hH4 : upd H3 m _ = H4
      obtain ⟨sm4, up_m⟩ : Same H3 H4 ∧ H4 m = some (.lst [V.ref t1, .ref t2, .ref t3]) := newH hH4 h_m
      clear hH4
      exact .mk (xs := [V.ref t1, .ref t2, .ref t3]) (sm1.trans (sm2.trans (sm3.trans sm4))) up_m (allc ⟨t1, _, _, _, _, _, rfl, ((sm2.trans (sm3.trans sm4)) _ _ up_t1), case_lit (sz_lit (by decide) (by decide)) (sz_lit (by decide) (by decide)) ⟨by decide, by decide⟩ ⟨by decide, by decide⟩ (.inl ⟨rfl, free_of (m := 3) (n := 0) (u := 0) (v := 2) (by decide) (by decide) (.inl (by decide)) (.inl (by decide)) ⟨by decide, by decide, by decide⟩ ⟨by decide, by decide, by decide⟩⟩)⟩ <| allc ⟨t2, _, _, _, _, _, rfl, ((sm3.trans sm4) _ _ up_t2), case_lit (sz_lit (by decide) (by decide)) hf.sz ⟨by decide, by decide⟩ ⟨by decide, by decide⟩ (.inl ⟨rfl, free_of (m := 1) (n := 0) (u := far) (v := 0) (by decide) (by decide) (.inl (by decide)) (.inl (by decide)) ⟨by decide, by decide, by decide⟩ ⟨by omega, by decide, by omega⟩⟩)⟩ <| allc ⟨t3, _, _, _, _, _, rfl, (sm4 _ _ up_t3), case_lit (sz_lit (by decide) (by decide)) (sz_lit (by decide) (by decide)) ⟨by decide, by decide⟩ ⟨by decide, by decide⟩ (.inl ⟨rfl, free_of (m := 1) (n := 1) (u := 3) (v := 0) (by decide) (by decide) (.inr (by decide)) (.inr (by decide)) ⟨by decide, by decide, by decide⟩ ⟨by decide, by decide, by decide⟩⟩)⟩ alln) (Nat.le_of_ble_eq_true rfl)
    rintro _ H1000 @⟨_, l, xs, s026, up_l, hcs, hxl⟩
    refine ⟨TcI far H 20, ?_, ?_⟩
    · skip
      walk_at "rd"
      intro t4 h_t4
      generalize hH1001 : upd H1000 t4 _ = H1001
      obtain ⟨sm1001, up_t4⟩ : Same H1000 H1001 ∧ H1001 t4 = some (.tup [.int 1, .int 6, .int 2, .int 3, .str "short 0"]) := newH hH1001 h_t4
      clear hH1001
      walk_at "rd"
      intro t5 h_t5
      generalize hH1002 : upd H1001 t5 _ = H1002
      obtain ⟨sm1002, up_t5⟩ : Same H1001 H1002 ∧ H1002 t5 = some (.tup [.int 10, .int 10, .int 4, .int 1, .str "striped 0"]) := newH hH1002 h_t5
      clear hH1002
      walk_at "rd"
      intro t6 h_t6
      generalize hH1003 : upd H1002 t6 _ = H1003
      obtain ⟨sm1003, up_t6⟩ : Same H1002 H1003 ∧ H1003 t6 = some (.tup [.int 6, .int 1, .int 2, .int 3, .str "short 1"]) := newH hH1003 h_t6
      clear hH1003
      walk_at "rd"
      intro m h_m
      generalize hH1004 : upd H1003 m _ = H1004
      obtain ⟨sm1004, up_m⟩ : Same H1003 H1004 ∧ H1004 m = some (.lst [V.ref t4, .ref t5, .ref t6]) := newH hH1004 h_m
      clear hH1004
      refine ⟨l, m, _, _, rfl, rfl, ((sm1001.trans (sm1002.trans (sm1003.trans sm1004))) _ _ up_l), up_m, (size4 (by simp only [List.length_cons, List.length_nil]; omega)), fun an h_an => ?_⟩
      generalize hH1005 : upd H1004 an _ = H1005
      obtain ⟨sm1005, up_an⟩ : Same H1004 H1005 ∧ H1005 an = some (.lst (xs ++ [V.ref t4, .ref t5, .ref t6])) := newH hH1005 h_an
      clear hH1005
      exact .mk (xs := xs ++ [V.ref t4, .ref t5, .ref t6]) (s026.trans (sm1001.trans (sm1002.trans (sm1003.trans (sm1004.trans sm1005))))) up_an (app_all (fun x hx => (hcs x hx).mono (sm1001.trans (sm1002.trans (sm1003.trans (sm1004.trans sm1005))))) (allc ⟨t4, _, _, _, _, _, rfl, ((sm1002.trans (sm1003.trans (sm1004.trans sm1005))) _ _ up_t4), case_lit (sz_lit (by decide) (by decide)) (sz_lit (by decide) (by decide)) ⟨by decide, by decide⟩ ⟨by decide, by decide⟩ (.inr (.inr (.inr (.inl ⟨rfl, sho_yes (by decide) fun m n r => by obtain ⟨r1, r2, r3⟩ := r; omega⟩))))⟩ <| allc ⟨t5, _, _, _, _, _, rfl, ((sm1003.trans (sm1004.trans sm1005)) _ _ up_t5), case_lit (sz_lit (by decide) (by decide)) (sz_lit (by decide) (by decide)) ⟨by decide, by decide⟩ ⟨by decide, by decide⟩ (.inr (.inl ⟨rfl, by decide⟩))⟩ <| allc ⟨t6, _, _, _, _, _, rfl, ((sm1004.trans sm1005) _ _ up_t6), case_lit (sz_lit (by decide) (by decide)) (sz_lit (by decide) (by decide)) ⟨by decide, by decide⟩ ⟨by decide, by decide⟩ (.inr (.inr (.inr (.inr ⟨rfl, sho_yes (by decide) fun m n r => by obtain ⟨r1, r2, r3⟩ := r; omega⟩))))⟩ alln)) (by rw [List.length_append]; simp only [List.length_cons, List.length_nil]; omega)
    rintro _ H2000 @⟨_, l, xs, s026, up_l, hcs, hxl⟩
    refine ⟨TcI far H 30, ?_, ?_⟩
    · skip
      walk_at "rd"
      intro t7 h_t7
      generalize hH2001 : upd H2000 t7 _ = H2001
      obtain ⟨sm2001, up_t7⟩ : Same H2000 H2001 ∧ H2001 t7 = some (.tup [.int 6, .int 5, .int 2, .int 3, .str "laid"]) := newH hH2001 h_t7
      clear hH2001
      walk_at "rd"
      intro t8 h_t8
      generalize hH2002 : upd H2001 t8 _ = H2002
      obtain ⟨sm2002, up_t8⟩ : Same H2001 H2002 ∧ H2002 t8 = some (.tup [.int 4, .int 4, .int 2, .int 3, .str "striped 1"]) := newH hH2002 h_t8
      clear hH2002
      walk_at "rd"
      intro m h_m
      generalize hH2003 : upd H2002 m _ = H2003
      obtain ⟨sm2003, up_m⟩ : Same H2002 H2003 ∧ H2003 m = some (.lst [V.ref t7, .ref t8]) := newH hH2003 h_m
      clear hH2003
      refine ⟨l, m, _, _, rfl, rfl, ((sm2001.trans (sm2002.trans sm2003)) _ _ up_l), up_m, (size4 (by simp only [List.length_cons, List.length_nil]; omega)), fun an h_an => ?_⟩
      generalize hH2004 : upd H2003 an _ = H2004
      obtain ⟨sm2004, up_an⟩ : Same H2003 H2004 ∧ H2004 an = some (.lst (xs ++ [V.ref t7, .ref t8])) := newH hH2004 h_an
      clear hH2004
      exact .mk (xs := xs ++ [V.ref t7, .ref t8]) (s026.trans (sm2001.trans (sm2002.trans (sm2003.trans sm2004)))) up_an (app_all (fun x hx => (hcs x hx).mono (sm2001.trans (sm2002.trans (sm2003.trans sm2004)))) (allc ⟨t7, _, _, _, _, _, rfl, ((sm2002.trans (sm2003.trans sm2004)) _ _ up_t7), case_lit (sz_lit (by decide) (by decide)) (sz_lit (by decide) (by decide)) ⟨by decide, by decide⟩ ⟨by decide, by decide⟩ (.inl ⟨rfl, free_of (m := 3) (n := 0) (u := 1) (v := 1) (by decide) (by decide) (.inl (by decide)) (.inl (by decide)) ⟨by decide, by decide, by decide⟩ ⟨by decide, by decide, by decide⟩⟩)⟩ <| allc ⟨t8, _, _, _, _, _, rfl, ((sm2003.trans sm2004) _ _ up_t8), case_lit (sz_lit (by decide) (by decide)) (sz_lit (by decide) (by decide)) ⟨by decide, by decide⟩ ⟨by decide, by decide⟩ (.inr (.inr (.inl ⟨rfl, by decide⟩)))⟩ alln)) (by rw [List.length_append]; simp only [List.length_cons, List.length_nil]; omega)
    rintro _ H3000 @⟨_, l, xs, s026, up_l, hcs, hxl⟩
    refine ⟨TcI far H 40, ?_, ?_⟩
    · skip
      walk_at "rd"
      intro t9 h_t9
      generalize hH3001 : upd H3000 t9 _ = H3001
      obtain ⟨sm3001, up_t9⟩ : Same H3000 H3001 ∧ H3001 t9 = some (.tup [.int (6 * far), .int 1, .int 2, .int 3, .str "short 1"]) := newH hH3001 h_t9
      clear hH3001
      walk_at "rd"
      intro t10 h_t10
      generalize hH3002 : upd H3001 t10 _ = H3002
      obtain ⟨sm3002, up_t10⟩ : Same H3001 H3002 ∧ H3002 t10 = some (.tup [.int (6 * far), .int 5, .int 2, .int 3, .str "laid"]) := newH hH3002 h_t10
      clear hH3002
      walk_at "rd"
      intro m h_m
      generalize hH3003 : upd H3002 m _ = H3003
      obtain ⟨sm3003, up_m⟩ : Same H3002 H3003 ∧ H3003 m = some (.lst [V.ref t9, .ref t10]) := newH hH3003 h_m
      clear hH3003
      refine ⟨l, m, _, _, rfl, rfl, ((sm3001.trans (sm3002.trans sm3003)) _ _ up_l), up_m, (size4 (by simp only [List.length_cons, List.length_nil]; omega)), fun an h_an => ?_⟩
      generalize hH3004 : upd H3003 an _ = H3004
      obtain ⟨sm3004, up_an⟩ : Same H3003 H3004 ∧ H3004 an = some (.lst (xs ++ [V.ref t9, .ref t10])) := newH hH3004 h_an
      clear hH3004
      exact .mk (xs := xs ++ [V.ref t9, .ref t10]) (s026.trans (sm3001.trans (sm3002.trans (sm3003.trans sm3004)))) up_an (app_all (fun x hx => (hcs x hx).mono (sm3001.trans (sm3002.trans (sm3003.trans sm3004)))) (allc ⟨t9, _, _, _, _, _, rfl, ((sm3002.trans (sm3003.trans sm3004)) _ _ up_t9), case_lit z6 (sz_lit (by decide) (by decide)) ⟨by decide, by decide⟩ ⟨by decide, by decide⟩ (.inr (.inr (.inr (.inr ⟨rfl, sho_yes (by decide) fun m n r => by obtain ⟨r1, r2, r3⟩ := r; omega⟩))))⟩ <| allc ⟨t10, _, _, _, _, _, rfl, ((sm3003.trans sm3004) _ _ up_t10), case_lit z6 (sz_lit (by decide) (by decide)) ⟨by decide, by decide⟩ ⟨by decide, by decide⟩ (.inl ⟨rfl, free_of (m := 3 * far) (n := 0) (u := 1) (v := 1) (by decide) (by decide) (.inl (by omega)) (.inl (by omega)) ⟨by omega, by decide, by omega⟩ ⟨by decide, by decide, by decide⟩⟩)⟩ alln)) (by rw [List.length_append]; simp only [List.length_cons, List.length_nil]; omega)
    rintro _ H4000 @⟨_, l, xs, s026, up_l, hcs, hxl⟩
    refine ⟨TcI far H 50, ?_, ?_⟩
    · skip
      walk_at "rd"
      intro t11 h_t11
      generalize hH4001 : upd H4000 t11 _ = H4001
      obtain ⟨sm4001, up_t11⟩ : Same H4000 H4001 ∧ H4001 t11 = some (.tup [.int 1, .int far, .int 1, .int far, .str "laid"]) := newH hH4001 h_t11
      clear hH4001
      walk_at "rd"
      intro t12 h_t12
      generalize hH4002 : upd H4001 t12 _ = H4002
      obtain ⟨sm4002, up_t12⟩ : Same H4001 H4002 ∧ H4002 t12 = some (.tup [.int 7, .int 12, .int 3, .int 4, .str "laid"]) := newH hH4002 h_t12
      clear hH4002
      walk_at "rd"
      intro t13 h_t13
      generalize hH4003 : upd H4002 t13 _ = H4003
      obtain ⟨sm4003, up_t13⟩ : Same H4002 H4003 ∧ H4003 t13 = some (.tup [.int 5, .int 12, .int 3, .int 4, .str "short 0"]) := newH hH4003 h_t13
      clear hH4003
      walk_at "rd"
      intro m h_m
      generalize hH4004 : upd H4003 m _ = H4004
      obtain ⟨sm4004, up_m⟩ : Same H4003 H4004 ∧ H4004 m = some (.lst [V.ref t11, .ref t12, .ref t13]) := newH hH4004 h_m
      clear hH4004
      refine ⟨l, m, _, _, rfl, rfl, ((sm4001.trans (sm4002.trans (sm4003.trans sm4004))) _ _ up_l), up_m, (size4 (by simp only [List.length_cons, List.length_nil]; omega)), fun an h_an => ?_⟩
      generalize hH4005 : upd H4004 an _ = H4005
      obtain ⟨sm4005, up_an⟩ : Same H4004 H4005 ∧ H4005 an = some (.lst (xs ++ [V.ref t11, .ref t12, .ref t13])) := newH hH4005 h_an
      clear hH4005
      exact .mk (xs := xs ++ [V.ref t11, .ref t12, .ref t13]) (s026.trans (sm4001.trans (sm4002.trans (sm4003.trans (sm4004.trans sm4005))))) up_an (app_all (fun x hx => (hcs x hx).mono (sm4001.trans (sm4002.trans (sm4003.trans (sm4004.trans sm4005))))) (allc ⟨t11, _, _, _, _, _, rfl, ((sm4002.trans (sm4003.trans (sm4004.trans sm4005))) _ _ up_t11), sz_lit (by decide) (by decide), hf.sz, sz_lit (by decide) (by decide), hf.sz, ⟨.inr (ss_lit (by decide) (by decide)).bn, .inr (by omega), .inr (Int.le_refl _)⟩, .inl ⟨rfl, free_of (m := 1) (n := 0) (u := far) (v := 0) (by decide) (by omega) (.inl (by decide)) (.inr (Int.emod_self)) ⟨by decide, by decide, by omega⟩ ⟨by omega, by decide, by omega⟩⟩⟩ <| allc ⟨t12, _, _, _, _, _, rfl, ((sm4003.trans (sm4004.trans sm4005)) _ _ up_t12), case_lit (sz_lit (by decide) (by decide)) (sz_lit (by decide) (by decide)) ⟨by decide, by decide⟩ ⟨by decide, by decide⟩ (.inl ⟨rfl, free_of (m := 1) (n := 1) (u := 4) (v := 0) (by decide) (by decide) (.inr (by decide)) (.inr (by decide)) ⟨by decide, by decide, by decide⟩ ⟨by decide, by decide, by decide⟩⟩)⟩ <| allc ⟨t13, _, _, _, _, _, rfl, ((sm4004.trans sm4005) _ _ up_t13), case_lit (sz_lit (by decide) (by decide)) (sz_lit (by decide) (by decide)) ⟨by decide, by decide⟩ ⟨by decide, by decide⟩ (.inr (.inr (.inr (.inl ⟨rfl, sho_yes (by decide) fun m n r => by obtain ⟨r1, r2, r3⟩ := r; omega⟩))))⟩ alln)) (by rw [List.length_append]; simp only [List.length_cons, List.length_nil]; omega)
    rintro _ H5000 @⟨_, l, xs, s026, up_l, hcs, hxl⟩
    refine ⟨TcI far H 60, ?_, ?_⟩
    · skip
      walk_at "rd"
      intro t14 h_t14
      generalize hH5001 : upd H5000 t14 _ = H5001
      obtain ⟨sm5001, up_t14⟩ : Same H5000 H5001 ∧ H5001 t14 = some (.tup [.int 2, .int 2, .int 2, .int 2, .str "laid"]) := newH hH5001 h_t14
      clear hH5001
      walk_at "rd"
      intro t15 h_t15
      generalize hH5002 : upd H5001 t15 _ = H5002
      obtain ⟨sm5002, up_t15⟩ : Same H5001 H5002 ∧ H5002 t15 = some (.tup [.int 3, .int 2, .int 2, .int 2, .str "short 0"]) := newH hH5002 h_t15
      clear hH5002
      walk_at "rd"
      intro m h_m
      generalize hH5003 : upd H5002 m _ = H5003
      obtain ⟨sm5003, up_m⟩ : Same H5002 H5003 ∧ H5003 m = some (.lst [V.ref t14, .ref t15]) := newH hH5003 h_m
      clear hH5003
      refine ⟨l, m, _, _, rfl, rfl, ((sm5001.trans (sm5002.trans sm5003)) _ _ up_l), up_m, (size4 (by simp only [List.length_cons, List.length_nil]; omega)), fun an h_an => ?_⟩
      generalize hH5004 : upd H5003 an _ = H5004
      obtain ⟨sm5004, up_an⟩ : Same H5003 H5004 ∧ H5004 an = some (.lst (xs ++ [V.ref t14, .ref t15])) := newH hH5004 h_an
      clear hH5004
      exact .mk (xs := xs ++ [V.ref t14, .ref t15]) (s026.trans (sm5001.trans (sm5002.trans (sm5003.trans sm5004)))) up_an (app_all (fun x hx => (hcs x hx).mono (sm5001.trans (sm5002.trans (sm5003.trans sm5004)))) (allc ⟨t14, _, _, _, _, _, rfl, ((sm5002.trans (sm5003.trans sm5004)) _ _ up_t14), case_lit (sz_lit (by decide) (by decide)) (sz_lit (by decide) (by decide)) ⟨by decide, by decide⟩ ⟨by decide, by decide⟩ (.inl ⟨rfl, free_of (m := 1) (n := 0) (u := 1) (v := 0) (by decide) (by decide) (.inl (by decide)) (.inl (by decide)) ⟨by decide, by decide, by decide⟩ ⟨by decide, by decide, by decide⟩⟩)⟩ <| allc ⟨t15, _, _, _, _, _, rfl, ((sm5003.trans sm5004) _ _ up_t15), case_lit (sz_lit (by decide) (by decide)) (sz_lit (by decide) (by decide)) ⟨by decide, by decide⟩ ⟨by decide, by decide⟩ (.inr (.inr (.inr (.inl ⟨rfl, sho_yes (by decide) fun m n r => by obtain ⟨r1, r2, r3⟩ := r; omega⟩))))⟩ alln)) (by rw [List.length_append]; simp only [List.length_cons, List.length_nil]; omega)
    rintro _ H6000 @⟨_, l, xs, s026, up_l, hcs, hxl⟩
    have elc := up_l
    walk_at "rd"
    refine ⟨⟨_, sqL elc⟩, for_list (K := K) (a := l) (xs := xs) (fun i σ H' => ToI far l H6000 σ H') (.mk fun _ _ z => z) ?_ ?_ ?_⟩
    · rintro i _ H' _ ⟨sm⟩
      exact sqL (sm _ _ elc)
    · rintro i x _ Ha hi @⟨_, y2, y3, y4, y5, y6, y7, y8, sma⟩
      obtain ⟨t, L, W, fi, se, d, rfl, ht, co⟩ := hcs x (List.mem_of_getElem? hi)
      refine ⟨t, _, rfl, sqT (sma _ _ ht), rfl, ?_⟩
      walk_at "rd"
      have o1 : Ok4 .laid := .head _
      have o2 : Ok4 .striped := .tail _ (.head _)
      have o3 : Ok4 .short := .tail _ (.tail _ (.head _))
      refine .mk co.zl co.zw co.zf co.zs co.fl fun pf H100 sm100 haf => ?_
      walk_at "rd"
      refine ⟨.laid, o1, fun p1 H101 np1 sm101 ⟨dx1, e1⟩ => ⟨p1, dx1, [], rfl, e1, rfl, ?_⟩⟩
      walk_at "rd"
      refine .mk (a := .laid) ⟨dx1, e1⟩ rfl .laid co.zl co.zw co.zf co.zs co.fl fun H102 sm102 => ?_
      walk_at "rd"
      intro s0 h_s0
      generalize hH103 : upd H102 s0 _ = H103
      obtain ⟨sm103, up_s0⟩ : Same H102 H103 ∧ H103 s0 = some (.lst [.bl (due4 L W fi se .laid)]) := newH hH103 h_s0
      clear hH103
      walk_at "rd"
      refine ⟨.striped, o2, ?_⟩
      walk_at "rd"
      intro p1a H104 np1a sm104 ha1
      obtain ⟨dx1a, e1a⟩ := id ha1
      refine ⟨p1a, dx1a, _, rfl, e1a, rfl, ?_⟩
      walk_at "rd"
      refine .mk ha1 rfl (.striped 0) co.zl co.zw co.zf co.zs co.fl fun H105 sm105 => ?_
      walk_at "rd"
      intro r1 h_r1
      generalize hH106 : upd H105 r1 _ = H106
      obtain ⟨sm106, up_r1⟩ : Same H105 H106 ∧ H106 r1 = some (.lst [.bl (strB L W fi)]) := newH hH106 h_r1
      clear hH106
      refine ⟨s0, r1, _, _, rfl, rfl, ((sm104.trans (sm105.trans sm106)) _ _ up_s0), up_r1, size4 (by simp), fun s1 h_s1 => ?_⟩
      generalize hH107 : upd H106 s1 _ = H107
      obtain ⟨sm107, up_s1⟩ : Same H106 H107 ∧ H107 s1 = some (.lst [.bl (due4 L W fi se .laid), .bl (strB L W fi)]) := newH hH107 h_s1
      clear hH107
      walk_at "rd"
      refine ⟨.striped, o2, ?_⟩
      walk_at "rd"
      intro p2a H108 np2a sm108 ha2
      obtain ⟨dx2a, e2a⟩ := id ha2
      refine ⟨p2a, dx2a, _, rfl, e2a, rfl, ?_⟩
      walk_at "rd"
      refine .mk ha2 rfl (.striped 1) co.zl co.zw co.zf co.zs co.fl fun H109 sm109 => ?_
      walk_at "rd"
      intro r2 h_r2
      generalize hH110 : upd H109 r2 _ = H110
      obtain ⟨sm110, up_r2⟩ : Same H109 H110 ∧ H110 r2 = some (.lst [.bl (strB L W se)]) := newH hH110 h_r2
      clear hH110
      refine ⟨s1, r2, _, _, rfl, rfl, ((sm108.trans (sm109.trans sm110)) _ _ up_s1), up_r2, size4 (by simp), fun s2 h_s2 => ?_⟩
      generalize hH111 : upd H110 s2 _ = H111
      obtain ⟨sm111, up_s2⟩ : Same H110 H111 ∧ H111 s2 = some (.lst [.bl (due4 L W fi se .laid), .bl (strB L W fi), .bl (strB L W se)]) := newH hH111 h_s2
      clear hH111
      walk_at "rd"
      refine ⟨.short, o3, ?_⟩
      walk_at "rd"
      intro p3a H112 np3a sm112 ha3
      obtain ⟨dx3a, e3a⟩ := id ha3
      refine ⟨p3a, dx3a, _, rfl, e3a, rfl, ?_⟩
      walk_at "rd"
      refine .mk ha3 rfl (.short 0) co.zl co.zw co.zf co.zs co.fl fun H113 sm113 => ?_
      walk_at "rd"
      intro r3 h_r3
      generalize hH114 : upd H113 r3 _ = H114
      obtain ⟨sm114, up_r3⟩ : Same H113 H114 ∧ H114 r3 = some (.lst [.bl (shoB L fi se)]) := newH hH114 h_r3
      clear hH114
      refine ⟨s2, r3, _, _, rfl, rfl, ((sm112.trans (sm113.trans sm114)) _ _ up_s2), up_r3, size4 (by simp), fun s3 h_s3 => ?_⟩
      generalize hH115 : upd H114 s3 _ = H115
      obtain ⟨sm115, up_s3⟩ : Same H114 H115 ∧ H115 s3 = some (.lst [.bl (due4 L W fi se .laid), .bl (strB L W fi), .bl (strB L W se), .bl (shoB L fi se)]) := newH hH115 h_s3
      clear hH115
      walk_at "rd"
      refine ⟨.short, o3, ?_⟩
      walk_at "rd"
      intro p4a H116 np4a sm116 ha4
      obtain ⟨dx4a, e4a⟩ := id ha4
      refine ⟨p4a, dx4a, _, rfl, e4a, rfl, ?_⟩
      walk_at "rd"
      refine .mk ha4 rfl (.short 1) co.zl co.zw co.zf co.zs co.fl fun H117 sm117 => ?_
      walk_at "rd"
      intro r4 h_r4
      generalize hH118 : upd H117 r4 _ = H118
      obtain ⟨sm118, up_r4⟩ : Same H117 H118 ∧ H118 r4 = some (.lst [.bl (shoB W fi se)]) := newH hH118 h_r4
      clear hH118
      refine ⟨s3, r4, _, _, rfl, rfl, ((sm116.trans (sm117.trans sm118)) _ _ up_s3), up_r4, size4 (by simp), fun s4 h_s4 => ?_⟩
      generalize hH119 : upd H118 s4 _ = H119
      obtain ⟨sm119, up_s4⟩ : Same H118 H119 ∧ H119 s4 = some (.lst [.bl (due4 L W fi se .laid), .bl (strB L W fi), .bl (strB L W se), .bl (shoB L fi se), .bl (shoB W fi se)]) := newH hH119 h_s4
      clear hH119
      obtain ⟨j, hj5, hj1, hj2, hj3, hj4, hj6⟩ := case_facts co
      have hje : eqV (.str d) (.str d) = true := by
        rcases co.due with ⟨rfl, _⟩ | ⟨rfl, _⟩ | ⟨rfl, _⟩ | ⟨rfl, _⟩ | ⟨rfl, _⟩ <;> rfl
      have hjs : ((shown L W fi se).map V.bl)[j]? = some (.bl true) := by rw [List.getElem?_map, hj3]; rfl
      have up_es4 : H119 s4 = some (.lst ((shown L W fi se).map V.bl)) := up_s4
      walk_at "rd"
      intro nl h_nl
      generalize hH120 : upd H119 nl _ = H120
      obtain ⟨sm120, up_nl⟩ : Same H119 H120 ∧ H120 nl = some (.lst namesL) := newH hH120 h_nl
      clear hH120
      refine ⟨tyL up_nl, ?_⟩
      walk_at "rd"
      refine ⟨nl, namesL, .str d, j, .str d, rfl, rfl, sqL up_nl, rfl, rfl, hj1, hje, hj2, ?_⟩
      refine ⟨s4, _, (j : Int), .bl true, rfl, rfl, sqL (sm120 _ _ up_es4), atI_nat hjs, ?_⟩
      walk_at "rd"
      refine iteF ?_
      have h4 := tellA_4 L W fi se
      have hlaid := told_laid L W fi se
      have hdue := told_due L W fi se
      generalize tellA L W fi se = a at haf h4 hlaid hdue
      have okx : Ok4 a.cl := by
        unfold Ok4
        cases h4 <;> simp [Ans.cl]
      have nosh : a.fs.lookup ("shows" : Str) = none := by cases h4 <;> rfl
      have haf2 := haf.mono (sm101.trans (sm102.trans (sm103.trans (sm104.trans (sm105.trans (sm106.trans (sm107.trans (sm108.trans (sm109.trans (sm110.trans (sm111.trans (sm112.trans (sm113.trans (sm114.trans (sm115.trans (sm116.trans (sm117.trans (sm118.trans (sm119.trans sm120)))))))))))))))))))
      obtain ⟨dxf, ef⟩ := id haf2
      refine ⟨a.cl, okx, _, rfl, pf, dxf, _, rfl, ef, nosh, ?_⟩
      walk_at "rd"
      refine .mk haf2 rfl h4 co.zl co.zw co.zf co.zs co.fl fun H121 sm121 => ?_
      rw [hdue]
      walk_at "rd"
      have haf3 := haf.mono (sm101.trans (sm102.trans (sm103.trans (sm104.trans (sm105.trans (sm106.trans (sm107.trans (sm108.trans (sm109.trans (sm110.trans (sm111.trans (sm112.trans (sm113.trans (sm114.trans (sm115.trans (sm116.trans (sm117.trans (sm118.trans (sm119.trans (sm120.trans sm121))))))))))))))))))))
      have ecl : decide (Cl.laid = a.cl) = due4 L W fi se .laid := by
        rw [← hlaid]
        exact decide_eq_decide.mpr ⟨Eq.symm, Eq.symm⟩
      refine ⟨_, _, _, _, _, rfl, .own _, tyA G haf3, kitA G a .laid, ?_⟩
      rw [show (decide (Cl.laid = a.cl) || decide (Cl.laid = Cl.answer)) = due4 L W fi se .laid by rw [ecl]; exact Bool.or_false _]
      walk_at "rd"
      rw [ne_bl hj4]
      refine iteF ?_
      refine ⟨_, rfl, s4, _, 0, .bl (due4 L W fi se .laid), rfl, rfl, sqL ((sm120.trans sm121) _ _ up_es4), rfl, ?_⟩
      walk_at "rd"
      rw [ne_bl hj4]
      refine iteF ?_
      walk_at "rd"
      refine iteB (fun cd => ?_) (fun cd => ?_)
      · rw [hj4] at cd
        refine ⟨_, rfl, 1, rfl, s4, _, rfl, sqL ((sm120.trans sm121) _ _ up_es4), fun sl h_sl => ?_⟩
        generalize hHx : upd H121 sl _ = Hx
        obtain ⟨smx, up_sl⟩ : Same H121 Hx ∧ Hx sl = some (.lst ((((shown L W fi se).drop 1)).map V.bl)) := newH hHx h_sl
        clear hHx
        refine ⟨sl, _, rfl, sqL up_sl, ?_⟩
        rw [hj6 cd]
        walk_at "rd"
        refine iteF ?_
        exact .mk (sma.trans (sm100.trans (Same.trans (sm101.trans (sm102.trans (sm103.trans (sm104.trans (sm105.trans (sm106.trans (sm107.trans (sm108.trans (sm109.trans (sm110.trans (sm111.trans (sm112.trans (sm113.trans (sm114.trans (sm115.trans (sm116.trans (sm117.trans (sm118.trans (sm119.trans (sm120.trans sm121)))))))))))))))))))) smx)))
      · refine iteF ?_
        exact .mk (sma.trans (sm100.trans (sm101.trans (sm102.trans (sm103.trans (sm104.trans (sm105.trans (sm106.trans (sm107.trans (sm108.trans (sm109.trans (sm110.trans (sm111.trans (sm112.trans (sm113.trans (sm114.trans (sm115.trans (sm116.trans (sm117.trans (sm118.trans (sm119.trans (sm120.trans sm121))))))))))))))))))))))
    · rintro _ H200 @⟨_, y2, y3, y4, y5, y6, y7, y8, sm200⟩
      have o2 : Ok4 .striped := .tail _ (.head _)
      have o3 : Ok4 .short := .tail _ (.tail _ (.head _))
      refine ⟨.striped, o2, ?_⟩
      walk_at "rd"
      intro q1 H201 nq1 sm201 ha1
      obtain ⟨dq1, eq1⟩ := id ha1
      refine ⟨q1, dq1, _, rfl, eq1, rfl, ?_⟩
      walk_at "rd"
      refine .mk (a := .striped (.int 2)) ha1 rfl (.striped 2) (sz_lit (by decide) (by decide)) (sz_lit (by decide) (by decide)) (sz_lit (by decide) (by decide)) (sz_lit (by decide) (by decide)) (.of (ss_lit (by decide) (by decide))) fun H202 sm202 => ?_
      rw [show due4 10 10 4 1 (.striped (.int 2)) = false from rfl]
      walk_at "rd"
      refine iteF ?_
      refine ⟨.striped, o2, ?_⟩
      walk_at "rd"
      intro q2 H203 nq2 sm203 ha2
      obtain ⟨dq2, eq2⟩ := id ha2
      refine ⟨q2, dq2, _, rfl, eq2, rfl, ?_⟩
      walk_at "rd"
      refine .mk (a := .striped (.int (-1))) ha2 rfl (.striped (-1)) (sz_lit (by decide) (by decide)) (sz_lit (by decide) (by decide)) (sz_lit (by decide) (by decide)) (sz_lit (by decide) (by decide)) (.of (ss_lit (by decide) (by decide))) fun H204 sm204 => ?_
      rw [show due4 10 10 4 4 (.striped (.int (-1))) = false from rfl]
      walk_at "rd"
      refine iteF ?_
      refine ⟨.short, o3, ?_⟩
      walk_at "rd"
      intro q3 H205 nq3 sm205 ha3
      obtain ⟨dq3, eq3⟩ := id ha3
      refine ⟨q3, dq3, _, rfl, eq3, rfl, ?_⟩
      walk_at "rd"
      refine .mk (a := .short (.int 2)) ha3 rfl (.short 2) (sz_lit (by decide) (by decide)) (sz_lit (by decide) (by decide)) (sz_lit (by decide) (by decide)) (sz_lit (by decide) (by decide)) (.of (ss_lit (by decide) (by decide))) fun H206 sm206 => ?_
      rw [show due4 1 6 2 3 (.short (.int 2)) = false from rfl]
      walk_at "rd"
      refine iteF ?_
      refine ⟨.short, o3, ?_⟩
      walk_at "rd"
      intro q4 H207 nq4 sm207 ha4
      obtain ⟨dq4, eq4⟩ := id ha4
      refine ⟨q4, dq4, _, rfl, eq4, rfl, ?_⟩
      walk_at "rd"
      refine .mk (a := .short (.int (-1))) ha4 rfl (.short (-1)) (sz_lit (by decide) (by decide)) (sz_lit (by decide) (by decide)) (sz_lit (by decide) (by decide)) (sz_lit (by decide) (by decide)) (.of (ss_lit (by decide) (by decide))) fun H208 sm208 => ?_
      rw [show due4 6 1 2 3 (.short (.int (-1))) = false from rfl]
      walk_at "rd"
      have s200 : Same H200 H208 := (sm201.trans (sm202.trans (sm203.trans (sm204.trans (sm205.trans (sm206.trans (sm207.trans sm208)))))))
      refine ⟨TsI far H200 10, ?_, ?_⟩
      · skip
        walk_at "rd"
        intro a1 h_a1
        generalize hH209 : upd H208 a1 _ = H209
        obtain ⟨sm209, up_a1⟩ : Same H208 H209 ∧ H209 a1 = some (.tup [.int 7, .int 2, .int 3]) := newH hH209 h_a1
        clear hH209
        walk_at "rd"
        intro b1 h_b1
        generalize hH210 : upd H209 b1 _ = H210
        obtain ⟨sm210, up_b1⟩ : Same H209 H210 ∧ H210 b1 = some (.tup [.int 2, .int 1]) := newH hH210 h_b1
        clear hH210
        walk_at "rd"
        intro c1 h_c1
        generalize hH211 : upd H210 c1 _ = H211
        obtain ⟨sm211, up_c1⟩ : Same H210 H211 ∧ H211 c1 = some (.tup [.ref a1, .ref b1]) := newH hH211 h_c1
        clear hH211
        walk_at "rd"
        intro a2 h_a2
        generalize hH212 : upd H211 a2 _ = H212
        obtain ⟨sm212, up_a2⟩ : Same H211 H212 ∧ H212 a2 = some (.tup [.int 12, .int 4, .int 6]) := newH hH212 h_a2
        clear hH212
        walk_at "rd"
        intro b2 h_b2
        generalize hH213 : upd H212 b2 _ = H213
        obtain ⟨sm213, up_b2⟩ : Same H212 H213 ∧ H213 b2 = some (.tup [.int 0, .int 2]) := newH hH213 h_b2
        clear hH213
        walk_at "rd"
        intro c2 h_c2
        generalize hH214 : upd H213 c2 _ = H214
        obtain ⟨sm214, up_c2⟩ : Same H213 H214 ∧ H214 c2 = some (.tup [.ref a2, .ref b2]) := newH hH214 h_c2
        clear hH214
        walk_at "rd"
        intro a3 h_a3
        generalize hH215 : upd H214 a3 _ = H215
        obtain ⟨sm215, up_a3⟩ : Same H214 H215 ∧ H215 a3 = some (.tup [.int 7, .int 4, .int 6]) := newH hH215 h_a3
        clear hH215
        walk_at "rd"
        intro c3 h_c3
        generalize hH216 : upd H215 c3 _ = H216
        obtain ⟨sm216, up_c3⟩ : Same H215 H216 ∧ H216 c3 = some (.tup [.ref a3, .non]) := newH hH216 h_c3
        clear hH216
        walk_at "rd"
        intro a4 h_a4
        generalize hH217 : upd H216 a4 _ = H217
        obtain ⟨sm217, up_a4⟩ : Same H216 H217 ∧ H217 a4 = some (.tup [.int 1, .int 2, .int 3]) := newH hH217 h_a4
        clear hH217
        walk_at "rd"
        intro c4 h_c4
        generalize hH218 : upd H217 c4 _ = H218
        obtain ⟨sm218, up_c4⟩ : Same H217 H218 ∧ H218 c4 = some (.tup [.ref a4, .non]) := newH hH218 h_c4
        clear hH218
        walk_at "rd"
        intro m h_m
        generalize hH219 : upd H218 m _ = H219
        obtain ⟨sm219, up_m⟩ : Same H218 H219 ∧ H219 m = some (.lst [V.ref c1, .ref c2, .ref c3, .ref c4]) := newH hH219 h_m
        clear hH219
        exact .mk (xs := [V.ref c1, .ref c2, .ref c3, .ref c4]) (sm201.trans (sm202.trans (sm203.trans (sm204.trans (sm205.trans (sm206.trans (sm207.trans (sm208.trans (sm209.trans (sm210.trans (sm211.trans (sm212.trans (sm213.trans (sm214.trans (sm215.trans (sm216.trans (sm217.trans (sm218.trans sm219)))))))))))))))))) up_m (allc (sum_lit (y := some (2, 1)) ((sm212.trans (sm213.trans (sm214.trans (sm215.trans (sm216.trans (sm217.trans (sm218.trans sm219))))))) _ _ up_c1) ((sm210.trans (sm211.trans (sm212.trans (sm213.trans (sm214.trans (sm215.trans (sm216.trans (sm217.trans (sm218.trans sm219))))))))) _ _ up_a1) ⟨b1, rfl, ((sm211.trans (sm212.trans (sm213.trans (sm214.trans (sm215.trans (sm216.trans (sm217.trans (sm218.trans sm219)))))))) _ _ up_b1)⟩ ⟨⟨by omega, by omega, by omega⟩, fun m n r => by obtain ⟨r1, r2, r3⟩ := r; show 2 ≤ m; omega⟩ (sz_lit (by decide) (by decide)) ⟨by decide, by decide⟩ ⟨by decide, by decide⟩) <| allc (sum_lit (y := some (0, 2)) ((sm215.trans (sm216.trans (sm217.trans (sm218.trans sm219)))) _ _ up_c2) ((sm213.trans (sm214.trans (sm215.trans (sm216.trans (sm217.trans (sm218.trans sm219)))))) _ _ up_a2) ⟨b2, rfl, ((sm214.trans (sm215.trans (sm216.trans (sm217.trans (sm218.trans sm219))))) _ _ up_b2)⟩ ⟨⟨by omega, by omega, by omega⟩, fun m n r => by obtain ⟨r1, r2, r3⟩ := r; show 0 ≤ m; omega⟩ (sz_lit (by decide) (by decide)) ⟨by decide, by decide⟩ ⟨by decide, by decide⟩) <| allc (sum_lit (y := none) ((sm217.trans (sm218.trans sm219)) _ _ up_c3) ((sm216.trans (sm217.trans (sm218.trans sm219))) _ _ up_a3) rfl (fun m n r => by obtain ⟨r1, r2, r3⟩ := r; omega) (sz_lit (by decide) (by decide)) ⟨by decide, by decide⟩ ⟨by decide, by decide⟩) <| allc (sum_lit (y := none) (sm219 _ _ up_c4) ((sm218.trans sm219) _ _ up_a4) rfl (fun m n r => by obtain ⟨r1, r2, r3⟩ := r; omega) (sz_lit (by decide) (by decide)) ⟨by decide, by decide⟩ ⟨by decide, by decide⟩) alln) (Nat.le_of_ble_eq_true rfl)
      rintro _ H2100 @⟨_, l2, xs2, y2, y3, y4, y5, y6, y7, y8, s2c, up_l2, hss, hlen⟩
      refine ⟨TsI far H200 20, ?_, ?_⟩
      · skip
        walk_at "rd"
        intro a5 h_a5
        generalize hH2101 : upd H2100 a5 _ = H2101
        obtain ⟨sm2101, up_a5⟩ : Same H2100 H2101 ∧ H2101 a5 = some (.tup [.int 6, .int 2, .int 2]) := newH hH2101 h_a5
        clear hH2101
        walk_at "rd"
        intro b5 h_b5
        generalize hH2102 : upd H2101 b5 _ = H2102
        obtain ⟨sm2102, up_b5⟩ : Same H2101 H2102 ∧ H2102 b5 = some (.tup [.int 0, .int 3]) := newH hH2102 h_b5
        clear hH2102
        walk_at "rd"
        intro c5 h_c5
        generalize hH2103 : upd H2102 c5 _ = H2103
        obtain ⟨sm2103, up_c5⟩ : Same H2102 H2103 ∧ H2103 c5 = some (.tup [.ref a5, .ref b5]) := newH hH2103 h_c5
        clear hH2103
        walk_at "rd"
        intro a6 h_a6
        generalize hH2104 : upd H2103 a6 _ = H2104
        obtain ⟨sm2104, up_a6⟩ : Same H2103 H2104 ∧ H2104 a6 = some (.tup [.int 5, .int 5, .int 3]) := newH hH2104 h_a6
        clear hH2104
        walk_at "rd"
        intro b6 h_b6
        generalize hH2105 : upd H2104 b6 _ = H2105
        obtain ⟨sm2105, up_b6⟩ : Same H2104 H2105 ∧ H2105 b6 = some (.tup [.int 1, .int 0]) := newH hH2105 h_b6
        clear hH2105
        walk_at "rd"
        intro c6 h_c6
        generalize hH2106 : upd H2105 c6 _ = H2106
        obtain ⟨sm2106, up_c6⟩ : Same H2105 H2106 ∧ H2106 c6 = some (.tup [.ref a6, .ref b6]) := newH hH2106 h_c6
        clear hH2106
        walk_at "rd"
        intro a7 h_a7
        generalize hH2107 : upd H2106 a7 _ = H2107
        obtain ⟨sm2107, up_a7⟩ : Same H2106 H2107 ∧ H2107 a7 = some (.tup [.int 10, .int 4, .int 6]) := newH hH2107 h_a7
        clear hH2107
        walk_at "rd"
        intro b7 h_b7
        generalize hH2108 : upd H2107 b7 _ = H2108
        obtain ⟨sm2108, up_b7⟩ : Same H2107 H2108 ∧ H2108 b7 = some (.tup [.int 1, .int 1]) := newH hH2108 h_b7
        clear hH2108
        walk_at "rd"
        intro c7 h_c7
        generalize hH2109 : upd H2108 c7 _ = H2109
        obtain ⟨sm2109, up_c7⟩ : Same H2108 H2109 ∧ H2109 c7 = some (.tup [.ref a7, .ref b7]) := newH hH2109 h_c7
        clear hH2109
        walk_at "rd"
        intro m h_m
        generalize hH2110 : upd H2109 m _ = H2110
        obtain ⟨sm2110, up_m⟩ : Same H2109 H2110 ∧ H2110 m = some (.lst [V.ref c5, .ref c6, .ref c7]) := newH hH2110 h_m
        clear hH2110
        refine ⟨l2, m, _, _, rfl, rfl, ((sm2101.trans (sm2102.trans (sm2103.trans (sm2104.trans (sm2105.trans (sm2106.trans (sm2107.trans (sm2108.trans (sm2109.trans sm2110))))))))) _ _ up_l2), up_m, (size4 (by simp only [List.length_cons, List.length_nil]; omega)), fun an h_an => ?_⟩
        generalize hH2111 : upd H2110 an _ = H2111
        obtain ⟨sm2111, up_an⟩ : Same H2110 H2111 ∧ H2111 an = some (.lst (xs2 ++ [V.ref c5, .ref c6, .ref c7])) := newH hH2111 h_an
        clear hH2111
        exact .mk (xs := xs2 ++ [V.ref c5, .ref c6, .ref c7]) (s2c.trans (sm2101.trans (sm2102.trans (sm2103.trans (sm2104.trans (sm2105.trans (sm2106.trans (sm2107.trans (sm2108.trans (sm2109.trans (sm2110.trans sm2111))))))))))) up_an (app_all (fun x hx => (hss x hx).mono (sm2101.trans (sm2102.trans (sm2103.trans (sm2104.trans (sm2105.trans (sm2106.trans (sm2107.trans (sm2108.trans (sm2109.trans (sm2110.trans sm2111))))))))))) (allc (sum_lit (y := some (0, 3)) ((sm2104.trans (sm2105.trans (sm2106.trans (sm2107.trans (sm2108.trans (sm2109.trans (sm2110.trans sm2111))))))) _ _ up_c5) ((sm2102.trans (sm2103.trans (sm2104.trans (sm2105.trans (sm2106.trans (sm2107.trans (sm2108.trans (sm2109.trans (sm2110.trans sm2111))))))))) _ _ up_a5) ⟨b5, rfl, ((sm2103.trans (sm2104.trans (sm2105.trans (sm2106.trans (sm2107.trans (sm2108.trans (sm2109.trans (sm2110.trans sm2111)))))))) _ _ up_b5)⟩ ⟨⟨by omega, by omega, by omega⟩, fun m n r => by obtain ⟨r1, r2, r3⟩ := r; show 0 ≤ m; omega⟩ (sz_lit (by decide) (by decide)) ⟨by decide, by decide⟩ ⟨by decide, by decide⟩) <| allc (sum_lit (y := some (1, 0)) ((sm2107.trans (sm2108.trans (sm2109.trans (sm2110.trans sm2111)))) _ _ up_c6) ((sm2105.trans (sm2106.trans (sm2107.trans (sm2108.trans (sm2109.trans (sm2110.trans sm2111)))))) _ _ up_a6) ⟨b6, rfl, ((sm2106.trans (sm2107.trans (sm2108.trans (sm2109.trans (sm2110.trans sm2111))))) _ _ up_b6)⟩ ⟨⟨by omega, by omega, by omega⟩, fun m n r => by obtain ⟨r1, r2, r3⟩ := r; show 1 ≤ m; omega⟩ (sz_lit (by decide) (by decide)) ⟨by decide, by decide⟩ ⟨by decide, by decide⟩) <| allc (sum_lit (y := some (1, 1)) ((sm2110.trans sm2111) _ _ up_c7) ((sm2108.trans (sm2109.trans (sm2110.trans sm2111))) _ _ up_a7) ⟨b7, rfl, ((sm2109.trans (sm2110.trans sm2111)) _ _ up_b7)⟩ ⟨⟨by omega, by omega, by omega⟩, fun m n r => by obtain ⟨r1, r2, r3⟩ := r; show 1 ≤ m; omega⟩ (sz_lit (by decide) (by decide)) ⟨by decide, by decide⟩ ⟨by decide, by decide⟩) alln)) (by rw [List.length_append]; simp only [List.length_cons, List.length_nil]; omega)
      rintro _ H2200 @⟨_, l2, xs2, y2, y3, y4, y5, y6, y7, y8, s2c, up_l2, hss, hlen⟩
      refine ⟨TsI far H200 30, ?_, ?_⟩
      · skip
        walk_at "rd"
        intro a8 h_a8
        generalize hH2201 : upd H2200 a8 _ = H2201
        obtain ⟨sm2201, up_a8⟩ : Same H2200 H2201 ∧ H2201 a8 = some (.tup [.int far, .int far, .int 1]) := newH hH2201 h_a8
        clear hH2201
        walk_at "rd"
        intro b8 h_b8
        generalize hH2202 : upd H2201 b8 _ = H2202
        obtain ⟨sm2202, up_b8⟩ : Same H2201 H2202 ∧ H2202 b8 = some (.tup [.int 0, .int far]) := newH hH2202 h_b8
        clear hH2202
        walk_at "rd"
        intro c8 h_c8
        generalize hH2203 : upd H2202 c8 _ = H2203
        obtain ⟨sm2203, up_c8⟩ : Same H2202 H2203 ∧ H2203 c8 = some (.tup [.ref a8, .ref b8]) := newH hH2203 h_c8
        clear hH2203
        walk_at "rd"
        intro a9 h_a9
        generalize hH2204 : upd H2203 a9 _ = H2204
        obtain ⟨sm2204, up_a9⟩ : Same H2203 H2204 ∧ H2204 a9 = some (.tup [.int far, .int 1, .int far]) := newH hH2204 h_a9
        clear hH2204
        walk_at "rd"
        intro b9 h_b9
        generalize hH2205 : upd H2204 b9 _ = H2205
        obtain ⟨sm2205, up_b9⟩ : Same H2204 H2205 ∧ H2205 b9 = some (.tup [.int 0, .int 1]) := newH hH2205 h_b9
        clear hH2205
        walk_at "rd"
        intro c9 h_c9
        generalize hH2206 : upd H2205 c9 _ = H2206
        obtain ⟨sm2206, up_c9⟩ : Same H2205 H2206 ∧ H2206 c9 = some (.tup [.ref a9, .ref b9]) := newH hH2206 h_c9
        clear hH2206
        walk_at "rd"
        intro a10 h_a10
        generalize hH2207 : upd H2206 a10 _ = H2207
        obtain ⟨sm2207, up_a10⟩ : Same H2206 H2207 ∧ H2207 a10 = some (.tup [.int 3, .int 4, .int 5]) := newH hH2207 h_a10
        clear hH2207
        walk_at "rd"
        intro c10 h_c10
        generalize hH2208 : upd H2207 c10 _ = H2208
        obtain ⟨sm2208, up_c10⟩ : Same H2207 H2208 ∧ H2208 c10 = some (.tup [.ref a10, .non]) := newH hH2208 h_c10
        clear hH2208
        walk_at "rd"
        intro m h_m
        generalize hH2209 : upd H2208 m _ = H2209
        obtain ⟨sm2209, up_m⟩ : Same H2208 H2209 ∧ H2209 m = some (.lst [V.ref c8, .ref c9, .ref c10]) := newH hH2209 h_m
        clear hH2209
        refine ⟨l2, m, _, _, rfl, rfl, ((sm2201.trans (sm2202.trans (sm2203.trans (sm2204.trans (sm2205.trans (sm2206.trans (sm2207.trans (sm2208.trans sm2209)))))))) _ _ up_l2), up_m, (size4 (by simp only [List.length_cons, List.length_nil]; omega)), fun an h_an => ?_⟩
        generalize hH2210 : upd H2209 an _ = H2210
        obtain ⟨sm2210, up_an⟩ : Same H2209 H2210 ∧ H2210 an = some (.lst (xs2 ++ [V.ref c8, .ref c9, .ref c10])) := newH hH2210 h_an
        clear hH2210
        exact .mk (xs := xs2 ++ [V.ref c8, .ref c9, .ref c10]) (s2c.trans (sm2201.trans (sm2202.trans (sm2203.trans (sm2204.trans (sm2205.trans (sm2206.trans (sm2207.trans (sm2208.trans (sm2209.trans sm2210)))))))))) up_an (app_all (fun x hx => (hss x hx).mono (sm2201.trans (sm2202.trans (sm2203.trans (sm2204.trans (sm2205.trans (sm2206.trans (sm2207.trans (sm2208.trans (sm2209.trans sm2210)))))))))) (allc ⟨c8, a8, _, _, _, some (0, far), _, rfl, ((sm2204.trans (sm2205.trans (sm2206.trans (sm2207.trans (sm2208.trans (sm2209.trans sm2210)))))) _ _ up_c8), ((sm2202.trans (sm2203.trans (sm2204.trans (sm2205.trans (sm2206.trans (sm2207.trans (sm2208.trans (sm2209.trans sm2210)))))))) _ _ up_a8), ⟨b8, rfl, ((sm2203.trans (sm2204.trans (sm2205.trans (sm2206.trans (sm2207.trans (sm2208.trans (sm2209.trans sm2210))))))) _ _ up_b8)⟩, parts_eq (by decide) ⟨⟨(show (0 : Int) ≤ 0 by decide), by show 0 ≤ far; omega, by show 0 * far + far * 1 = far; omega⟩, fun m n r => r.1⟩, hf.sz, hf.sz, sz_lit (by decide) (by decide), .inl (ss_lit (by decide) (by decide)).bn, .inl (ss_lit (by decide) (by decide)).bn⟩ <| allc ⟨c9, a9, _, _, _, some (0, 1), _, rfl, ((sm2207.trans (sm2208.trans (sm2209.trans sm2210))) _ _ up_c9), ((sm2205.trans (sm2206.trans (sm2207.trans (sm2208.trans (sm2209.trans sm2210))))) _ _ up_a9), ⟨b9, rfl, ((sm2206.trans (sm2207.trans (sm2208.trans (sm2209.trans sm2210)))) _ _ up_b9)⟩, parts_eq (by omega) ⟨⟨by decide, by decide, by show 0 * 1 + 1 * far = far; omega⟩, fun m n r => r.1⟩, hf.sz, sz_lit (by decide) (by decide), hf.sz, .inr (ss_lit (by decide) (by decide)).bn, .inr (Int.le_refl _)⟩ <| allc (sum_lit (y := none) ((sm2209.trans sm2210) _ _ up_c10) ((sm2208.trans (sm2209.trans sm2210)) _ _ up_a10) rfl (fun m n r => by obtain ⟨r1, r2, r3⟩ := r; omega) (sz_lit (by decide) (by decide)) ⟨by decide, by decide⟩ ⟨by decide, by decide⟩) alln)) (by rw [List.length_append]; simp only [List.length_cons, List.length_nil]; omega)
      rintro _ H2300 @⟨_, l2, xs2, y2, y3, y4, y5, y6, y7, y8, s2c, up_l2, hss, hlen⟩
      refine ⟨TsI far H200 40, ?_, ?_⟩
      · skip
        walk_at "rd"
        intro a11 h_a11
        generalize hH2301 : upd H2300 a11 _ = H2301
        obtain ⟨sm2301, up_a11⟩ : Same H2300 H2301 ∧ H2301 a11 = some (.tup [.int (3 * far + 1), .int 2, .int 3]) := newH hH2301 h_a11
        clear hH2301
        walk_at "rd"
        intro b11 h_b11
        generalize hH2302 : upd H2301 b11 _ = H2302
        obtain ⟨sm2302, up_b11⟩ : Same H2301 H2302 ∧ H2302 b11 = some (.tup [.int 2, .int (far - 1)]) := newH hH2302 h_b11
        clear hH2302
        walk_at "rd"
        intro c11 h_c11
        generalize hH2303 : upd H2302 c11 _ = H2303
        obtain ⟨sm2303, up_c11⟩ : Same H2302 H2303 ∧ H2303 c11 = some (.tup [.ref a11, .ref b11]) := newH hH2303 h_c11
        clear hH2303
        walk_at "rd"
        intro a12 h_a12
        generalize hH2304 : upd H2303 a12 _ = H2304
        obtain ⟨sm2304, up_a12⟩ : Same H2303 H2304 ∧ H2304 a12 = some (.tup [.int (3 * far), .int 2, .int 3]) := newH hH2304 h_a12
        clear hH2304
        walk_at "rd"
        intro b12 h_b12
        generalize hH2305 : upd H2304 b12 _ = H2305
        obtain ⟨sm2305, up_b12⟩ : Same H2304 H2305 ∧ H2305 b12 = some (.tup [.int 0, .int far]) := newH hH2305 h_b12
        clear hH2305
        walk_at "rd"
        intro c12 h_c12
        generalize hH2306 : upd H2305 c12 _ = H2306
        obtain ⟨sm2306, up_c12⟩ : Same H2305 H2306 ∧ H2306 c12 = some (.tup [.ref a12, .ref b12]) := newH hH2306 h_c12
        clear hH2306
        walk_at "rd"
        intro m h_m
        generalize hH2307 : upd H2306 m _ = H2307
        obtain ⟨sm2307, up_m⟩ : Same H2306 H2307 ∧ H2307 m = some (.lst [V.ref c11, .ref c12]) := newH hH2307 h_m
        clear hH2307
        refine ⟨l2, m, _, _, rfl, rfl, ((sm2301.trans (sm2302.trans (sm2303.trans (sm2304.trans (sm2305.trans (sm2306.trans sm2307)))))) _ _ up_l2), up_m, (size4 (by simp only [List.length_cons, List.length_nil]; omega)), fun an h_an => ?_⟩
        generalize hH2308 : upd H2307 an _ = H2308
        obtain ⟨sm2308, up_an⟩ : Same H2307 H2308 ∧ H2308 an = some (.lst (xs2 ++ [V.ref c11, .ref c12])) := newH hH2308 h_an
        clear hH2308
        exact .mk (xs := xs2 ++ [V.ref c11, .ref c12]) (s2c.trans (sm2301.trans (sm2302.trans (sm2303.trans (sm2304.trans (sm2305.trans (sm2306.trans (sm2307.trans sm2308)))))))) up_an (app_all (fun x hx => (hss x hx).mono (sm2301.trans (sm2302.trans (sm2303.trans (sm2304.trans (sm2305.trans (sm2306.trans (sm2307.trans sm2308)))))))) (allc (sum_lit (y := some (2, far - 1)) ((sm2304.trans (sm2305.trans (sm2306.trans (sm2307.trans sm2308)))) _ _ up_c11) ((sm2302.trans (sm2303.trans (sm2304.trans (sm2305.trans (sm2306.trans (sm2307.trans sm2308)))))) _ _ up_a11) ⟨b11, rfl, ((sm2303.trans (sm2304.trans (sm2305.trans (sm2306.trans (sm2307.trans sm2308))))) _ _ up_b11)⟩ ⟨⟨by omega, by omega, by omega⟩, fun m n r => by obtain ⟨r1, r2, r3⟩ := r; show 2 ≤ m; omega⟩ z31 ⟨by decide, by decide⟩ ⟨by decide, by decide⟩) <| allc (sum_lit (y := some (0, far)) ((sm2307.trans sm2308) _ _ up_c12) ((sm2305.trans (sm2306.trans (sm2307.trans sm2308))) _ _ up_a12) ⟨b12, rfl, ((sm2306.trans (sm2307.trans sm2308)) _ _ up_b12)⟩ ⟨⟨by omega, by omega, by omega⟩, fun m n r => by obtain ⟨r1, r2, r3⟩ := r; show 0 ≤ m; omega⟩ z3 ⟨by decide, by decide⟩ ⟨by decide, by decide⟩) alln)) (by rw [List.length_append]; simp only [List.length_cons, List.length_nil]; omega)
      rintro _ H2400 @⟨_, l2, xs2, y2, y3, y4, y5, y6, y7, y8, s2c, up_l2, hss, hlen⟩
      refine ⟨TsI far H200 50, ?_, ?_⟩
      · skip
        walk_at "rd"
        intro a13 h_a13
        generalize hH2401 : upd H2400 a13 _ = H2401
        obtain ⟨sm2401, up_a13⟩ : Same H2400 H2401 ∧ H2401 a13 = some (.tup [.int (3 * far + 2), .int 2, .int 3]) := newH hH2401 h_a13
        clear hH2401
        walk_at "rd"
        intro b13 h_b13
        generalize hH2402 : upd H2401 b13 _ = H2402
        obtain ⟨sm2402, up_b13⟩ : Same H2401 H2402 ∧ H2402 b13 = some (.tup [.int 1, .int far]) := newH hH2402 h_b13
        clear hH2402
        walk_at "rd"
        intro c13 h_c13
        generalize hH2403 : upd H2402 c13 _ = H2403
        obtain ⟨sm2403, up_c13⟩ : Same H2402 H2403 ∧ H2403 c13 = some (.tup [.ref a13, .ref b13]) := newH hH2403 h_c13
        clear hH2403
        walk_at "rd"
        intro m h_m
        generalize hH2404 : upd H2403 m _ = H2404
        obtain ⟨sm2404, up_m⟩ : Same H2403 H2404 ∧ H2404 m = some (.lst [V.ref c13]) := newH hH2404 h_m
        clear hH2404
        refine ⟨l2, m, _, _, rfl, rfl, ((sm2401.trans (sm2402.trans (sm2403.trans sm2404))) _ _ up_l2), up_m, (size4 (by simp only [List.length_cons, List.length_nil]; omega)), fun an h_an => ?_⟩
        generalize hH2405 : upd H2404 an _ = H2405
        obtain ⟨sm2405, up_an⟩ : Same H2404 H2405 ∧ H2405 an = some (.lst (xs2 ++ [V.ref c13])) := newH hH2405 h_an
        clear hH2405
        exact .mk (xs := xs2 ++ [V.ref c13]) (s2c.trans (sm2401.trans (sm2402.trans (sm2403.trans (sm2404.trans sm2405))))) up_an (app_all (fun x hx => (hss x hx).mono (sm2401.trans (sm2402.trans (sm2403.trans (sm2404.trans sm2405))))) (allc (sum_lit (y := some (1, far)) ((sm2404.trans sm2405) _ _ up_c13) ((sm2402.trans (sm2403.trans (sm2404.trans sm2405))) _ _ up_a13) ⟨b13, rfl, ((sm2403.trans (sm2404.trans sm2405)) _ _ up_b13)⟩ ⟨⟨by omega, by omega, by omega⟩, fun m n r => by obtain ⟨r1, r2, r3⟩ := r; show 1 ≤ m; omega⟩ z32 ⟨by decide, by decide⟩ ⟨by decide, by decide⟩) alln)) (by rw [List.length_append]; simp only [List.length_cons, List.length_nil]; omega)
      rintro _ H2500 @⟨_, l2, xs2, y2, y3, y4, y5, y6, y7, y8, s2c, up_l2, hss, hlen⟩
      refine ⟨TsJ far H200 60, ?_, ?_⟩
      · skip
        walk_at "rd"
        intro a14 h_a14
        generalize hH2501 : upd H2500 a14 _ = H2501
        obtain ⟨sm2501, up_a14⟩ : Same H2500 H2501 ∧ H2501 a14 = some (.tup [.int (2 * far), .int 4, .int 6]) := newH hH2501 h_a14
        clear hH2501
        walk_at "rd"
        intro b14 h_b14
        generalize hH2502 : upd H2501 b14 _ = H2502
        obtain ⟨sm2502, up_b14⟩ : Same H2501 H2502 ∧ H2502 b14 = some (.tup [.int (far % 6 % 3 * 2), .int ((2 * far - 8 * (far % 6 % 3)) / 6)]) := newH hH2502 h_b14
        clear hH2502
        walk_at "rd"
        intro c14 h_c14
        generalize hH2503 : upd H2502 c14 _ = H2503
        obtain ⟨sm2503, up_c14⟩ : Same H2502 H2503 ∧ H2503 c14 = some (.tup [.ref a14, .ref b14]) := newH hH2503 h_c14
        clear hH2503
        walk_at "rd"
        intro m h_m
        generalize hH2504 : upd H2503 m _ = H2504
        obtain ⟨sm2504, up_m⟩ : Same H2503 H2504 ∧ H2504 m = some (.lst [V.ref c14]) := newH hH2504 h_m
        clear hH2504
        refine ⟨l2, m, _, _, rfl, rfl, ((sm2501.trans (sm2502.trans (sm2503.trans sm2504))) _ _ up_l2), up_m, (size4 (by simp only [List.length_cons, List.length_nil]; omega)), fun an h_an => ?_⟩
        generalize hH2505 : upd H2504 an _ = H2505
        obtain ⟨sm2505, up_an⟩ : Same H2504 H2505 ∧ H2505 an = some (.lst (xs2 ++ [V.ref c14])) := newH hH2505 h_an
        clear hH2505
        exact .mk (xs := xs2) (v := V.ref c14) (s2c.trans (sm2501.trans (sm2502.trans (sm2503.trans (sm2504.trans sm2505))))) up_an (fun x hx => (hss x hx).mono (sm2501.trans (sm2502.trans (sm2503.trans (sm2504.trans sm2505))))) (by omega)
      rintro _ H2600 @⟨_, l2, xs2, v14, y2, y3, y4, y5, y6, y7, y8, s2c, up_l2, hss, hlen⟩
      walk_at "rd"
      refine ⟨l2, _, rfl, sqL up_l2, fun sl h_sl => ?_⟩
      generalize hHx : upd H2600 sl _ = H400
      obtain ⟨sm400, up_sl⟩ : Same H2600 H400 ∧ H400 sl = some (.lst xs2) := by rw [← cut_last xs2 v14]; exact newH hHx h_sl
      clear hHx
      refine ⟨sl, rfl, ⟨_, sqL up_sl⟩, fun D hD => ?_⟩
      refine lc_list (K := K) (a := sl) (xs := xs2) (fun j H' => Same H400 H' ∧ H' D = some (.lst ((List.replicate j true).map V.bl)) ∧ j ≤ 1000) ⟨same_upd hD, upd_same, Nat.zero_le _⟩ (fun j H' _ ⟨sm, _⟩ => sqL (sm _ _ up_sl)) ?_ ?_
      · rintro j x H401 hj ⟨sm401, eD, hjl⟩
        obtain ⟨t, t1, sz, a, b, y, v, rfl, ht, ht1, tv, ep, hs, ha, hb, hm, hd⟩ := hss x (List.mem_of_getElem? hj)
        have s41 := sm400.trans sm401
        refine ⟨t, _, rfl, sqT (s41 _ _ ht), rfl, ?_⟩
        walk_at "rd"
        refine ⟨t1, _, rfl, sqT (s41 _ _ ht1), rfl, ?_⟩
        walk_at "rd"
        refine .mk hs ha hb hm hd (tell_of fun v2 H402 sm402 tv2 => ?_)
        rw [ep] at tv2
        walk_at "rd"
        have hjx : j < xs2.length := (List.getElem?_eq_some_iff.mp hj).1
        refine ⟨_, _, told_dp tv2, told_dp (tv.mono (s41.trans sm402)), told_shp _, told_shp _, ?_⟩
        rw [told_eqv]
        refine ⟨_, sm402 _ _ eD, size3 (by rw [List.length_map, List.length_replicate]; exact hjl), same_mut2 (sm401.trans sm402) hD, ?_, by omega⟩
        rw [upd_same, List.replicate_succ', List.map_append]
        rfl
      rintro H401 ⟨sm401, eD, _⟩
      refine ⟨D, _, rfl, sqL eD, ?_⟩
      rw [all_true]
      exact q _ (hT.ext (s026.trans (sm200.trans (s2c.trans (sm400.trans sm401)))))
end
end BF

/-! ### rules for what runs in a comprehension's block: readings that do not hang on it -/
namespace BF
open PySem PySem.Spec PyProof.Rows L2 LamX NdefX
section
variable {X : Cx} {CX : CXT} {k : Nat} {ps : List Str} {E : XK} {m : Str} {pos apos : Pos} {e o : Expr} {es : List Expr} {ta : TE} {t : TA}
theorem pe_methK (K : PySem.W.Frag) (hK : X.K = K) {pl : Sem Bool} {Ok : Cl → Prop} {sp : Cl → Sp} (h : ∀ x, Ok x → HasM X.prog X.w K X.mg X.base CX k x m ps (sp x)) (c : ∀ x, Ok x → Cls K (cl K x)) (hr : Room k X.A) (hx : Passes CX X E) (he : PE X o ta) (ha : PA X (e :: es) t)
    (hst : starEach (e :: es) X.env = (false, eval e X.env) :: starEach es X.env := by rfl) (hpl : (backTo pos (starEach es X.env)).any (·.1) = false := by rfl)
    (ht : eval (.Call (.Attribute o m apos) (e :: es) [] pos) X.env = (do
      let ov ← eval o X.env
      standAt apos.atName
      let (f, first) ← holding [ov] (getMethod ov m pl)
      callWith pos f first (backTo pos (starEach (e :: es) X.env)) (backToKw pos (keywordEach [] X.env))) := by rfl) :
    PE X (.Call (.Attribute o m apos) (e :: es) [] pos) (tMethA K Ok m sp E ta t) := by
  subst hK
  exact pe_methA (pl := pl) h c hr hx he ha hst hpl ht
end
theorem clo_none {cells : List (Str × Addr)} : ∀ {names : List (Str × NameKind)}, (names.all fun y => !(y.2 == .free)) = true → ∀ acc, cloFrom cells names acc = acc
  | [], _, _ => rfl
  | (n, k) :: r, h, acc => by
    have h2 := (Bool.and_eq_true_iff.mp (show (!(k == .free) && (r.all fun y => !(y.2 == .free))) = true from h))
    show (if k == .free then cloFrom cells r ((n, (cells.lookup n).getD 0) :: acc) else cloFrom cells r acc) = acc
    have e : (k == NameKind.free) = false := by
      cases z : (k == NameKind.free) with
      | false => rfl
      | true => rw [z] at h2; exact nomatch h2.1
    rw [e]
    exact clo_none h2.2 acc
/-- lambda ..: body, nothing captured -/
theorem pe_lampN {X : Cx} {T : List (Addr × Str)} {c P : Addr} {params : Arguments} {body : Expr} {scope : Scope} {pos : Pos} (q : Str) (hq : X.env.qual ++ "<lambda>" = q) (TB : TabB X.base X.mg c P) (hcode : X.env.code = .ref c) (hm : (P, q) ∈ T) (hu : ∀ p ∈ T, p.1 = P → p.2 = q)
    (hdef : defaultsOf params X.env = ([], [])) (hfree : (scope.names.all fun y => !(y.2 == .free)) = true) :
    PE X (.Lambda params body scope pos) (tLamp T fun c' => ⟨q, params, body, scope, [], c'⟩) := by
  subst hq
  have z := pe_lamp (X := X) (T := T) (c := c) (P := P) (params := params) (body := body) (scope := scope) (pos := pos) TB hcode hm hu hdef (fun y hy e => by
    have a := List.all_eq_true.mp hfree y hy
    rw [e] at a
    exact nomatch a)
  rw [clo_none hfree] at z
  exact z
/-- what a lambda lets out -/
theorem passW {P : Program} {w : World} {K : PySem.W.Frag} {mg : Str → Option Value} {base : Heap} {N : List Str} {F : NF} {f : Addr} {A : Around} {outer : List Env} {s : Shared} {H : Hp} {E : XK} : Passes (CXN P w) (ncx (CXN P w) P w K mg base N F f A outer s H E) E :=
  L2N.passes_call (L2N.takes_of rfl rfl rfl rfl) (fun _ _ _ _ h => h)
/-- a lambda of one parameter that is refused -/
theorem lok_rz {P : Program} {w : World} {K : PySem.W.Frag} {mg : Str → Option Value} {base : Heap} {F : LF} {f : Addr} {x : Str} {Ok : Hp → V → Prop} {e : Er} {t : XK → TE} (S : NScope [x] [x] [] F.scope) (hb : ∀ (pm ctv : Value) (us : List Value), us.length = 1 → bindArgs (F.fd pm ctv) ⟨us, []⟩ = pure ([x].zip us))
    (hbody : ∀ (A : Around) (outer : List Env) (s : Shared) (H : Hp) (E : XK), Room 7 (A.deeper (envF F.nf f s.heap.objs.size)) → PE (ncx (CXN P w) P w K mg base [x] F.nf f A outer s H E) F.body (t E))
    (ht : ∀ (H : Hp) (v : V) (Q : VK) (E : XK), Ok H v → (∀ H', Same H H' → E (.ref (er K e)) none H') → t E [some v] H Q) : LOk P w K mg base (CXN P w) 8 f F [x] [] (SpRz K Ok e) := by
  refine lok_of S hb (fun ws vs H Q E h => ?_) (fun A outer s H vs ws Q E hr hwl h => ?_)
  · cases h; rfl
  · obtain ⟨hv, x⟩ := h
    obtain rfl : ws = [] := List.length_eq_zero_iff.mp hwl
    exact ⟨_, hbody A outer s H E hr, ht _ _ _ _ hv x⟩
theorem At5.look {K : PySem.W.Frag} {H : Hp} {p : Addr} {d : D5} (h : At5 K H p d) : ∃ dx fs, H p = some (.ins (cl K d.cl) dx fs) ∧ fs.lookup ("shows" : Str) = none := by
  cases h with
  | full h => obtain ⟨dx, e⟩ := h; exact ⟨dx, _, e, rfl⟩
  | beyond h => obtain ⟨dx, e⟩ := h; exact ⟨dx, _, e, rfl⟩
  | twice h ht => obtain ⟨dx, e⟩ := h; exact ⟨dx, _, e, rfl⟩
  | bare h ht => obtain ⟨dx, e⟩ := h; exact ⟨dx, _, e, rfl⟩
end BF

/-! ### k11: judged lists by hand -/
namespace BF
open PySem PySem.Spec PyProof.Rows L2 LamX NdefX
/-- a case of an answer by hand -/
def AnsCase (K : PySem.W.Frag) (H : Hp) (x : V) : Prop := ∃ t L W l p d b ps, x = V.ref t ∧ H t = some (.tup [.int L, .int W, .ref l, .ref p, .bl b]) ∧ H l = some (.lst (refs ps)) ∧ BrT H ps ∧ ps.length ≤ 1000 ∧ At5 K H p d ∧ (0 < L ∧ L ≤ 1000) ∧ (0 < W ∧ W ≤ 1000) ∧ due5 L W 2 1 (vals ps) d = b
theorem AnsCase.mono {K : PySem.W.Frag} {H H' : Hp} {x : V} (h : AnsCase K H x) (sm : Same H H') : AnsCase K H' x := by
  obtain ⟨t, L, W, l, p, d, b, ps, e, ht, hl, hb, hn, ha, r⟩ := h
  exact ⟨t, L, W, l, p, d, b, ps, e, sm _ _ ht, sm _ _ hl, hb.mono sm, hn, ha.mono sm, r⟩
theorem At5.ans {K : PySem.W.Frag} {H : Hp} {p : Addr} {d : D5} (h : At5 K H p d) : ∃ a, AnsAt K H p a ∧ a.cl = d.cl := by
  cases h with
  | full h => exact ⟨_, h, rfl⟩
  | beyond h => exact ⟨_, h, rfl⟩
  | twice h _ => exact ⟨_, h, rfl⟩
  | bare h _ => exact ⟨_, h, rfl⟩
theorem brt0 {H : Hp} : BrT H [] := fun _ z => nomatch z
theorem brtc {H : Hp} {a : Addr} {b : Brick} {ps : List (Addr × Brick)} (h : H a = some (.tup b.vs)) (t : BrT H ps) : BrT H ((a, b) :: ps) := fun p hp => by
  rcases List.mem_cons.mp hp with rfl | z
  · exact h
  · exact t p z
theorem bey_far {far : Int} (h : 1000000 < far) : due5 2 1 2 1 [⟨0, 0, true⟩, ⟨far, 0, true⟩] (.beyond 1) = true := by
  show (true && beyB 2 1 2 1 ⟨far, 0, true⟩) = true
  have e : decide ((2 : Int) < far + 2) = true := decide_eq_true (by omega)
  show (true && (decide (far < 0) || (false || (decide ((2 : Int) < far + 2) || _)))) = true
  rw [e]
  simp
theorem bey_far2 {far : Int} : due5 2 1 2 1 [⟨0, 0, true⟩, ⟨far, 0, true⟩] (.beyond (-1)) = false := rfl
inductive JcI (K : PySem.W.Frag) (far : Int) (lie stand : Addr) (H0 : Hp) (n : Nat) : L2.St → Hp → Prop where
  | mk {H : Hp} {a : Addr} {xs : List V} (s0 : Same H0 H) (el : H lie = some (.tup (Brick.vs ⟨0, 0, true⟩))) (es : H stand = some (.tup (Brick.vs ⟨0, 0, false⟩))) (ea : H a = some (.lst xs)) (hc : ∀ x ∈ xs, AnsCase K H x) (hl : xs.length ≤ n) :
      JcI K far lie stand H0 n [some (.int far), some (.ref lie), some (.ref stand), some (.ref a), none, none, none, none, none] H
section
variable {P : Program} {w : World} {K : PySem.W.Frag} {mg : Str → Option Value} {base : Heap}
theorem H__law_judged_right {T : List (Addr × Str)} (p : Pl K mg "_law_judged_right" s__law_judged_right) (B : Bi mg) (G : ClG K mg) (CI : ClI P w K mg base) (h_judged : Has P w K mg base CX0 3 "judged" ["length", "width", "first", "second", "bricks"] (SpJudged K))
    (h_shows5 : ∀ x, Ok5 x → HasM P w K mg base CX0 3 x "shows" ["self", "length", "width", "first", "second", "bricks"] (SpShows5 K x)) : Has P w K mg base CX0 5 "_law_judged_right" ["_law_far"] (SpFar T) := by
  refine p.mk0 sc__law_judged_right (fun _ _ _ _ _ _ us hl => match us, hl with | [_], _ => rfl) (fun vs H Q E h => ?_) (fun f cdv A outer s H vs Q E hr h => ?_)
  · cases h; rfl
  · obtain @⟨far, _, _, _, hf, hT, q⟩ := h
    have flo := hf.lo
    refine ⟨_, (pss_cons (ps_asg (pe_tup (pa_cons (pe_tup (pa_cons pe_int (pa_cons pe_int (pa_cons pe_bl pa_nil)))) (pa_cons (pe_tup (pa_cons pe_int (pa_cons pe_int (pa_cons pe_bl pa_nil)))) pa_nil))) (pg_tup (by rfl) (pgs_cons (pg_name (i := 1) sc__law_judged_right.nd rfl (Or.inl rfl)) (pgs_cons (pg_name (i := 2) sc__law_judged_right.nd rfl (Or.inl rfl)) pgs_nil))))
      (Evl.pss_cut (ps_set (i := 3) sc__law_judged_right.nd rfl (Or.inl rfl) (pe_lst (pa_cons (pe_tup (pa_cons pe_int (pa_cons pe_int (pa_cons (pe_lst (pa_cons (pv 1) pa_nil)) (pa_cons (pe_mkN (x := .full) CI G (by decide) (by decide)) (pa_cons pe_bl pa_nil)))))) (pa_cons (pe_tup (pa_cons pe_int (pa_cons pe_int (pa_cons (pe_lst (pa_cons (pv 2) pa_nil)) (pa_cons (pe_mkN (x := .full) CI G (by decide) (by decide)) (pa_cons pe_bl pa_nil)))))) pa_nil))))
      (Evl.pss_cut (ps_set (i := 3) sc__law_judged_right.nd rfl (Or.inl rfl) (pe_op op_cat (pv 3) (pe_lst (pa_cons (pe_tup (pa_cons pe_int (pa_cons pe_int (pa_cons (pe_lst (pa_cons (pv 2) pa_nil)) (pa_cons (pe_mkI (x := .beyond) CI G (by decide) trivial (hr.mono (by decide)) (pa_cons pe_int pa_nil)) (pa_cons pe_bl pa_nil)))))) (pa_cons (pe_tup (pa_cons pe_int (pa_cons pe_int (pa_cons (pe_lst (pa_cons (pv 2) pa_nil)) (pa_cons (pe_mkN (x := .full) CI G (by decide) (by decide)) (pa_cons pe_bl pa_nil)))))) pa_nil)))))
      (Evl.pss_cut (ps_set (i := 3) sc__law_judged_right.nd rfl (Or.inl rfl) (pe_op op_cat (pv 3) (pe_lst (pa_cons (pe_tup (pa_cons pe_int (pa_cons pe_int (pa_cons (pe_lst (pa_cons (pe_tup (pa_cons (pe_un un_neg pe_int) (pa_cons pe_int (pa_cons pe_bl pa_nil)))) pa_nil)) (pa_cons (pe_mkI (x := .beyond) CI G (by decide) trivial (hr.mono (by decide)) (pa_cons pe_int pa_nil)) (pa_cons pe_bl pa_nil)))))) (pa_cons (pe_tup (pa_cons pe_int (pa_cons pe_int (pa_cons (pe_lst (pa_cons (pv 1) pa_nil)) (pa_cons (pe_mkI (x := .beyond) CI G (by decide) trivial (hr.mono (by decide)) (pa_cons pe_int pa_nil)) (pa_cons pe_bl pa_nil)))))) pa_nil)))))
      (Evl.pss_cut (ps_set (i := 3) sc__law_judged_right.nd rfl (Or.inl rfl) (pe_op op_cat (pv 3) (pe_lst (pa_cons (pe_tup (pa_cons pe_int (pa_cons pe_int (pa_cons (pe_lst (pa_cons (pv 1) (pa_cons (pe_tup (pa_cons (pv 0) (pa_cons pe_int (pa_cons pe_bl pa_nil)))) pa_nil))) (pa_cons (pe_mkI (x := .beyond) CI G (by decide) trivial (hr.mono (by decide)) (pa_cons pe_int pa_nil)) (pa_cons pe_bl pa_nil)))))) pa_nil))))
      (Evl.pss_cut (ps_set (i := 3) sc__law_judged_right.nd rfl (Or.inl rfl) (pe_op op_cat (pv 3) (pe_lst (pa_cons (pe_tup (pa_cons pe_int (pa_cons pe_int (pa_cons (pe_lst (pa_cons (pv 1) (pa_cons (pe_tup (pa_cons (pv 0) (pa_cons pe_int (pa_cons pe_bl pa_nil)))) pa_nil))) (pa_cons (pe_mkI (x := .beyond) CI G (by decide) trivial (hr.mono (by decide)) (pa_cons (pe_un un_neg pe_int) pa_nil)) (pa_cons pe_bl pa_nil)))))) pa_nil))))
      (Evl.pss_cut (ps_set (i := 3) sc__law_judged_right.nd rfl (Or.inl rfl) (pe_op op_cat (pv 3) (pe_lst (pa_cons (pe_tup (pa_cons pe_int (pa_cons pe_int (pa_cons (pe_lst (pa_cons (pv 1) (pa_cons (pv 1) pa_nil))) (pa_cons (pe_mkI (x := .twice) CI G (by decide) trivial (hr.mono (by decide)) (pa_cons (pe_tup (pa_cons pe_int (pa_cons pe_int pa_nil))) pa_nil)) (pa_cons pe_bl pa_nil)))))) (pa_cons (pe_tup (pa_cons pe_int (pa_cons pe_int (pa_cons (pe_lst (pa_cons (pv 1) (pa_cons (pv 1) pa_nil))) (pa_cons (pe_mkI (x := .twice) CI G (by decide) trivial (hr.mono (by decide)) (pa_cons (pe_tup (pa_cons pe_int (pa_cons pe_int pa_nil))) pa_nil)) (pa_cons pe_bl pa_nil)))))) pa_nil)))))
      (Evl.pss_cut (ps_set (i := 3) sc__law_judged_right.nd rfl (Or.inl rfl) (pe_op op_cat (pv 3) (pe_lst (pa_cons (pe_tup (pa_cons pe_int (pa_cons pe_int (pa_cons (pe_lst (pa_cons (pv 1) pa_nil)) (pa_cons (pe_mkI (x := .twice) CI G (by decide) trivial (hr.mono (by decide)) (pa_cons (pe_tup (pa_cons pe_int (pa_cons pe_int pa_nil))) pa_nil)) (pa_cons pe_bl pa_nil)))))) pa_nil))))
      (Evl.pss_cut (ps_set (i := 3) sc__law_judged_right.nd rfl (Or.inl rfl) (pe_op op_cat (pv 3) (pe_lst (pa_cons (pe_tup (pa_cons pe_int (pa_cons pe_int (pa_cons (pe_lst pa_nil) (pa_cons (pe_mkI (x := .bare) CI G (by decide) trivial (hr.mono (by decide)) (pa_cons (pe_tup (pa_cons pe_int (pa_cons pe_int pa_nil))) pa_nil)) (pa_cons pe_bl pa_nil)))))) (pa_cons (pe_tup (pa_cons pe_int (pa_cons pe_int (pa_cons (pe_lst (pa_cons (pv 1) pa_nil)) (pa_cons (pe_mkI (x := .bare) CI G (by decide) trivial (hr.mono (by decide)) (pa_cons (pe_tup (pa_cons pe_int (pa_cons pe_int pa_nil))) pa_nil)) (pa_cons pe_bl pa_nil)))))) pa_nil)))))
      (Evl.pss_cut (ps_set (i := 3) sc__law_judged_right.nd rfl (Or.inl rfl) (pe_op op_cat (pv 3) (pe_lst (pa_cons (pe_tup (pa_cons pe_int (pa_cons pe_int (pa_cons (pe_lst pa_nil) (pa_cons (pe_mkI (x := .bare) CI G (by decide) trivial (hr.mono (by decide)) (pa_cons (pe_tup (pa_cons pe_int (pa_cons pe_int pa_nil))) pa_nil)) (pa_cons pe_bl pa_nil)))))) (pa_cons (pe_tup (pa_cons pe_int (pa_cons pe_int (pa_cons (pe_lst pa_nil) (pa_cons (pe_mkI (x := .bare) CI G (by decide) trivial (hr.mono (by decide)) (pa_cons (pe_tup (pa_cons pe_int (pa_cons (pe_un un_neg pe_int) pa_nil))) pa_nil)) (pa_cons pe_bl pa_nil)))))) pa_nil)))))
      (Evl.pss_cut (ps_set (i := 3) sc__law_judged_right.nd rfl (Or.inl rfl) (pe_op op_cat (pv 3) (pe_lst (pa_cons (pe_tup (pa_cons pe_int (pa_cons pe_int (pa_cons (pe_lst (pa_cons (pv 1) (pa_cons (pv 1) pa_nil))) (pa_cons (pe_mkN (x := .full) CI G (by decide) (by decide)) (pa_cons pe_bl pa_nil)))))) (pa_cons (pe_tup (pa_cons pe_int (pa_cons pe_int (pa_cons (pe_lst (pa_cons (pv 1) (pa_cons (pv 1) pa_nil))) (pa_cons (pe_mkI (x := .twice) CI G (by decide) trivial (hr.mono (by decide)) (pa_cons (pe_tup (pa_cons pe_int (pa_cons pe_int pa_nil))) pa_nil)) (pa_cons pe_bl pa_nil)))))) pa_nil)))))
      (Evl.pss_cut (ps_set (i := 3) sc__law_judged_right.nd rfl (Or.inl rfl) (pe_op op_cat (pv 3) (pe_lst (pa_cons (pe_tup (pa_cons pe_int (pa_cons pe_int (pa_cons (pe_lst (pa_cons (pv 1) (pa_cons (pe_tup (pa_cons pe_int (pa_cons pe_int (pa_cons pe_bl pa_nil)))) pa_nil))) (pa_cons (pe_mkN (x := .full) CI G (by decide) (by decide)) (pa_cons pe_bl pa_nil)))))) pa_nil))))
      (Evl.pss_cut (ps_set (i := 3) sc__law_judged_right.nd rfl (Or.inl rfl) (pe_op op_cat (pv 3) (pe_lst (pa_cons (pe_tup (pa_cons pe_int (pa_cons pe_int (pa_cons (pe_lst (pa_cons (pv 1) pa_nil)) (pa_cons (pe_mkI (x := .beyond) CI G (by decide) trivial (hr.mono (by decide)) (pa_cons pe_int pa_nil)) (pa_cons pe_bl pa_nil)))))) (pa_cons (pe_tup (pa_cons pe_int (pa_cons pe_int (pa_cons (pe_lst (pa_cons (pv 1) pa_nil)) (pa_cons (pe_mkI (x := .bare) CI G (by decide) trivial (hr.mono (by decide)) (pa_cons (pe_tup (pa_cons pe_int (pa_cons pe_int pa_nil))) pa_nil)) (pa_cons pe_bl pa_nil)))))) pa_nil)))))
      (Evl.pss_cut (ps_set (i := 3) sc__law_judged_right.nd rfl (Or.inl rfl) (pe_op op_cat (pv 3) (pe_lst (pa_cons (pe_tup (pa_cons pe_int (pa_cons pe_int (pa_cons (pe_lst (pa_cons (pv 1) (pa_cons (pe_tup (pa_cons pe_int (pa_cons pe_int (pa_cons pe_bl pa_nil)))) pa_nil))) (pa_cons (pe_mkI (x := .twice) CI G (by decide) trivial (hr.mono (by decide)) (pa_cons (pe_tup (pa_cons pe_int (pa_cons pe_int pa_nil))) pa_nil)) (pa_cons pe_bl pa_nil)))))) pa_nil))))
      (Evl.pss_cut (ps_set (i := 3) sc__law_judged_right.nd rfl (Or.inl rfl) (pe_op op_cat (pv 3) (pe_lst (pa_cons (pe_tup (pa_cons pe_int (pa_cons pe_int (pa_cons (pe_lst (pa_cons (pv 1) (pa_cons (pe_tup (pa_cons pe_int (pa_cons pe_int (pa_cons pe_bl pa_nil)))) pa_nil))) (pa_cons (pe_mkI (x := .bare) CI G (by decide) trivial (hr.mono (by decide)) (pa_cons (pe_tup (pa_cons pe_int (pa_cons pe_int pa_nil))) pa_nil)) (pa_cons pe_bl pa_nil)))))) pa_nil))))
      (pss_cons (ps_if (pt_val (pe_callB (cr_any rfl) (by rfl) B.any (by decide +kernel) (pa_cons (pe_lc (own := [("_law_length", 4), ("_law_width", 5), ("_law_bricks", 6), ("_law_answer", 7), ("_law_due", 8)]) (g := (gTup K 5 (gCons (gName 4) (gCons (gName 5) (gCons (gName 6) (gCons (gName 7) (gCons (gName 8) gNil))))))) (by rfl) sc__law_judged_right.nd (pi_list (pv 3)) (blkOk_by (own := [("_law_length", 4), ("_law_width", 5), ("_law_bricks", 6), ("_law_answer", 7), ("_law_due", 8)]) (N := ["_law_far", "_law_lie", "_law_stand", "_law_cases", "_law_length", "_law_width", "_law_bricks", "_law_answer", "_law_due"]) (sc := defScope s__law_judged_right) (by decide +kernel)) (fun _ _ _ _ _ => (pg_tup (by rfl) (pgs_cons (pg_name (i := 4) sc__law_judged_right.nd rfl (Or.inl rfl)) (pgs_cons (pg_name (i := 5) sc__law_judged_right.nd rfl (Or.inl rfl)) (pgs_cons (pg_name (i := 6) sc__law_judged_right.nd rfl (Or.inl rfl)) (pgs_cons (pg_name (i := 7) sc__law_judged_right.nd rfl (Or.inl rfl)) (pgs_cons (pg_name (i := 8) sc__law_judged_right.nd rfl (Or.inl rfl)) pgs_nil))))))) (fun _ _ _ _ _ => pts_nil) (fun _ _ _ _ _ => (pe_cmpR op_ne (pe_methK K rfl h_shows5 (fun x hx => (G.f x (ok5 hx)).c) (hr.mono (by decide)) pass0 (pv 7) (pa_cons (pv 4) (pa_cons (pv 5) (pa_cons pe_int (pa_cons pe_int (pa_cons (pv 6) pa_nil)))))) (pv 8) (nomark _)))) pa_nil))) (pss_one (ps_ret pe_bl)) pss_nil)
      (pss_cons (ps_if (pt_not (pt_val (pe_callB (r := rIsi K) call_isi (by rfl) B.isinstance (by decide +kernel) (pa_cons (pe_fn h_judged (hr.mono (by decide)) pass0 (pa_cons pe_int (pa_cons pe_int (pa_cons pe_int (pa_cons pe_int (pa_cons (pe_lst (pa_cons (pv 2) pa_nil)) pa_nil)))))) (pa_cons (pe_glob (v := .ref (cl _ .full)) (by rfl) (G.g .full (by decide)) rfl) pa_nil))))) (pss_one (ps_ret pe_bl)) pss_nil)
      (pss_one (ps_ret pe_bl))))))))))))))))))), ?_⟩
    walk_at "rd"
    intro lie h_lie
    generalize hH1 : upd H lie _ = H1
    obtain ⟨sm1, up_lie⟩ : Same H H1 ∧ H1 lie = some (.tup (Brick.vs ⟨0, 0, true⟩)) := newH hH1 h_lie
    clear hH1
    walk_at "rd"
    intro stand h_stand
    generalize hH2 : upd H1 stand _ = H2
    obtain ⟨sm2, up_stand⟩ : Same H1 H2 ∧ H2 stand = some (.tup (Brick.vs ⟨0, 0, false⟩)) := newH hH2 h_stand
    clear hH2
    walk_at "rd"
    intro both h_both
    generalize hH3 : upd H2 both _ = H3
    obtain ⟨sm3, up_both⟩ : Same H2 H3 ∧ H3 both = some (.tup [.ref lie, .ref stand]) := newH hH3 h_both
    clear hH3
    refine ⟨both, _, rfl, sqT up_both, rfl, ?_⟩
    walk_at "rd"
    refine ⟨JcI K far lie stand H 10, ?_, ?_⟩
    · skip
      walk_at "rd"
      intro l1 h_l1
      generalize hH4 : upd H3 l1 _ = H4
      obtain ⟨sm4, up_l1⟩ : Same H3 H4 ∧ H4 l1 = some (.lst [.ref lie]) := newH hH4 h_l1
      clear hH4
      walk_at "rd"
      intro p1 H5 n_p1 sm5 an_p1
      replace an_p1 : AnsAt K H5 p1 (.full) := an_p1
      walk_at "rd"
      intro t1 h_t1
      generalize hH6 : upd H5 t1 _ = H6
      obtain ⟨sm6, up_t1⟩ : Same H5 H6 ∧ H6 t1 = some (.tup [.int 2, .int 1, .ref l1, .ref p1, .bl true]) := newH hH6 h_t1
      clear hH6
      walk_at "rd"
      intro l2 h_l2
      generalize hH7 : upd H6 l2 _ = H7
      obtain ⟨sm7, up_l2⟩ : Same H6 H7 ∧ H7 l2 = some (.lst [.ref stand]) := newH hH7 h_l2
      clear hH7
      walk_at "rd"
      intro p2 H8 n_p2 sm8 an_p2
      replace an_p2 : AnsAt K H8 p2 (.full) := an_p2
      walk_at "rd"
      intro t2 h_t2
      generalize hH9 : upd H8 t2 _ = H9
      obtain ⟨sm9, up_t2⟩ : Same H8 H9 ∧ H9 t2 = some (.tup [.int 1, .int 2, .ref l2, .ref p2, .bl true]) := newH hH9 h_t2
      clear hH9
      walk_at "rd"
      intro m h_m
      generalize hH10 : upd H9 m _ = H10
      obtain ⟨sm10, up_m⟩ : Same H9 H10 ∧ H10 m = some (.lst [.ref t1, .ref t2]) := newH hH10 h_m
      clear hH10
      exact .mk (xs := [V.ref t1, .ref t2]) (sm1.trans (sm2.trans (sm3.trans (sm4.trans (sm5.trans (sm6.trans (sm7.trans (sm8.trans (sm9.trans sm10))))))))) ((sm2.trans (sm3.trans (sm4.trans (sm5.trans (sm6.trans (sm7.trans (sm8.trans (sm9.trans sm10)))))))) _ _ up_lie) ((sm3.trans (sm4.trans (sm5.trans (sm6.trans (sm7.trans (sm8.trans (sm9.trans sm10))))))) _ _ up_stand) up_m (allc ⟨t1, 2, 1, l1, p1, .full, true, [(lie, ⟨0, 0, true⟩)], rfl, ((sm7.trans (sm8.trans (sm9.trans sm10))) _ _ up_t1), ((sm5.trans (sm6.trans (sm7.trans (sm8.trans (sm9.trans sm10))))) _ _ up_l1), (brtc (b := ⟨0, 0, true⟩) ((sm2.trans (sm3.trans (sm4.trans (sm5.trans (sm6.trans (sm7.trans (sm8.trans (sm9.trans sm10)))))))) _ _ up_lie) brt0), Nat.le_of_ble_eq_true rfl, .full (an_p1.mono (sm6.trans (sm7.trans (sm8.trans (sm9.trans sm10))))), ⟨by decide, by decide⟩, ⟨by decide, by decide⟩, (show due5 2 1 2 1 [⟨0, 0, true⟩] .full = true by decide +kernel)⟩ <| allc ⟨t2, 1, 2, l2, p2, .full, true, [(stand, ⟨0, 0, false⟩)], rfl, (sm10 _ _ up_t2), ((sm8.trans (sm9.trans sm10)) _ _ up_l2), (brtc (b := ⟨0, 0, false⟩) ((sm3.trans (sm4.trans (sm5.trans (sm6.trans (sm7.trans (sm8.trans (sm9.trans sm10))))))) _ _ up_stand) brt0), Nat.le_of_ble_eq_true rfl, .full (an_p2.mono (sm9.trans sm10)), ⟨by decide, by decide⟩, ⟨by decide, by decide⟩, (show due5 1 2 2 1 [⟨0, 0, false⟩] .full = true by decide +kernel)⟩ <| alln) (Nat.le_of_ble_eq_true rfl)
    clear up_lie up_stand up_both
    rintro _ H1000 @⟨_, a, xs, s0, up_lie, up_stand, up_a, hc, hl⟩
    refine ⟨JcI K far lie stand H 20, ?_, ?_⟩
    · skip
      walk_at "rd"
      intro l3 h_l3
      generalize hH1001 : upd H1000 l3 _ = H1001
      obtain ⟨sm1001, up_l3⟩ : Same H1000 H1001 ∧ H1001 l3 = some (.lst [.ref stand]) := newH hH1001 h_l3
      clear hH1001
      walk_at "rd"
      intro p3 H1002 n_p3 sm1002 an_p3
      replace an_p3 : AnsAt K H1002 p3 (.beyond (.int 0)) := an_p3
      walk_at "rd"
      intro t3 h_t3
      generalize hH1003 : upd H1002 t3 _ = H1003
      obtain ⟨sm1003, up_t3⟩ : Same H1002 H1003 ∧ H1003 t3 = some (.tup [.int 2, .int 1, .ref l3, .ref p3, .bl true]) := newH hH1003 h_t3
      clear hH1003
      walk_at "rd"
      intro l4 h_l4
      generalize hH1004 : upd H1003 l4 _ = H1004
      obtain ⟨sm1004, up_l4⟩ : Same H1003 H1004 ∧ H1004 l4 = some (.lst [.ref stand]) := newH hH1004 h_l4
      clear hH1004
      walk_at "rd"
      intro p4 H1005 n_p4 sm1005 an_p4
      replace an_p4 : AnsAt K H1005 p4 (.full) := an_p4
      walk_at "rd"
      intro t4 h_t4
      generalize hH1006 : upd H1005 t4 _ = H1006
      obtain ⟨sm1006, up_t4⟩ : Same H1005 H1006 ∧ H1006 t4 = some (.tup [.int 2, .int 1, .ref l4, .ref p4, .bl false]) := newH hH1006 h_t4
      clear hH1006
      walk_at "rd"
      intro m h_m
      generalize hH1007 : upd H1006 m _ = H1007
      obtain ⟨sm1007, up_m⟩ : Same H1006 H1007 ∧ H1007 m = some (.lst [.ref t3, .ref t4]) := newH hH1007 h_m
      clear hH1007
      refine ⟨a, m, _, _, rfl, rfl, ((sm1001.trans (sm1002.trans (sm1003.trans (sm1004.trans (sm1005.trans (sm1006.trans sm1007)))))) _ _ up_a), up_m, (size4 (by simp only [List.length_cons, List.length_nil]; omega)), fun an h_an => ?_⟩
      generalize hH1008 : upd H1007 an _ = H1008
      obtain ⟨sm1008, up_an⟩ : Same H1007 H1008 ∧ H1008 an = some (.lst (xs ++ [V.ref t3, .ref t4])) := newH hH1008 h_an
      clear hH1008
      exact .mk (xs := xs ++ [V.ref t3, .ref t4]) (s0.trans (sm1001.trans (sm1002.trans (sm1003.trans (sm1004.trans (sm1005.trans (sm1006.trans (sm1007.trans sm1008)))))))) ((sm1001.trans (sm1002.trans (sm1003.trans (sm1004.trans (sm1005.trans (sm1006.trans (sm1007.trans sm1008))))))) _ _ up_lie) ((sm1001.trans (sm1002.trans (sm1003.trans (sm1004.trans (sm1005.trans (sm1006.trans (sm1007.trans sm1008))))))) _ _ up_stand) up_an (app_all (fun x hx => (hc x hx).mono (sm1001.trans (sm1002.trans (sm1003.trans (sm1004.trans (sm1005.trans (sm1006.trans (sm1007.trans sm1008)))))))) (allc ⟨t3, 2, 1, l3, p3, (.beyond 0), true, [(stand, ⟨0, 0, false⟩)], rfl, ((sm1004.trans (sm1005.trans (sm1006.trans (sm1007.trans sm1008)))) _ _ up_t3), ((sm1002.trans (sm1003.trans (sm1004.trans (sm1005.trans (sm1006.trans (sm1007.trans sm1008)))))) _ _ up_l3), (brtc (b := ⟨0, 0, false⟩) ((sm1001.trans (sm1002.trans (sm1003.trans (sm1004.trans (sm1005.trans (sm1006.trans (sm1007.trans sm1008))))))) _ _ up_stand) brt0), Nat.le_of_ble_eq_true rfl, .beyond (an_p3.mono (sm1003.trans (sm1004.trans (sm1005.trans (sm1006.trans (sm1007.trans sm1008)))))), ⟨by decide, by decide⟩, ⟨by decide, by decide⟩, (show due5 2 1 2 1 [⟨0, 0, false⟩] (.beyond 0) = true by decide +kernel)⟩ <| allc ⟨t4, 2, 1, l4, p4, .full, false, [(stand, ⟨0, 0, false⟩)], rfl, ((sm1007.trans sm1008) _ _ up_t4), ((sm1005.trans (sm1006.trans (sm1007.trans sm1008))) _ _ up_l4), (brtc (b := ⟨0, 0, false⟩) ((sm1001.trans (sm1002.trans (sm1003.trans (sm1004.trans (sm1005.trans (sm1006.trans (sm1007.trans sm1008))))))) _ _ up_stand) brt0), Nat.le_of_ble_eq_true rfl, .full (an_p4.mono (sm1006.trans (sm1007.trans sm1008))), ⟨by decide, by decide⟩, ⟨by decide, by decide⟩, (show due5 2 1 2 1 [⟨0, 0, false⟩] .full = false by decide +kernel)⟩ <| alln)) (by rw [List.length_append]; simp only [List.length_cons, List.length_nil]; omega)
    rintro _ H2000 @⟨_, a, xs, s0, up_lie, up_stand, up_a, hc, hl⟩
    refine ⟨JcI K far lie stand H 30, ?_, ?_⟩
    · skip
      walk_at "rd"
      intro b5 h_b5
      generalize hH2001 : upd H2000 b5 _ = H2001
      obtain ⟨sm2001, up_b5⟩ : Same H2000 H2001 ∧ H2001 b5 = some (.tup (Brick.vs ⟨-1, 0, true⟩)) := newH hH2001 h_b5
      clear hH2001
      walk_at "rd"
      intro l5 h_l5
      generalize hH2002 : upd H2001 l5 _ = H2002
      obtain ⟨sm2002, up_l5⟩ : Same H2001 H2002 ∧ H2002 l5 = some (.lst [.ref b5]) := newH hH2002 h_l5
      clear hH2002
      walk_at "rd"
      intro p5 H2003 n_p5 sm2003 an_p5
      replace an_p5 : AnsAt K H2003 p5 (.beyond (.int 0)) := an_p5
      walk_at "rd"
      intro t5 h_t5
      generalize hH2004 : upd H2003 t5 _ = H2004
      obtain ⟨sm2004, up_t5⟩ : Same H2003 H2004 ∧ H2004 t5 = some (.tup [.int 2, .int 1, .ref l5, .ref p5, .bl true]) := newH hH2004 h_t5
      clear hH2004
      walk_at "rd"
      intro l6 h_l6
      generalize hH2005 : upd H2004 l6 _ = H2005
      obtain ⟨sm2005, up_l6⟩ : Same H2004 H2005 ∧ H2005 l6 = some (.lst [.ref lie]) := newH hH2005 h_l6
      clear hH2005
      walk_at "rd"
      intro p6 H2006 n_p6 sm2006 an_p6
      replace an_p6 : AnsAt K H2006 p6 (.beyond (.int 0)) := an_p6
      walk_at "rd"
      intro t6 h_t6
      generalize hH2007 : upd H2006 t6 _ = H2007
      obtain ⟨sm2007, up_t6⟩ : Same H2006 H2007 ∧ H2007 t6 = some (.tup [.int 2, .int 1, .ref l6, .ref p6, .bl false]) := newH hH2007 h_t6
      clear hH2007
      walk_at "rd"
      intro m h_m
      generalize hH2008 : upd H2007 m _ = H2008
      obtain ⟨sm2008, up_m⟩ : Same H2007 H2008 ∧ H2008 m = some (.lst [.ref t5, .ref t6]) := newH hH2008 h_m
      clear hH2008
      refine ⟨a, m, _, _, rfl, rfl, ((sm2001.trans (sm2002.trans (sm2003.trans (sm2004.trans (sm2005.trans (sm2006.trans (sm2007.trans sm2008))))))) _ _ up_a), up_m, (size4 (by simp only [List.length_cons, List.length_nil]; omega)), fun an h_an => ?_⟩
      generalize hH2009 : upd H2008 an _ = H2009
      obtain ⟨sm2009, up_an⟩ : Same H2008 H2009 ∧ H2009 an = some (.lst (xs ++ [V.ref t5, .ref t6])) := newH hH2009 h_an
      clear hH2009
      exact .mk (xs := xs ++ [V.ref t5, .ref t6]) (s0.trans (sm2001.trans (sm2002.trans (sm2003.trans (sm2004.trans (sm2005.trans (sm2006.trans (sm2007.trans (sm2008.trans sm2009))))))))) ((sm2001.trans (sm2002.trans (sm2003.trans (sm2004.trans (sm2005.trans (sm2006.trans (sm2007.trans (sm2008.trans sm2009)))))))) _ _ up_lie) ((sm2001.trans (sm2002.trans (sm2003.trans (sm2004.trans (sm2005.trans (sm2006.trans (sm2007.trans (sm2008.trans sm2009)))))))) _ _ up_stand) up_an (app_all (fun x hx => (hc x hx).mono (sm2001.trans (sm2002.trans (sm2003.trans (sm2004.trans (sm2005.trans (sm2006.trans (sm2007.trans (sm2008.trans sm2009))))))))) (allc ⟨t5, 2, 1, l5, p5, (.beyond 0), true, [(b5, ⟨-1, 0, true⟩)], rfl, ((sm2005.trans (sm2006.trans (sm2007.trans (sm2008.trans sm2009)))) _ _ up_t5), ((sm2003.trans (sm2004.trans (sm2005.trans (sm2006.trans (sm2007.trans (sm2008.trans sm2009)))))) _ _ up_l5), (brtc (b := ⟨-1, 0, true⟩) ((sm2002.trans (sm2003.trans (sm2004.trans (sm2005.trans (sm2006.trans (sm2007.trans (sm2008.trans sm2009))))))) _ _ up_b5) brt0), Nat.le_of_ble_eq_true rfl, .beyond (an_p5.mono (sm2004.trans (sm2005.trans (sm2006.trans (sm2007.trans (sm2008.trans sm2009)))))), ⟨by decide, by decide⟩, ⟨by decide, by decide⟩, (show due5 2 1 2 1 [⟨-1, 0, true⟩] (.beyond 0) = true by decide +kernel)⟩ <| allc ⟨t6, 2, 1, l6, p6, (.beyond 0), false, [(lie, ⟨0, 0, true⟩)], rfl, ((sm2008.trans sm2009) _ _ up_t6), ((sm2006.trans (sm2007.trans (sm2008.trans sm2009))) _ _ up_l6), (brtc (b := ⟨0, 0, true⟩) ((sm2001.trans (sm2002.trans (sm2003.trans (sm2004.trans (sm2005.trans (sm2006.trans (sm2007.trans (sm2008.trans sm2009)))))))) _ _ up_lie) brt0), Nat.le_of_ble_eq_true rfl, .beyond (an_p6.mono (sm2007.trans (sm2008.trans sm2009))), ⟨by decide, by decide⟩, ⟨by decide, by decide⟩, (show due5 2 1 2 1 [⟨0, 0, true⟩] (.beyond 0) = false by decide +kernel)⟩ <| alln)) (by rw [List.length_append]; simp only [List.length_cons, List.length_nil]; omega)
    rintro _ H3000 @⟨_, a, xs, s0, up_lie, up_stand, up_a, hc, hl⟩
    refine ⟨JcI K far lie stand H 40, ?_, ?_⟩
    · skip
      walk_at "rd"
      intro b7 h_b7
      generalize hH3001 : upd H3000 b7 _ = H3001
      obtain ⟨sm3001, up_b7⟩ : Same H3000 H3001 ∧ H3001 b7 = some (.tup (Brick.vs ⟨far, 0, true⟩)) := newH hH3001 h_b7
      clear hH3001
      walk_at "rd"
      intro l7 h_l7
      generalize hH3002 : upd H3001 l7 _ = H3002
      obtain ⟨sm3002, up_l7⟩ : Same H3001 H3002 ∧ H3002 l7 = some (.lst [.ref lie, .ref b7]) := newH hH3002 h_l7
      clear hH3002
      walk_at "rd"
      intro p7 H3003 n_p7 sm3003 an_p7
      replace an_p7 : AnsAt K H3003 p7 (.beyond (.int 1)) := an_p7
      walk_at "rd"
      intro t7 h_t7
      generalize hH3004 : upd H3003 t7 _ = H3004
      obtain ⟨sm3004, up_t7⟩ : Same H3003 H3004 ∧ H3004 t7 = some (.tup [.int 2, .int 1, .ref l7, .ref p7, .bl true]) := newH hH3004 h_t7
      clear hH3004
      walk_at "rd"
      intro m h_m
      generalize hH3005 : upd H3004 m _ = H3005
      obtain ⟨sm3005, up_m⟩ : Same H3004 H3005 ∧ H3005 m = some (.lst [.ref t7]) := newH hH3005 h_m
      clear hH3005
      refine ⟨a, m, _, _, rfl, rfl, ((sm3001.trans (sm3002.trans (sm3003.trans (sm3004.trans sm3005)))) _ _ up_a), up_m, (size4 (by simp only [List.length_cons, List.length_nil]; omega)), fun an h_an => ?_⟩
      generalize hH3006 : upd H3005 an _ = H3006
      obtain ⟨sm3006, up_an⟩ : Same H3005 H3006 ∧ H3006 an = some (.lst (xs ++ [V.ref t7])) := newH hH3006 h_an
      clear hH3006
      exact .mk (xs := xs ++ [V.ref t7]) (s0.trans (sm3001.trans (sm3002.trans (sm3003.trans (sm3004.trans (sm3005.trans sm3006)))))) ((sm3001.trans (sm3002.trans (sm3003.trans (sm3004.trans (sm3005.trans sm3006))))) _ _ up_lie) ((sm3001.trans (sm3002.trans (sm3003.trans (sm3004.trans (sm3005.trans sm3006))))) _ _ up_stand) up_an (app_all (fun x hx => (hc x hx).mono (sm3001.trans (sm3002.trans (sm3003.trans (sm3004.trans (sm3005.trans sm3006)))))) (allc ⟨t7, 2, 1, l7, p7, (.beyond 1), true, [(lie, ⟨0, 0, true⟩), (b7, ⟨far, 0, true⟩)], rfl, ((sm3005.trans sm3006) _ _ up_t7), ((sm3003.trans (sm3004.trans (sm3005.trans sm3006))) _ _ up_l7), (brtc (b := ⟨0, 0, true⟩) ((sm3001.trans (sm3002.trans (sm3003.trans (sm3004.trans (sm3005.trans sm3006))))) _ _ up_lie) (brtc (b := ⟨far, 0, true⟩) ((sm3002.trans (sm3003.trans (sm3004.trans (sm3005.trans sm3006)))) _ _ up_b7) brt0)), Nat.le_of_ble_eq_true rfl, .beyond (an_p7.mono (sm3004.trans (sm3005.trans sm3006))), ⟨by decide, by decide⟩, ⟨by decide, by decide⟩, (bey_far flo)⟩ <| alln)) (by rw [List.length_append]; simp only [List.length_cons, List.length_nil]; omega)
    rintro _ H4000 @⟨_, a, xs, s0, up_lie, up_stand, up_a, hc, hl⟩
    refine ⟨JcI K far lie stand H 50, ?_, ?_⟩
    · skip
      walk_at "rd"
      intro b8 h_b8
      generalize hH4001 : upd H4000 b8 _ = H4001
      obtain ⟨sm4001, up_b8⟩ : Same H4000 H4001 ∧ H4001 b8 = some (.tup (Brick.vs ⟨far, 0, true⟩)) := newH hH4001 h_b8
      clear hH4001
      walk_at "rd"
      intro l8 h_l8
      generalize hH4002 : upd H4001 l8 _ = H4002
      obtain ⟨sm4002, up_l8⟩ : Same H4001 H4002 ∧ H4002 l8 = some (.lst [.ref lie, .ref b8]) := newH hH4002 h_l8
      clear hH4002
      walk_at "rd"
      intro p8 H4003 n_p8 sm4003 an_p8
      replace an_p8 : AnsAt K H4003 p8 (.beyond (.int (-1))) := an_p8
      walk_at "rd"
      intro t8 h_t8
      generalize hH4004 : upd H4003 t8 _ = H4004
      obtain ⟨sm4004, up_t8⟩ : Same H4003 H4004 ∧ H4004 t8 = some (.tup [.int 2, .int 1, .ref l8, .ref p8, .bl false]) := newH hH4004 h_t8
      clear hH4004
      walk_at "rd"
      intro m h_m
      generalize hH4005 : upd H4004 m _ = H4005
      obtain ⟨sm4005, up_m⟩ : Same H4004 H4005 ∧ H4005 m = some (.lst [.ref t8]) := newH hH4005 h_m
      clear hH4005
      refine ⟨a, m, _, _, rfl, rfl, ((sm4001.trans (sm4002.trans (sm4003.trans (sm4004.trans sm4005)))) _ _ up_a), up_m, (size4 (by simp only [List.length_cons, List.length_nil]; omega)), fun an h_an => ?_⟩
      generalize hH4006 : upd H4005 an _ = H4006
      obtain ⟨sm4006, up_an⟩ : Same H4005 H4006 ∧ H4006 an = some (.lst (xs ++ [V.ref t8])) := newH hH4006 h_an
      clear hH4006
      exact .mk (xs := xs ++ [V.ref t8]) (s0.trans (sm4001.trans (sm4002.trans (sm4003.trans (sm4004.trans (sm4005.trans sm4006)))))) ((sm4001.trans (sm4002.trans (sm4003.trans (sm4004.trans (sm4005.trans sm4006))))) _ _ up_lie) ((sm4001.trans (sm4002.trans (sm4003.trans (sm4004.trans (sm4005.trans sm4006))))) _ _ up_stand) up_an (app_all (fun x hx => (hc x hx).mono (sm4001.trans (sm4002.trans (sm4003.trans (sm4004.trans (sm4005.trans sm4006)))))) (allc ⟨t8, 2, 1, l8, p8, (.beyond (-1)), false, [(lie, ⟨0, 0, true⟩), (b8, ⟨far, 0, true⟩)], rfl, ((sm4005.trans sm4006) _ _ up_t8), ((sm4003.trans (sm4004.trans (sm4005.trans sm4006))) _ _ up_l8), (brtc (b := ⟨0, 0, true⟩) ((sm4001.trans (sm4002.trans (sm4003.trans (sm4004.trans (sm4005.trans sm4006))))) _ _ up_lie) (brtc (b := ⟨far, 0, true⟩) ((sm4002.trans (sm4003.trans (sm4004.trans (sm4005.trans sm4006)))) _ _ up_b8) brt0)), Nat.le_of_ble_eq_true rfl, .beyond (an_p8.mono (sm4004.trans (sm4005.trans sm4006))), ⟨by decide, by decide⟩, ⟨by decide, by decide⟩, bey_far2⟩ <| alln)) (by rw [List.length_append]; simp only [List.length_cons, List.length_nil]; omega)
    rintro _ H5000 @⟨_, a, xs, s0, up_lie, up_stand, up_a, hc, hl⟩
    refine ⟨JcI K far lie stand H 60, ?_, ?_⟩
    · skip
      walk_at "rd"
      intro l9 h_l9
      generalize hH5001 : upd H5000 l9 _ = H5001
      obtain ⟨sm5001, up_l9⟩ : Same H5000 H5001 ∧ H5001 l9 = some (.lst [.ref lie, .ref lie]) := newH hH5001 h_l9
      clear hH5001
      walk_at "rd"
      intro c9 h_c9
      generalize hH5002 : upd H5001 c9 _ = H5002
      obtain ⟨sm5002, up_c9⟩ : Same H5001 H5002 ∧ H5002 c9 = some (.tup (cellV (0, 0))) := newH hH5002 h_c9
      clear hH5002
      walk_at "rd"
      intro p9 H5003 n_p9 sm5003 an_p9
      replace an_p9 : AnsAt K H5003 p9 (.twice (.ref c9)) := an_p9
      walk_at "rd"
      intro t9 h_t9
      generalize hH5004 : upd H5003 t9 _ = H5004
      obtain ⟨sm5004, up_t9⟩ : Same H5003 H5004 ∧ H5004 t9 = some (.tup [.int 2, .int 1, .ref l9, .ref p9, .bl true]) := newH hH5004 h_t9
      clear hH5004
      walk_at "rd"
      intro l10 h_l10
      generalize hH5005 : upd H5004 l10 _ = H5005
      obtain ⟨sm5005, up_l10⟩ : Same H5004 H5005 ∧ H5005 l10 = some (.lst [.ref lie, .ref lie]) := newH hH5005 h_l10
      clear hH5005
      walk_at "rd"
      intro c10 h_c10
      generalize hH5006 : upd H5005 c10 _ = H5006
      obtain ⟨sm5006, up_c10⟩ : Same H5005 H5006 ∧ H5006 c10 = some (.tup (cellV (1, 0))) := newH hH5006 h_c10
      clear hH5006
      walk_at "rd"
      intro p10 H5007 n_p10 sm5007 an_p10
      replace an_p10 : AnsAt K H5007 p10 (.twice (.ref c10)) := an_p10
      walk_at "rd"
      intro t10 h_t10
      generalize hH5008 : upd H5007 t10 _ = H5008
      obtain ⟨sm5008, up_t10⟩ : Same H5007 H5008 ∧ H5008 t10 = some (.tup [.int 2, .int 1, .ref l10, .ref p10, .bl true]) := newH hH5008 h_t10
      clear hH5008
      walk_at "rd"
      intro m h_m
      generalize hH5009 : upd H5008 m _ = H5009
      obtain ⟨sm5009, up_m⟩ : Same H5008 H5009 ∧ H5009 m = some (.lst [.ref t9, .ref t10]) := newH hH5009 h_m
      clear hH5009
      refine ⟨a, m, _, _, rfl, rfl, ((sm5001.trans (sm5002.trans (sm5003.trans (sm5004.trans (sm5005.trans (sm5006.trans (sm5007.trans (sm5008.trans sm5009)))))))) _ _ up_a), up_m, (size4 (by simp only [List.length_cons, List.length_nil]; omega)), fun an h_an => ?_⟩
      generalize hH5010 : upd H5009 an _ = H5010
      obtain ⟨sm5010, up_an⟩ : Same H5009 H5010 ∧ H5010 an = some (.lst (xs ++ [V.ref t9, .ref t10])) := newH hH5010 h_an
      clear hH5010
      exact .mk (xs := xs ++ [V.ref t9, .ref t10]) (s0.trans (sm5001.trans (sm5002.trans (sm5003.trans (sm5004.trans (sm5005.trans (sm5006.trans (sm5007.trans (sm5008.trans (sm5009.trans sm5010)))))))))) ((sm5001.trans (sm5002.trans (sm5003.trans (sm5004.trans (sm5005.trans (sm5006.trans (sm5007.trans (sm5008.trans (sm5009.trans sm5010))))))))) _ _ up_lie) ((sm5001.trans (sm5002.trans (sm5003.trans (sm5004.trans (sm5005.trans (sm5006.trans (sm5007.trans (sm5008.trans (sm5009.trans sm5010))))))))) _ _ up_stand) up_an (app_all (fun x hx => (hc x hx).mono (sm5001.trans (sm5002.trans (sm5003.trans (sm5004.trans (sm5005.trans (sm5006.trans (sm5007.trans (sm5008.trans (sm5009.trans sm5010)))))))))) (allc ⟨t9, 2, 1, l9, p9, (.twice (0, 0)), true, [(lie, ⟨0, 0, true⟩), (lie, ⟨0, 0, true⟩)], rfl, ((sm5005.trans (sm5006.trans (sm5007.trans (sm5008.trans (sm5009.trans sm5010))))) _ _ up_t9), ((sm5002.trans (sm5003.trans (sm5004.trans (sm5005.trans (sm5006.trans (sm5007.trans (sm5008.trans (sm5009.trans sm5010)))))))) _ _ up_l9), (brtc (b := ⟨0, 0, true⟩) ((sm5001.trans (sm5002.trans (sm5003.trans (sm5004.trans (sm5005.trans (sm5006.trans (sm5007.trans (sm5008.trans (sm5009.trans sm5010))))))))) _ _ up_lie) (brtc (b := ⟨0, 0, true⟩) ((sm5001.trans (sm5002.trans (sm5003.trans (sm5004.trans (sm5005.trans (sm5006.trans (sm5007.trans (sm5008.trans (sm5009.trans sm5010))))))))) _ _ up_lie) brt0)), Nat.le_of_ble_eq_true rfl, .twice (an_p9.mono (sm5004.trans (sm5005.trans (sm5006.trans (sm5007.trans (sm5008.trans (sm5009.trans sm5010))))))) ((sm5003.trans (sm5004.trans (sm5005.trans (sm5006.trans (sm5007.trans (sm5008.trans (sm5009.trans sm5010))))))) _ _ up_c9), ⟨by decide, by decide⟩, ⟨by decide, by decide⟩, (show due5 2 1 2 1 [⟨0, 0, true⟩, ⟨0, 0, true⟩] (.twice (0, 0)) = true by decide +kernel)⟩ <| allc ⟨t10, 2, 1, l10, p10, (.twice (1, 0)), true, [(lie, ⟨0, 0, true⟩), (lie, ⟨0, 0, true⟩)], rfl, ((sm5009.trans sm5010) _ _ up_t10), ((sm5006.trans (sm5007.trans (sm5008.trans (sm5009.trans sm5010)))) _ _ up_l10), (brtc (b := ⟨0, 0, true⟩) ((sm5001.trans (sm5002.trans (sm5003.trans (sm5004.trans (sm5005.trans (sm5006.trans (sm5007.trans (sm5008.trans (sm5009.trans sm5010))))))))) _ _ up_lie) (brtc (b := ⟨0, 0, true⟩) ((sm5001.trans (sm5002.trans (sm5003.trans (sm5004.trans (sm5005.trans (sm5006.trans (sm5007.trans (sm5008.trans (sm5009.trans sm5010))))))))) _ _ up_lie) brt0)), Nat.le_of_ble_eq_true rfl, .twice (an_p10.mono (sm5008.trans (sm5009.trans sm5010))) ((sm5007.trans (sm5008.trans (sm5009.trans sm5010))) _ _ up_c10), ⟨by decide, by decide⟩, ⟨by decide, by decide⟩, (show due5 2 1 2 1 [⟨0, 0, true⟩, ⟨0, 0, true⟩] (.twice (1, 0)) = true by decide +kernel)⟩ <| alln)) (by rw [List.length_append]; simp only [List.length_cons, List.length_nil]; omega)
    rintro _ H6000 @⟨_, a, xs, s0, up_lie, up_stand, up_a, hc, hl⟩
    refine ⟨JcI K far lie stand H 70, ?_, ?_⟩
    · skip
      walk_at "rd"
      intro l11 h_l11
      generalize hH6001 : upd H6000 l11 _ = H6001
      obtain ⟨sm6001, up_l11⟩ : Same H6000 H6001 ∧ H6001 l11 = some (.lst [.ref lie]) := newH hH6001 h_l11
      clear hH6001
      walk_at "rd"
      intro c11 h_c11
      generalize hH6002 : upd H6001 c11 _ = H6002
      obtain ⟨sm6002, up_c11⟩ : Same H6001 H6002 ∧ H6002 c11 = some (.tup (cellV (0, 0))) := newH hH6002 h_c11
      clear hH6002
      walk_at "rd"
      intro p11 H6003 n_p11 sm6003 an_p11
      replace an_p11 : AnsAt K H6003 p11 (.twice (.ref c11)) := an_p11
      walk_at "rd"
      intro t11 h_t11
      generalize hH6004 : upd H6003 t11 _ = H6004
      obtain ⟨sm6004, up_t11⟩ : Same H6003 H6004 ∧ H6004 t11 = some (.tup [.int 2, .int 1, .ref l11, .ref p11, .bl false]) := newH hH6004 h_t11
      clear hH6004
      walk_at "rd"
      intro m h_m
      generalize hH6005 : upd H6004 m _ = H6005
      obtain ⟨sm6005, up_m⟩ : Same H6004 H6005 ∧ H6005 m = some (.lst [.ref t11]) := newH hH6005 h_m
      clear hH6005
      refine ⟨a, m, _, _, rfl, rfl, ((sm6001.trans (sm6002.trans (sm6003.trans (sm6004.trans sm6005)))) _ _ up_a), up_m, (size4 (by simp only [List.length_cons, List.length_nil]; omega)), fun an h_an => ?_⟩
      generalize hH6006 : upd H6005 an _ = H6006
      obtain ⟨sm6006, up_an⟩ : Same H6005 H6006 ∧ H6006 an = some (.lst (xs ++ [V.ref t11])) := newH hH6006 h_an
      clear hH6006
      exact .mk (xs := xs ++ [V.ref t11]) (s0.trans (sm6001.trans (sm6002.trans (sm6003.trans (sm6004.trans (sm6005.trans sm6006)))))) ((sm6001.trans (sm6002.trans (sm6003.trans (sm6004.trans (sm6005.trans sm6006))))) _ _ up_lie) ((sm6001.trans (sm6002.trans (sm6003.trans (sm6004.trans (sm6005.trans sm6006))))) _ _ up_stand) up_an (app_all (fun x hx => (hc x hx).mono (sm6001.trans (sm6002.trans (sm6003.trans (sm6004.trans (sm6005.trans sm6006)))))) (allc ⟨t11, 2, 1, l11, p11, (.twice (0, 0)), false, [(lie, ⟨0, 0, true⟩)], rfl, ((sm6005.trans sm6006) _ _ up_t11), ((sm6002.trans (sm6003.trans (sm6004.trans (sm6005.trans sm6006)))) _ _ up_l11), (brtc (b := ⟨0, 0, true⟩) ((sm6001.trans (sm6002.trans (sm6003.trans (sm6004.trans (sm6005.trans sm6006))))) _ _ up_lie) brt0), Nat.le_of_ble_eq_true rfl, .twice (an_p11.mono (sm6004.trans (sm6005.trans sm6006))) ((sm6003.trans (sm6004.trans (sm6005.trans sm6006))) _ _ up_c11), ⟨by decide, by decide⟩, ⟨by decide, by decide⟩, (show due5 2 1 2 1 [⟨0, 0, true⟩] (.twice (0, 0)) = false by decide +kernel)⟩ <| alln)) (by rw [List.length_append]; simp only [List.length_cons, List.length_nil]; omega)
    rintro _ H7000 @⟨_, a, xs, s0, up_lie, up_stand, up_a, hc, hl⟩
    refine ⟨JcI K far lie stand H 80, ?_, ?_⟩
    · skip
      walk_at "rd"
      intro l12 h_l12
      generalize hH7001 : upd H7000 l12 _ = H7001
      obtain ⟨sm7001, up_l12⟩ : Same H7000 H7001 ∧ H7001 l12 = some (.lst []) := newH hH7001 h_l12
      clear hH7001
      walk_at "rd"
      intro c12 h_c12
      generalize hH7002 : upd H7001 c12 _ = H7002
      obtain ⟨sm7002, up_c12⟩ : Same H7001 H7002 ∧ H7002 c12 = some (.tup (cellV (0, 0))) := newH hH7002 h_c12
      clear hH7002
      walk_at "rd"
      intro p12 H7003 n_p12 sm7003 an_p12
      replace an_p12 : AnsAt K H7003 p12 (.bare (.ref c12)) := an_p12
      walk_at "rd"
      intro t12 h_t12
      generalize hH7004 : upd H7003 t12 _ = H7004
      obtain ⟨sm7004, up_t12⟩ : Same H7003 H7004 ∧ H7004 t12 = some (.tup [.int 2, .int 1, .ref l12, .ref p12, .bl true]) := newH hH7004 h_t12
      clear hH7004
      walk_at "rd"
      intro l13 h_l13
      generalize hH7005 : upd H7004 l13 _ = H7005
      obtain ⟨sm7005, up_l13⟩ : Same H7004 H7005 ∧ H7005 l13 = some (.lst [.ref lie]) := newH hH7005 h_l13
      clear hH7005
      walk_at "rd"
      intro c13 h_c13
      generalize hH7006 : upd H7005 c13 _ = H7006
      obtain ⟨sm7006, up_c13⟩ : Same H7005 H7006 ∧ H7006 c13 = some (.tup (cellV (0, 0))) := newH hH7006 h_c13
      clear hH7006
      walk_at "rd"
      intro p13 H7007 n_p13 sm7007 an_p13
      replace an_p13 : AnsAt K H7007 p13 (.bare (.ref c13)) := an_p13
      walk_at "rd"
      intro t13 h_t13
      generalize hH7008 : upd H7007 t13 _ = H7008
      obtain ⟨sm7008, up_t13⟩ : Same H7007 H7008 ∧ H7008 t13 = some (.tup [.int 2, .int 1, .ref l13, .ref p13, .bl false]) := newH hH7008 h_t13
      clear hH7008
      walk_at "rd"
      intro m h_m
      generalize hH7009 : upd H7008 m _ = H7009
      obtain ⟨sm7009, up_m⟩ : Same H7008 H7009 ∧ H7009 m = some (.lst [.ref t12, .ref t13]) := newH hH7009 h_m
      clear hH7009
      refine ⟨a, m, _, _, rfl, rfl, ((sm7001.trans (sm7002.trans (sm7003.trans (sm7004.trans (sm7005.trans (sm7006.trans (sm7007.trans (sm7008.trans sm7009)))))))) _ _ up_a), up_m, (size4 (by simp only [List.length_cons, List.length_nil]; omega)), fun an h_an => ?_⟩
      generalize hH7010 : upd H7009 an _ = H7010
      obtain ⟨sm7010, up_an⟩ : Same H7009 H7010 ∧ H7010 an = some (.lst (xs ++ [V.ref t12, .ref t13])) := newH hH7010 h_an
      clear hH7010
      exact .mk (xs := xs ++ [V.ref t12, .ref t13]) (s0.trans (sm7001.trans (sm7002.trans (sm7003.trans (sm7004.trans (sm7005.trans (sm7006.trans (sm7007.trans (sm7008.trans (sm7009.trans sm7010)))))))))) ((sm7001.trans (sm7002.trans (sm7003.trans (sm7004.trans (sm7005.trans (sm7006.trans (sm7007.trans (sm7008.trans (sm7009.trans sm7010))))))))) _ _ up_lie) ((sm7001.trans (sm7002.trans (sm7003.trans (sm7004.trans (sm7005.trans (sm7006.trans (sm7007.trans (sm7008.trans (sm7009.trans sm7010))))))))) _ _ up_stand) up_an (app_all (fun x hx => (hc x hx).mono (sm7001.trans (sm7002.trans (sm7003.trans (sm7004.trans (sm7005.trans (sm7006.trans (sm7007.trans (sm7008.trans (sm7009.trans sm7010)))))))))) (allc ⟨t12, 2, 1, l12, p12, (.bare (0, 0)), true, [], rfl, ((sm7005.trans (sm7006.trans (sm7007.trans (sm7008.trans (sm7009.trans sm7010))))) _ _ up_t12), ((sm7002.trans (sm7003.trans (sm7004.trans (sm7005.trans (sm7006.trans (sm7007.trans (sm7008.trans (sm7009.trans sm7010)))))))) _ _ up_l12), brt0, Nat.le_of_ble_eq_true rfl, .bare (an_p12.mono (sm7004.trans (sm7005.trans (sm7006.trans (sm7007.trans (sm7008.trans (sm7009.trans sm7010))))))) ((sm7003.trans (sm7004.trans (sm7005.trans (sm7006.trans (sm7007.trans (sm7008.trans (sm7009.trans sm7010))))))) _ _ up_c12), ⟨by decide, by decide⟩, ⟨by decide, by decide⟩, (show due5 2 1 2 1 [] (.bare (0, 0)) = true by decide +kernel)⟩ <| allc ⟨t13, 2, 1, l13, p13, (.bare (0, 0)), false, [(lie, ⟨0, 0, true⟩)], rfl, ((sm7009.trans sm7010) _ _ up_t13), ((sm7006.trans (sm7007.trans (sm7008.trans (sm7009.trans sm7010)))) _ _ up_l13), (brtc (b := ⟨0, 0, true⟩) ((sm7001.trans (sm7002.trans (sm7003.trans (sm7004.trans (sm7005.trans (sm7006.trans (sm7007.trans (sm7008.trans (sm7009.trans sm7010))))))))) _ _ up_lie) brt0), Nat.le_of_ble_eq_true rfl, .bare (an_p13.mono (sm7008.trans (sm7009.trans sm7010))) ((sm7007.trans (sm7008.trans (sm7009.trans sm7010))) _ _ up_c13), ⟨by decide, by decide⟩, ⟨by decide, by decide⟩, (show due5 2 1 2 1 [⟨0, 0, true⟩] (.bare (0, 0)) = false by decide +kernel)⟩ <| alln)) (by rw [List.length_append]; simp only [List.length_cons, List.length_nil]; omega)
    rintro _ H8000 @⟨_, a, xs, s0, up_lie, up_stand, up_a, hc, hl⟩
    refine ⟨JcI K far lie stand H 90, ?_, ?_⟩
    · skip
      walk_at "rd"
      intro l14 h_l14
      generalize hH8001 : upd H8000 l14 _ = H8001
      obtain ⟨sm8001, up_l14⟩ : Same H8000 H8001 ∧ H8001 l14 = some (.lst []) := newH hH8001 h_l14
      clear hH8001
      walk_at "rd"
      intro c14 h_c14
      generalize hH8002 : upd H8001 c14 _ = H8002
      obtain ⟨sm8002, up_c14⟩ : Same H8001 H8002 ∧ H8002 c14 = some (.tup (cellV (2, 0))) := newH hH8002 h_c14
      clear hH8002
      walk_at "rd"
      intro p14 H8003 n_p14 sm8003 an_p14
      replace an_p14 : AnsAt K H8003 p14 (.bare (.ref c14)) := an_p14
      walk_at "rd"
      intro t14 h_t14
      generalize hH8004 : upd H8003 t14 _ = H8004
      obtain ⟨sm8004, up_t14⟩ : Same H8003 H8004 ∧ H8004 t14 = some (.tup [.int 2, .int 1, .ref l14, .ref p14, .bl false]) := newH hH8004 h_t14
      clear hH8004
      walk_at "rd"
      intro l15 h_l15
      generalize hH8005 : upd H8004 l15 _ = H8005
      obtain ⟨sm8005, up_l15⟩ : Same H8004 H8005 ∧ H8005 l15 = some (.lst []) := newH hH8005 h_l15
      clear hH8005
      walk_at "rd"
      intro c15 h_c15
      generalize hH8006 : upd H8005 c15 _ = H8006
      obtain ⟨sm8006, up_c15⟩ : Same H8005 H8006 ∧ H8006 c15 = some (.tup (cellV (0, -1))) := newH hH8006 h_c15
      clear hH8006
      walk_at "rd"
      intro p15 H8007 n_p15 sm8007 an_p15
      replace an_p15 : AnsAt K H8007 p15 (.bare (.ref c15)) := an_p15
      walk_at "rd"
      intro t15 h_t15
      generalize hH8008 : upd H8007 t15 _ = H8008
      obtain ⟨sm8008, up_t15⟩ : Same H8007 H8008 ∧ H8008 t15 = some (.tup [.int 2, .int 1, .ref l15, .ref p15, .bl false]) := newH hH8008 h_t15
      clear hH8008
      walk_at "rd"
      intro m h_m
      generalize hH8009 : upd H8008 m _ = H8009
      obtain ⟨sm8009, up_m⟩ : Same H8008 H8009 ∧ H8009 m = some (.lst [.ref t14, .ref t15]) := newH hH8009 h_m
      clear hH8009
      refine ⟨a, m, _, _, rfl, rfl, ((sm8001.trans (sm8002.trans (sm8003.trans (sm8004.trans (sm8005.trans (sm8006.trans (sm8007.trans (sm8008.trans sm8009)))))))) _ _ up_a), up_m, (size4 (by simp only [List.length_cons, List.length_nil]; omega)), fun an h_an => ?_⟩
      generalize hH8010 : upd H8009 an _ = H8010
      obtain ⟨sm8010, up_an⟩ : Same H8009 H8010 ∧ H8010 an = some (.lst (xs ++ [V.ref t14, .ref t15])) := newH hH8010 h_an
      clear hH8010
      exact .mk (xs := xs ++ [V.ref t14, .ref t15]) (s0.trans (sm8001.trans (sm8002.trans (sm8003.trans (sm8004.trans (sm8005.trans (sm8006.trans (sm8007.trans (sm8008.trans (sm8009.trans sm8010)))))))))) ((sm8001.trans (sm8002.trans (sm8003.trans (sm8004.trans (sm8005.trans (sm8006.trans (sm8007.trans (sm8008.trans (sm8009.trans sm8010))))))))) _ _ up_lie) ((sm8001.trans (sm8002.trans (sm8003.trans (sm8004.trans (sm8005.trans (sm8006.trans (sm8007.trans (sm8008.trans (sm8009.trans sm8010))))))))) _ _ up_stand) up_an (app_all (fun x hx => (hc x hx).mono (sm8001.trans (sm8002.trans (sm8003.trans (sm8004.trans (sm8005.trans (sm8006.trans (sm8007.trans (sm8008.trans (sm8009.trans sm8010)))))))))) (allc ⟨t14, 2, 1, l14, p14, (.bare (2, 0)), false, [], rfl, ((sm8005.trans (sm8006.trans (sm8007.trans (sm8008.trans (sm8009.trans sm8010))))) _ _ up_t14), ((sm8002.trans (sm8003.trans (sm8004.trans (sm8005.trans (sm8006.trans (sm8007.trans (sm8008.trans (sm8009.trans sm8010)))))))) _ _ up_l14), brt0, Nat.le_of_ble_eq_true rfl, .bare (an_p14.mono (sm8004.trans (sm8005.trans (sm8006.trans (sm8007.trans (sm8008.trans (sm8009.trans sm8010))))))) ((sm8003.trans (sm8004.trans (sm8005.trans (sm8006.trans (sm8007.trans (sm8008.trans (sm8009.trans sm8010))))))) _ _ up_c14), ⟨by decide, by decide⟩, ⟨by decide, by decide⟩, (show due5 2 1 2 1 [] (.bare (2, 0)) = false by decide +kernel)⟩ <| allc ⟨t15, 2, 1, l15, p15, (.bare (0, -1)), false, [], rfl, ((sm8009.trans sm8010) _ _ up_t15), ((sm8006.trans (sm8007.trans (sm8008.trans (sm8009.trans sm8010)))) _ _ up_l15), brt0, Nat.le_of_ble_eq_true rfl, .bare (an_p15.mono (sm8008.trans (sm8009.trans sm8010))) ((sm8007.trans (sm8008.trans (sm8009.trans sm8010))) _ _ up_c15), ⟨by decide, by decide⟩, ⟨by decide, by decide⟩, (show due5 2 1 2 1 [] (.bare (0, -1)) = false by decide +kernel)⟩ <| alln)) (by rw [List.length_append]; simp only [List.length_cons, List.length_nil]; omega)
    rintro _ H9000 @⟨_, a, xs, s0, up_lie, up_stand, up_a, hc, hl⟩
    refine ⟨JcI K far lie stand H 100, ?_, ?_⟩
    · skip
      walk_at "rd"
      intro l16 h_l16
      generalize hH9001 : upd H9000 l16 _ = H9001
      obtain ⟨sm9001, up_l16⟩ : Same H9000 H9001 ∧ H9001 l16 = some (.lst [.ref lie, .ref lie]) := newH hH9001 h_l16
      clear hH9001
      walk_at "rd"
      intro p16 H9002 n_p16 sm9002 an_p16
      replace an_p16 : AnsAt K H9002 p16 (.full) := an_p16
      walk_at "rd"
      intro t16 h_t16
      generalize hH9003 : upd H9002 t16 _ = H9003
      obtain ⟨sm9003, up_t16⟩ : Same H9002 H9003 ∧ H9003 t16 = some (.tup [.int 2, .int 1, .ref l16, .ref p16, .bl false]) := newH hH9003 h_t16
      clear hH9003
      walk_at "rd"
      intro l17 h_l17
      generalize hH9004 : upd H9003 l17 _ = H9004
      obtain ⟨sm9004, up_l17⟩ : Same H9003 H9004 ∧ H9004 l17 = some (.lst [.ref lie, .ref lie]) := newH hH9004 h_l17
      clear hH9004
      walk_at "rd"
      intro c17 h_c17
      generalize hH9005 : upd H9004 c17 _ = H9005
      obtain ⟨sm9005, up_c17⟩ : Same H9004 H9005 ∧ H9005 c17 = some (.tup (cellV (0, 1))) := newH hH9005 h_c17
      clear hH9005
      walk_at "rd"
      intro p17 H9006 n_p17 sm9006 an_p17
      replace an_p17 : AnsAt K H9006 p17 (.twice (.ref c17)) := an_p17
      walk_at "rd"
      intro t17 h_t17
      generalize hH9007 : upd H9006 t17 _ = H9007
      obtain ⟨sm9007, up_t17⟩ : Same H9006 H9007 ∧ H9007 t17 = some (.tup [.int 2, .int 1, .ref l17, .ref p17, .bl false]) := newH hH9007 h_t17
      clear hH9007
      walk_at "rd"
      intro m h_m
      generalize hH9008 : upd H9007 m _ = H9008
      obtain ⟨sm9008, up_m⟩ : Same H9007 H9008 ∧ H9008 m = some (.lst [.ref t16, .ref t17]) := newH hH9008 h_m
      clear hH9008
      refine ⟨a, m, _, _, rfl, rfl, ((sm9001.trans (sm9002.trans (sm9003.trans (sm9004.trans (sm9005.trans (sm9006.trans (sm9007.trans sm9008))))))) _ _ up_a), up_m, (size4 (by simp only [List.length_cons, List.length_nil]; omega)), fun an h_an => ?_⟩
      generalize hH9009 : upd H9008 an _ = H9009
      obtain ⟨sm9009, up_an⟩ : Same H9008 H9009 ∧ H9009 an = some (.lst (xs ++ [V.ref t16, .ref t17])) := newH hH9009 h_an
      clear hH9009
      exact .mk (xs := xs ++ [V.ref t16, .ref t17]) (s0.trans (sm9001.trans (sm9002.trans (sm9003.trans (sm9004.trans (sm9005.trans (sm9006.trans (sm9007.trans (sm9008.trans sm9009))))))))) ((sm9001.trans (sm9002.trans (sm9003.trans (sm9004.trans (sm9005.trans (sm9006.trans (sm9007.trans (sm9008.trans sm9009)))))))) _ _ up_lie) ((sm9001.trans (sm9002.trans (sm9003.trans (sm9004.trans (sm9005.trans (sm9006.trans (sm9007.trans (sm9008.trans sm9009)))))))) _ _ up_stand) up_an (app_all (fun x hx => (hc x hx).mono (sm9001.trans (sm9002.trans (sm9003.trans (sm9004.trans (sm9005.trans (sm9006.trans (sm9007.trans (sm9008.trans sm9009))))))))) (allc ⟨t16, 2, 1, l16, p16, .full, false, [(lie, ⟨0, 0, true⟩), (lie, ⟨0, 0, true⟩)], rfl, ((sm9004.trans (sm9005.trans (sm9006.trans (sm9007.trans (sm9008.trans sm9009))))) _ _ up_t16), ((sm9002.trans (sm9003.trans (sm9004.trans (sm9005.trans (sm9006.trans (sm9007.trans (sm9008.trans sm9009))))))) _ _ up_l16), (brtc (b := ⟨0, 0, true⟩) ((sm9001.trans (sm9002.trans (sm9003.trans (sm9004.trans (sm9005.trans (sm9006.trans (sm9007.trans (sm9008.trans sm9009)))))))) _ _ up_lie) (brtc (b := ⟨0, 0, true⟩) ((sm9001.trans (sm9002.trans (sm9003.trans (sm9004.trans (sm9005.trans (sm9006.trans (sm9007.trans (sm9008.trans sm9009)))))))) _ _ up_lie) brt0)), Nat.le_of_ble_eq_true rfl, .full (an_p16.mono (sm9003.trans (sm9004.trans (sm9005.trans (sm9006.trans (sm9007.trans (sm9008.trans sm9009))))))), ⟨by decide, by decide⟩, ⟨by decide, by decide⟩, (show due5 2 1 2 1 [⟨0, 0, true⟩, ⟨0, 0, true⟩] .full = false by decide +kernel)⟩ <| allc ⟨t17, 2, 1, l17, p17, (.twice (0, 1)), false, [(lie, ⟨0, 0, true⟩), (lie, ⟨0, 0, true⟩)], rfl, ((sm9008.trans sm9009) _ _ up_t17), ((sm9005.trans (sm9006.trans (sm9007.trans (sm9008.trans sm9009)))) _ _ up_l17), (brtc (b := ⟨0, 0, true⟩) ((sm9001.trans (sm9002.trans (sm9003.trans (sm9004.trans (sm9005.trans (sm9006.trans (sm9007.trans (sm9008.trans sm9009)))))))) _ _ up_lie) (brtc (b := ⟨0, 0, true⟩) ((sm9001.trans (sm9002.trans (sm9003.trans (sm9004.trans (sm9005.trans (sm9006.trans (sm9007.trans (sm9008.trans sm9009)))))))) _ _ up_lie) brt0)), Nat.le_of_ble_eq_true rfl, .twice (an_p17.mono (sm9007.trans (sm9008.trans sm9009))) ((sm9006.trans (sm9007.trans (sm9008.trans sm9009))) _ _ up_c17), ⟨by decide, by decide⟩, ⟨by decide, by decide⟩, (show due5 2 1 2 1 [⟨0, 0, true⟩, ⟨0, 0, true⟩] (.twice (0, 1)) = false by decide +kernel)⟩ <| alln)) (by rw [List.length_append]; simp only [List.length_cons, List.length_nil]; omega)
    rintro _ H10000 @⟨_, a, xs, s0, up_lie, up_stand, up_a, hc, hl⟩
    refine ⟨JcI K far lie stand H 110, ?_, ?_⟩
    · skip
      walk_at "rd"
      intro b18 h_b18
      generalize hH10001 : upd H10000 b18 _ = H10001
      obtain ⟨sm10001, up_b18⟩ : Same H10000 H10001 ∧ H10001 b18 = some (.tup (Brick.vs ⟨0, 1, true⟩)) := newH hH10001 h_b18
      clear hH10001
      walk_at "rd"
      intro l18 h_l18
      generalize hH10002 : upd H10001 l18 _ = H10002
      obtain ⟨sm10002, up_l18⟩ : Same H10001 H10002 ∧ H10002 l18 = some (.lst [.ref lie, .ref b18]) := newH hH10002 h_l18
      clear hH10002
      walk_at "rd"
      intro p18 H10003 n_p18 sm10003 an_p18
      replace an_p18 : AnsAt K H10003 p18 (.full) := an_p18
      walk_at "rd"
      intro t18 h_t18
      generalize hH10004 : upd H10003 t18 _ = H10004
      obtain ⟨sm10004, up_t18⟩ : Same H10003 H10004 ∧ H10004 t18 = some (.tup [.int 2, .int 2, .ref l18, .ref p18, .bl true]) := newH hH10004 h_t18
      clear hH10004
      walk_at "rd"
      intro m h_m
      generalize hH10005 : upd H10004 m _ = H10005
      obtain ⟨sm10005, up_m⟩ : Same H10004 H10005 ∧ H10005 m = some (.lst [.ref t18]) := newH hH10005 h_m
      clear hH10005
      refine ⟨a, m, _, _, rfl, rfl, ((sm10001.trans (sm10002.trans (sm10003.trans (sm10004.trans sm10005)))) _ _ up_a), up_m, (size4 (by simp only [List.length_cons, List.length_nil]; omega)), fun an h_an => ?_⟩
      generalize hH10006 : upd H10005 an _ = H10006
      obtain ⟨sm10006, up_an⟩ : Same H10005 H10006 ∧ H10006 an = some (.lst (xs ++ [V.ref t18])) := newH hH10006 h_an
      clear hH10006
      exact .mk (xs := xs ++ [V.ref t18]) (s0.trans (sm10001.trans (sm10002.trans (sm10003.trans (sm10004.trans (sm10005.trans sm10006)))))) ((sm10001.trans (sm10002.trans (sm10003.trans (sm10004.trans (sm10005.trans sm10006))))) _ _ up_lie) ((sm10001.trans (sm10002.trans (sm10003.trans (sm10004.trans (sm10005.trans sm10006))))) _ _ up_stand) up_an (app_all (fun x hx => (hc x hx).mono (sm10001.trans (sm10002.trans (sm10003.trans (sm10004.trans (sm10005.trans sm10006)))))) (allc ⟨t18, 2, 2, l18, p18, .full, true, [(lie, ⟨0, 0, true⟩), (b18, ⟨0, 1, true⟩)], rfl, ((sm10005.trans sm10006) _ _ up_t18), ((sm10003.trans (sm10004.trans (sm10005.trans sm10006))) _ _ up_l18), (brtc (b := ⟨0, 0, true⟩) ((sm10001.trans (sm10002.trans (sm10003.trans (sm10004.trans (sm10005.trans sm10006))))) _ _ up_lie) (brtc (b := ⟨0, 1, true⟩) ((sm10002.trans (sm10003.trans (sm10004.trans (sm10005.trans sm10006)))) _ _ up_b18) brt0)), Nat.le_of_ble_eq_true rfl, .full (an_p18.mono (sm10004.trans (sm10005.trans sm10006))), ⟨by decide, by decide⟩, ⟨by decide, by decide⟩, (show due5 2 2 2 1 [⟨0, 0, true⟩, ⟨0, 1, true⟩] .full = true by decide +kernel)⟩ <| alln)) (by rw [List.length_append]; simp only [List.length_cons, List.length_nil]; omega)
    rintro _ H11000 @⟨_, a, xs, s0, up_lie, up_stand, up_a, hc, hl⟩
    refine ⟨JcI K far lie stand H 120, ?_, ?_⟩
    · skip
      walk_at "rd"
      intro l19 h_l19
      generalize hH11001 : upd H11000 l19 _ = H11001
      obtain ⟨sm11001, up_l19⟩ : Same H11000 H11001 ∧ H11001 l19 = some (.lst [.ref lie]) := newH hH11001 h_l19
      clear hH11001
      walk_at "rd"
      intro p19 H11002 n_p19 sm11002 an_p19
      replace an_p19 : AnsAt K H11002 p19 (.beyond (.int 1)) := an_p19
      walk_at "rd"
      intro t19 h_t19
      generalize hH11003 : upd H11002 t19 _ = H11003
      obtain ⟨sm11003, up_t19⟩ : Same H11002 H11003 ∧ H11003 t19 = some (.tup [.int 2, .int 1, .ref l19, .ref p19, .bl false]) := newH hH11003 h_t19
      clear hH11003
      walk_at "rd"
      intro l20 h_l20
      generalize hH11004 : upd H11003 l20 _ = H11004
      obtain ⟨sm11004, up_l20⟩ : Same H11003 H11004 ∧ H11004 l20 = some (.lst [.ref lie]) := newH hH11004 h_l20
      clear hH11004
      walk_at "rd"
      intro c20 h_c20
      generalize hH11005 : upd H11004 c20 _ = H11005
      obtain ⟨sm11005, up_c20⟩ : Same H11004 H11005 ∧ H11005 c20 = some (.tup (cellV (1, 1))) := newH hH11005 h_c20
      clear hH11005
      walk_at "rd"
      intro p20 H11006 n_p20 sm11006 an_p20
      replace an_p20 : AnsAt K H11006 p20 (.bare (.ref c20)) := an_p20
      walk_at "rd"
      intro t20 h_t20
      generalize hH11007 : upd H11006 t20 _ = H11007
      obtain ⟨sm11007, up_t20⟩ : Same H11006 H11007 ∧ H11007 t20 = some (.tup [.int 2, .int 2, .ref l20, .ref p20, .bl true]) := newH hH11007 h_t20
      clear hH11007
      walk_at "rd"
      intro m h_m
      generalize hH11008 : upd H11007 m _ = H11008
      obtain ⟨sm11008, up_m⟩ : Same H11007 H11008 ∧ H11008 m = some (.lst [.ref t19, .ref t20]) := newH hH11008 h_m
      clear hH11008
      refine ⟨a, m, _, _, rfl, rfl, ((sm11001.trans (sm11002.trans (sm11003.trans (sm11004.trans (sm11005.trans (sm11006.trans (sm11007.trans sm11008))))))) _ _ up_a), up_m, (size4 (by simp only [List.length_cons, List.length_nil]; omega)), fun an h_an => ?_⟩
      generalize hH11009 : upd H11008 an _ = H11009
      obtain ⟨sm11009, up_an⟩ : Same H11008 H11009 ∧ H11009 an = some (.lst (xs ++ [V.ref t19, .ref t20])) := newH hH11009 h_an
      clear hH11009
      exact .mk (xs := xs ++ [V.ref t19, .ref t20]) (s0.trans (sm11001.trans (sm11002.trans (sm11003.trans (sm11004.trans (sm11005.trans (sm11006.trans (sm11007.trans (sm11008.trans sm11009))))))))) ((sm11001.trans (sm11002.trans (sm11003.trans (sm11004.trans (sm11005.trans (sm11006.trans (sm11007.trans (sm11008.trans sm11009)))))))) _ _ up_lie) ((sm11001.trans (sm11002.trans (sm11003.trans (sm11004.trans (sm11005.trans (sm11006.trans (sm11007.trans (sm11008.trans sm11009)))))))) _ _ up_stand) up_an (app_all (fun x hx => (hc x hx).mono (sm11001.trans (sm11002.trans (sm11003.trans (sm11004.trans (sm11005.trans (sm11006.trans (sm11007.trans (sm11008.trans sm11009))))))))) (allc ⟨t19, 2, 1, l19, p19, (.beyond 1), false, [(lie, ⟨0, 0, true⟩)], rfl, ((sm11004.trans (sm11005.trans (sm11006.trans (sm11007.trans (sm11008.trans sm11009))))) _ _ up_t19), ((sm11002.trans (sm11003.trans (sm11004.trans (sm11005.trans (sm11006.trans (sm11007.trans (sm11008.trans sm11009))))))) _ _ up_l19), (brtc (b := ⟨0, 0, true⟩) ((sm11001.trans (sm11002.trans (sm11003.trans (sm11004.trans (sm11005.trans (sm11006.trans (sm11007.trans (sm11008.trans sm11009)))))))) _ _ up_lie) brt0), Nat.le_of_ble_eq_true rfl, .beyond (an_p19.mono (sm11003.trans (sm11004.trans (sm11005.trans (sm11006.trans (sm11007.trans (sm11008.trans sm11009))))))), ⟨by decide, by decide⟩, ⟨by decide, by decide⟩, (show due5 2 1 2 1 [⟨0, 0, true⟩] (.beyond 1) = false by decide +kernel)⟩ <| allc ⟨t20, 2, 2, l20, p20, (.bare (1, 1)), true, [(lie, ⟨0, 0, true⟩)], rfl, ((sm11008.trans sm11009) _ _ up_t20), ((sm11005.trans (sm11006.trans (sm11007.trans (sm11008.trans sm11009)))) _ _ up_l20), (brtc (b := ⟨0, 0, true⟩) ((sm11001.trans (sm11002.trans (sm11003.trans (sm11004.trans (sm11005.trans (sm11006.trans (sm11007.trans (sm11008.trans sm11009)))))))) _ _ up_lie) brt0), Nat.le_of_ble_eq_true rfl, .bare (an_p20.mono (sm11007.trans (sm11008.trans sm11009))) ((sm11006.trans (sm11007.trans (sm11008.trans sm11009))) _ _ up_c20), ⟨by decide, by decide⟩, ⟨by decide, by decide⟩, (show due5 2 2 2 1 [⟨0, 0, true⟩] (.bare (1, 1)) = true by decide +kernel)⟩ <| alln)) (by rw [List.length_append]; simp only [List.length_cons, List.length_nil]; omega)
    rintro _ H12000 @⟨_, a, xs, s0, up_lie, up_stand, up_a, hc, hl⟩
    refine ⟨JcI K far lie stand H 130, ?_, ?_⟩
    · skip
      walk_at "rd"
      intro b21 h_b21
      generalize hH12001 : upd H12000 b21 _ = H12001
      obtain ⟨sm12001, up_b21⟩ : Same H12000 H12001 ∧ H12001 b21 = some (.tup (Brick.vs ⟨0, 0, false⟩)) := newH hH12001 h_b21
      clear hH12001
      walk_at "rd"
      intro l21 h_l21
      generalize hH12002 : upd H12001 l21 _ = H12002
      obtain ⟨sm12002, up_l21⟩ : Same H12001 H12002 ∧ H12002 l21 = some (.lst [.ref lie, .ref b21]) := newH hH12002 h_l21
      clear hH12002
      walk_at "rd"
      intro c21 h_c21
      generalize hH12003 : upd H12002 c21 _ = H12003
      obtain ⟨sm12003, up_c21⟩ : Same H12002 H12003 ∧ H12003 c21 = some (.tup (cellV (0, 0))) := newH hH12003 h_c21
      clear hH12003
      walk_at "rd"
      intro p21 H12004 n_p21 sm12004 an_p21
      replace an_p21 : AnsAt K H12004 p21 (.twice (.ref c21)) := an_p21
      walk_at "rd"
      intro t21 h_t21
      generalize hH12005 : upd H12004 t21 _ = H12005
      obtain ⟨sm12005, up_t21⟩ : Same H12004 H12005 ∧ H12005 t21 = some (.tup [.int 2, .int 2, .ref l21, .ref p21, .bl true]) := newH hH12005 h_t21
      clear hH12005
      walk_at "rd"
      intro m h_m
      generalize hH12006 : upd H12005 m _ = H12006
      obtain ⟨sm12006, up_m⟩ : Same H12005 H12006 ∧ H12006 m = some (.lst [.ref t21]) := newH hH12006 h_m
      clear hH12006
      refine ⟨a, m, _, _, rfl, rfl, ((sm12001.trans (sm12002.trans (sm12003.trans (sm12004.trans (sm12005.trans sm12006))))) _ _ up_a), up_m, (size4 (by simp only [List.length_cons, List.length_nil]; omega)), fun an h_an => ?_⟩
      generalize hH12007 : upd H12006 an _ = H12007
      obtain ⟨sm12007, up_an⟩ : Same H12006 H12007 ∧ H12007 an = some (.lst (xs ++ [V.ref t21])) := newH hH12007 h_an
      clear hH12007
      exact .mk (xs := xs ++ [V.ref t21]) (s0.trans (sm12001.trans (sm12002.trans (sm12003.trans (sm12004.trans (sm12005.trans (sm12006.trans sm12007))))))) ((sm12001.trans (sm12002.trans (sm12003.trans (sm12004.trans (sm12005.trans (sm12006.trans sm12007)))))) _ _ up_lie) ((sm12001.trans (sm12002.trans (sm12003.trans (sm12004.trans (sm12005.trans (sm12006.trans sm12007)))))) _ _ up_stand) up_an (app_all (fun x hx => (hc x hx).mono (sm12001.trans (sm12002.trans (sm12003.trans (sm12004.trans (sm12005.trans (sm12006.trans sm12007))))))) (allc ⟨t21, 2, 2, l21, p21, (.twice (0, 0)), true, [(lie, ⟨0, 0, true⟩), (b21, ⟨0, 0, false⟩)], rfl, ((sm12006.trans sm12007) _ _ up_t21), ((sm12003.trans (sm12004.trans (sm12005.trans (sm12006.trans sm12007)))) _ _ up_l21), (brtc (b := ⟨0, 0, true⟩) ((sm12001.trans (sm12002.trans (sm12003.trans (sm12004.trans (sm12005.trans (sm12006.trans sm12007)))))) _ _ up_lie) (brtc (b := ⟨0, 0, false⟩) ((sm12002.trans (sm12003.trans (sm12004.trans (sm12005.trans (sm12006.trans sm12007))))) _ _ up_b21) brt0)), Nat.le_of_ble_eq_true rfl, .twice (an_p21.mono (sm12005.trans (sm12006.trans sm12007))) ((sm12004.trans (sm12005.trans (sm12006.trans sm12007))) _ _ up_c21), ⟨by decide, by decide⟩, ⟨by decide, by decide⟩, (show due5 2 2 2 1 [⟨0, 0, true⟩, ⟨0, 0, false⟩] (.twice (0, 0)) = true by decide +kernel)⟩ <| alln)) (by rw [List.length_append]; simp only [List.length_cons, List.length_nil]; omega)
    rintro _ H13000 @⟨_, a, xs, s0, up_lie, up_stand, up_a, hc, hl⟩
    refine ⟨JcI K far lie stand H 140, ?_, ?_⟩
    · skip
      walk_at "rd"
      intro b22 h_b22
      generalize hH13001 : upd H13000 b22 _ = H13001
      obtain ⟨sm13001, up_b22⟩ : Same H13000 H13001 ∧ H13001 b22 = some (.tup (Brick.vs ⟨0, 0, false⟩)) := newH hH13001 h_b22
      clear hH13001
      walk_at "rd"
      intro l22 h_l22
      generalize hH13002 : upd H13001 l22 _ = H13002
      obtain ⟨sm13002, up_l22⟩ : Same H13001 H13002 ∧ H13002 l22 = some (.lst [.ref lie, .ref b22]) := newH hH13002 h_l22
      clear hH13002
      walk_at "rd"
      intro c22 h_c22
      generalize hH13003 : upd H13002 c22 _ = H13003
      obtain ⟨sm13003, up_c22⟩ : Same H13002 H13003 ∧ H13003 c22 = some (.tup (cellV (1, 1))) := newH hH13003 h_c22
      clear hH13003
      walk_at "rd"
      intro p22 H13004 n_p22 sm13004 an_p22
      replace an_p22 : AnsAt K H13004 p22 (.bare (.ref c22)) := an_p22
      walk_at "rd"
      intro t22 h_t22
      generalize hH13005 : upd H13004 t22 _ = H13005
      obtain ⟨sm13005, up_t22⟩ : Same H13004 H13005 ∧ H13005 t22 = some (.tup [.int 2, .int 2, .ref l22, .ref p22, .bl true]) := newH hH13005 h_t22
      clear hH13005
      walk_at "rd"
      intro m h_m
      generalize hH13006 : upd H13005 m _ = H13006
      obtain ⟨sm13006, up_m⟩ : Same H13005 H13006 ∧ H13006 m = some (.lst [.ref t22]) := newH hH13006 h_m
      clear hH13006
      refine ⟨a, m, _, _, rfl, rfl, ((sm13001.trans (sm13002.trans (sm13003.trans (sm13004.trans (sm13005.trans sm13006))))) _ _ up_a), up_m, (size4 (by simp only [List.length_cons, List.length_nil]; omega)), fun an h_an => ?_⟩
      generalize hH13007 : upd H13006 an _ = H13007
      obtain ⟨sm13007, up_an⟩ : Same H13006 H13007 ∧ H13007 an = some (.lst (xs ++ [V.ref t22])) := newH hH13007 h_an
      clear hH13007
      exact .mk (xs := xs ++ [V.ref t22]) (s0.trans (sm13001.trans (sm13002.trans (sm13003.trans (sm13004.trans (sm13005.trans (sm13006.trans sm13007))))))) ((sm13001.trans (sm13002.trans (sm13003.trans (sm13004.trans (sm13005.trans (sm13006.trans sm13007)))))) _ _ up_lie) ((sm13001.trans (sm13002.trans (sm13003.trans (sm13004.trans (sm13005.trans (sm13006.trans sm13007)))))) _ _ up_stand) up_an (app_all (fun x hx => (hc x hx).mono (sm13001.trans (sm13002.trans (sm13003.trans (sm13004.trans (sm13005.trans (sm13006.trans sm13007))))))) (allc ⟨t22, 2, 2, l22, p22, (.bare (1, 1)), true, [(lie, ⟨0, 0, true⟩), (b22, ⟨0, 0, false⟩)], rfl, ((sm13006.trans sm13007) _ _ up_t22), ((sm13003.trans (sm13004.trans (sm13005.trans (sm13006.trans sm13007)))) _ _ up_l22), (brtc (b := ⟨0, 0, true⟩) ((sm13001.trans (sm13002.trans (sm13003.trans (sm13004.trans (sm13005.trans (sm13006.trans sm13007)))))) _ _ up_lie) (brtc (b := ⟨0, 0, false⟩) ((sm13002.trans (sm13003.trans (sm13004.trans (sm13005.trans (sm13006.trans sm13007))))) _ _ up_b22) brt0)), Nat.le_of_ble_eq_true rfl, .bare (an_p22.mono (sm13005.trans (sm13006.trans sm13007))) ((sm13004.trans (sm13005.trans (sm13006.trans sm13007))) _ _ up_c22), ⟨by decide, by decide⟩, ⟨by decide, by decide⟩, (show due5 2 2 2 1 [⟨0, 0, true⟩, ⟨0, 0, false⟩] (.bare (1, 1)) = true by decide +kernel)⟩ <| alln)) (by rw [List.length_append]; simp only [List.length_cons, List.length_nil]; omega)
    rintro _ H14000 @⟨_, a, xs, s0, up_lie, up_stand, up_a, hc, hl⟩
    have elc := up_a
    have est := up_stand
    have hcs := hc
    have hlen : xs.length ≤ 1000 := by omega
    walk_at "rd"
    refine ⟨⟨_, sqL elc⟩, fun D hD => ?_⟩
    refine lc_list (K := K) (a := a) (xs := xs) (fun j H' => Same H14000 H' ∧ H' D = some (.lst ((List.replicate j false).map V.bl)) ∧ j ≤ 1000) ⟨same_upd hD, upd_same, Nat.zero_le _⟩ (fun j H' _ ⟨sm, _⟩ => sqL (sm _ _ elc)) ?_ ?_
    · rintro j x H401 hj ⟨sm401, eD, hjl⟩
      obtain ⟨t, L, W, l, pa, d, b, ps, rfl, ht, el, hb, hn, ha, hL, hW, hd⟩ := hcs x (List.mem_of_getElem? hj)
      have hjx : j < xs.length := (List.getElem?_eq_some_iff.mp hj).1
      refine ⟨t, _, rfl, sqT (sm401 _ _ ht), rfl, ?_⟩
      walk_at "rd"
      have ha1 := ha.mono sm401
      obtain ⟨dx, fs, e, lk⟩ := ha1.look
      refine ⟨d.cl, d.ok, _, rfl, pa, dx, fs, rfl, e, lk, ?_⟩
      walk_at "rd"
      refine .mk ha1 rfl hL hW (by decide) (by decide) (sqL (sm401 _ _ el)) (hb.mono sm401).all (Nat.le_trans hn (by decide)) fun H402 sm402 => ?_
      rw [hd]
      walk_at "rd"
      rw [ne_bl rfl]
      refine ⟨_, sm402 _ _ eD, size3 (by rw [List.length_map, List.length_replicate]; exact hjl), same_mut2 (sm401.trans sm402) hD, ?_, Nat.le_trans hjx hlen⟩
      rw [upd_same, List.replicate_succ', List.map_append]
      rfl
    rintro H401 ⟨sm401, eD, _⟩
    refine ⟨D, _, rfl, sqL eD, ?_⟩
    rw [all_false]
    have s1 : Same H H401 := s0.trans sm401
    replace up_stand := sm401 _ _ up_stand
    walk_at "rd"
    intro lj h_lj
    generalize hHx : upd H401 lj _ = H501
    obtain ⟨sm501, up_lj⟩ : Same H401 H501 ∧ H501 lj = some (.lst (refs [(stand, (⟨0, 0, false⟩ : Brick))])) := newH hHx h_lj
    clear hHx
    walk_at "rd"
    refine .mk (by decide) (by decide) (by decide) (by decide) (by decide) up_lj (brtc (sm501 _ _ up_stand) brt0) (Nat.le_of_ble_eq_true rfl) fun pj H502 d sm502 aj ij => ?_
    have fl := ij.full (by decide) (by decide)
    rw [show fullB 2 2 2 2 (vals [(stand, (⟨0, 0, false⟩ : Brick))]) = true from (show fullB 2 2 2 2 [⟨0, 0, false⟩] = true by decide +kernel)] at fl
    obtain ⟨an, haj, ecl⟩ := aj.ans
    walk_at "rd"
    refine ⟨_, _, _, _, _, rfl, .own _, tyA G haj, kitA G an .full, ?_⟩
    rw [ecl, of_decide_eq_true fl]
    walk_at "rd"
    refine iteF ?_
    exact q _ (hT.ext (s1.trans (sm501.trans sm502)))
end
end BF

/-! ### k11: the tables of the lambdas; refusals of judged -/
namespace BF
open PySem PySem.Spec PyProof.Rows L2 LamX NdefX
/-- a def whose code object is at c -/
def PlC (K : PySem.W.Frag) (mg : Str → Option Value) (x : Str) (st : Stmt) (c : Addr) : Prop := ∃ f fd, FnP K x x st f fd ∧ mg x = some (.ref f) ∧ fd.code = .ref c
theorem PlC.mk0 {P : Program} {w : World} {K : PySem.W.Frag} {mg : Str → Option Value} {base : Heap} {x : Str} {st : Stmt} {N ps : List Str} {k : Nat} {sp : Sp} {c : Addr} (p : PlC K mg x st c) (S : FnScope N ps (defScope st))
    (hb : ∀ (kV doc pm : Value) (an : Option Addr) (cdv ct : Value) (us : List Value), us.length = ps.length → bindArgs (PySem.W.fnOf x x (defArgs st) (defBody st) (defScope st) .none kV doc pm an cdv ct) ⟨us, []⟩ = pure (ps.zip us))
    (len : ∀ vs H Q E, sp vs H Q E → vs.length = ps.length)
    (body : ∀ (f : Addr) (A : Around) (outer : List Env) (s : Shared) (H : Hp) (vs : List V) (Q : VK) (E : XK), Room k (A.deeper (envOfC x (defScope st) s.heap.objs.size f (.ref c))) → sp vs H Q E →
      ∃ t, PSs (cxOf CX0 P w K mg base N x (defScope st) f (.ref c) A outer s H E).nox (defBody st) t ∧ t { nx := fun _ H' => Q .non H', rt := Q } (start N vs) H) : Has P w K mg base CX0 (k + 1) x ps sp := by
  obtain ⟨f, fd, F, g, hc⟩ := p
  have Fb := F.bindsN hb
  have kp := F.kp
  obtain ⟨oc, od, dV, kV, doc, pm, an, cdv, ct, osl, rfl, lk, hcd, _, _⟩ := F.ex
  obtain rfl : cdv = .ref c := hc
  refine ⟨f, _, fn_of lk hcd S len fun A outer s H vs Q E hr hsp => ?_, g, kp, Fb, oc, od, osl, lk⟩
  obtain ⟨t, a, b⟩ := body f A outer s H vs Q E hr hsp
  exact ⟨t, a.nox, b⟩
abbrev cR (K : PySem.W.Frag) : Addr × Addr := He.cT K ("_law_laying_refused", none)
abbrev cC (K : PySem.W.Frag) : Addr × Addr := He.cT K ("_law_colours_right", none)
abbrev cJ (K : PySem.W.Frag) : Addr × Addr := He.cT K ("_law_judges_right", none)
abbrev q__law_laying_refused : Str := ("_law_laying_refused" ++ ".<locals>.") ++ "<lambda>"
abbrev q__law_colours_right : Str := ("_law_colours_right" ++ ".<locals>.") ++ "<lambda>"
abbrev q__law_judges_right : Str := ("_law_judges_right" ++ ".<locals>.") ++ "<lambda>"
def tabs (K : PySem.W.Frag) : List (Addr × Str) := [((cR K).2, q__law_laying_refused), ((cC K).2, q__law_colours_right), ((cJ K).2, q__law_judges_right)]
structure NeT (K : PySem.W.Frag) : Prop where
  rc : (cR K).2 ≠ (cC K).2
  rj : (cR K).2 ≠ (cJ K).2
  cj : (cC K).2 ≠ (cJ K).2
section
variable {K : PySem.W.Frag}
theorem tabs_cases {p : Addr × Str} (hp : p ∈ tabs K) : p = ((cR K).2, q__law_laying_refused) ∨ p = ((cC K).2, q__law_colours_right) ∨ p = ((cJ K).2, q__law_judges_right) := by simpa [tabs] using hp
theorem tabs_R (n : NeT K) : ∀ p ∈ tabs K, p.1 = (cR K).2 → p.2 = q__law_laying_refused := fun p hp e => by
  rcases tabs_cases hp with rfl | rfl | rfl
  · rfl
  · exact absurd e.symm n.rc
  · exact absurd e.symm n.rj
theorem tabs_C (n : NeT K) : ∀ p ∈ tabs K, p.1 = (cC K).2 → p.2 = q__law_colours_right := fun p hp e => by
  rcases tabs_cases hp with rfl | rfl | rfl
  · exact absurd e n.rc
  · rfl
  · exact absurd e.symm n.cj
theorem tabs_J (n : NeT K) : ∀ p ∈ tabs K, p.1 = (cJ K).2 → p.2 = q__law_judges_right := fun p hp e => by
  rcases tabs_cases hp with rfl | rfl | rfl
  · exact absurd e n.rj
  · exact absurd e n.cj
  · rfl
theorem mem_R : ((cR K).2, q__law_laying_refused) ∈ tabs K := .head _
theorem mem_C : ((cC K).2, q__law_colours_right) ∈ tabs K := .tail _ (.head _)
theorem mem_J : ((cJ K).2, q__law_judges_right) ∈ tabs K := .tail _ (.tail _ (.head _))
end
inductive SpNil (T : List (Addr × Str)) : Sp where
  | mk {H : Hp} {Q : VK} {E : XK} (hT : Tabs T H) (q : ∀ H', Tabs T H' → Q (.bl true) H') : SpNil T [] H Q E
/-- the heap but the tables -/
def noT (H : Hp) : Hp := fun b => match H b with
  | some (.tbl _) => none
  | x => x
theorem noT_of {H : Hp} {a : Addr} {o : HO} (h : H a = some o) (n : ∀ ps, o ≠ .tbl ps) : noT H a = some o := by
  unfold noT
  rw [h]
  cases o with
  | tbl ps => exact absurd rfl (n ps)
  | _ => rfl
theorem noT_lst {H : Hp} {a : Addr} {xs : List V} (h : H a = some (.lst xs)) : noT H a = some (.lst xs) := noT_of h (fun _ z => by cases z)
theorem noT_tup {H : Hp} {a : Addr} {xs : List V} (h : H a = some (.tup xs)) : noT H a = some (.tup xs) := noT_of h (fun _ z => by cases z)
theorem ext_same {H H' : Hp} (e : ExtN H H') : Same (noT H) H' := fun b o h => by
  unfold noT at h
  cases hb : H b with
  | none => rw [hb] at h; cases h
  | some x =>
    rw [hb] at h
    cases x with
    | tbl ps => cases h
    | _ =>
      obtain rfl := Option.some.inj h
      exact e b _ hb (fun _ z => by cases z)
theorem ext_mut {H H' : Hp} {D : Addr} {o : HO} (e : ExtN H H') (n : H D = none) : ExtN H (upd H' D o) := fun b u h t => by
  rw [upd_ne (ne_of_none h n)]
  exact e b u h t
theorem ext_new {H : Hp} {D : Addr} {o : HO} (n : H D = none) : ExtN H (upd H D o) := ExtN.of fun b u h => by
  rw [upd_ne (ne_of_none h n)]
  exact h
theorem tabs_lst {T : List (Addr × Str)} {H : Hp} {F : Addr} {xs ys : List V} (hT : Tabs T H) (e : H F = some (.lst xs)) : Tabs T (upd H F (.lst ys)) := fun p hp => by
  obtain ⟨ps, a1, a2, a3⟩ := hT p hp
  refine ⟨ps, ?_, a2, fun pos cv h => ?_⟩
  · rw [upd_ne (fun z => by rw [z, e] at a1; cases a1)]
    exact a1
  · obtain ⟨c, e1, e2⟩ := a3 pos cv h
    refine ⟨c, e1, ?_⟩
    rw [upd_ne (fun z => by
      rw [z, e] at e2
      unfold CodeO at e2
      cases e2)]
    exact e2
theorem ext_lst {H H1 : Hp} {a : Addr} {xs : List V} (e : ExtN H H1) (h : H a = some (.lst xs)) : H1 a = some (.lst xs) := e _ _ h (fun _ z => by cases z)
theorem ext_tup {H H1 : Hp} {a : Addr} {xs : List V} (e : ExtN H H1) (h : H a = some (.tup xs)) : H1 a = some (.tup xs) := e _ _ h (fun _ z => by cases z)
/-- what a comprehension of words has made -/
structure WdI (T : List (Addr × Str)) (H0 : Hp) (D : Addr) (n : Nat) (ws : Nat → List Str) (j : Nat) (H : Hp) : Prop where
  ex : ExtN H0 H
  hT : Tabs T H
  eD : H D = some (.lst ((ws j).map V.str))
theorem WdI.start {T : List (Addr × Str)} {H0 : Hp} {D : Addr} {n : Nat} {ws : Nat → List Str} (hT : Tabs T H0) (hD : H0 D = none) (h0 : ws 0 = []) : WdI T H0 D n ws 0 (upd H0 D (.lst [])) := ⟨ext_new hD, hT.ext (same_upd hD), by rw [h0]; exact upd_same⟩
/-- one more word -/
theorem WdI.turn {T : List (Addr × Str)} {H0 H1 H2 : Hp} {D : Addr} {n j : Nat} {ws : Nat → List Str} {x : Str} (i : WdI T H0 D n ws j H1) (hD : H0 D = none) (hn : n ≤ 1000) (hl : (ws j).length ≤ n) (e : ExtN H1 H2) (hT : Tabs T H2) (hw : ws (j + 1) = ws j ++ [x]) :
    ∃ acc, H2 D = some (.lst acc) ∧ acc.length < sizeLine ∧ WdI T H0 D n ws (j + 1) (upd H2 D (.lst (acc ++ [.str x]))) := by
  have eD := ext_lst e i.eD
  refine ⟨_, eD, size3 (by rw [List.length_map]; omega), ext_mut (i.ex.trans e) hD, tabs_lst hT eD, ?_⟩
  rw [upd_same, hw, List.map_append]
  rfl
theorem dp_strs {K : PySem.W.Frag} {H : Hp} : ∀ xs : List Str, DpAll K H (xs.map V.str) (xs.map PyData.str)
  | [] => .nil
  | x :: xs => .cons (.str x) (dp_strs xs)
end BF

/-! ### k11: judged, by hand -/
namespace BF
open PySem PySem.Spec PyProof.Rows L2 LamX NdefX
theorem isj_none {d : D5} (j : IsJ 2 1 2 1 [] d) : d.cl = .bare := by
  cases d with
  | bare c => rfl
  | beyond i => exact absurd (beyAt_any j) (by decide)
  | twice c => exact absurd j.2.2 (Nat.not_lt_zero _)
  | full => exact absurd (j.2 (0, 0) (by decide)) (by decide)
theorem isj_two {d : D5} (j : IsJ 2 1 2 1 [⟨0, 0, true⟩, ⟨0, 0, true⟩] d) : d.cl = .twice := by
  cases d with
  | twice c => rfl
  | beyond i => exact absurd (beyAt_any j) (by decide)
  | full => exact absurd (j.2 (0, 0) (by decide)) (by decide)
  | bare c =>
    obtain ⟨x, y⟩ := c
    have h := j.2.1
    unfold cellB at h
    simp only [Bool.and_eq_true, decide_eq_true_eq] at h
    have hx : x = 0 ∨ x = 1 := by omega
    have hy : y = 0 := by omega
    subst hy
    rcases hx with rfl | rfl
    · exact absurd j.2.2 (by decide)
    · exact absurd j.2.2 (by decide)
theorem isj_out {d : D5} (j : IsJ 2 1 2 1 [⟨0, 0, false⟩] d) : d.cl = .beyond := by
  cases d with
  | beyond i => rfl
  | twice c => exact absurd j.1 (by decide)
  | bare c => exact absurd j.1 (by decide)
  | full => exact absurd j.1 (by decide)
theorem shp_strs {xs : List Str} (h : ∀ x ∈ xs, (PyData.str x).canLay0 = true) : Shp 2 (.list (xs.map .str)) := shp_list (n := 1) fun d hd => by
  obtain ⟨b, hb, rfl⟩ := List.mem_map.mp hd
  exact ⟨h b hb, by simp [PyData.depth]⟩
theorem words_shp {x : Str} (h : (PyData.str x).canLay0 = true) (n : Nat) : Shp 2 (.list ((List.replicate n x).map .str)) := shp_strs fun y hy => by rw [List.eq_of_mem_replicate hy]; exact h
theorem one_ok {H : Hp} {a : Addr} {v : V} (h : H a = some (.lst [v])) (k : BrK H v false) : BadB H (.ref a) := .lst (bs := [false]) h (Nat.le_of_ble_eq_true rfl) ⟨rfl, fun i x b h1 h2 => by
  rcases i with _ | i
  · cases h1
    cases h2
    exact k
  · simp at h1⟩ rfl
section
variable {P : Program} {w : World} {K : PySem.W.Frag} {mg : Str → Option Value} {base : Heap}
theorem H__law_judges_right (p : PlC K mg "_law_judges_right" s__law_judges_right (cJ K).1) (ne : NeT K) (TB : TabB base mg (cJ K).1 (cJ K).2) (B : Bi mg) (G : ClG K mg) (h__law_word : Has P w K mg base CX0 9 "_law_word" ["_law_ask", "_law_thing"] (SpWrd P w K mg base))
    (h_judged : Has P w K mg base CX0 3 "judged" ["length", "width", "first", "second", "bricks"] (SpJudged K)) (h_shows5 : ∀ x, Ok5 x → HasM P w K mg base CX0 3 x "shows" ["self", "length", "width", "first", "second", "bricks"] (SpShows5 K x))
    (hg_judged : Has P w K mg base (CXN P w) 3 "judged" ["length", "width", "first", "second", "bricks"] (SpGrX K)) (hb_judged : Has P w K mg base (CXN P w) 3 "judged" ["length", "width", "first", "second", "bricks"] (SpBrX K))
    (hs_judged : Has P w K mg base (CXN P w) 3 "judged" ["length", "width", "first", "second", "bricks"] (SpSz K 4 1)) : Has P w K mg base CX0 10 "_law_judges_right" [] (SpNil (tabs K)) := by
  refine p.mk0 sc__law_judges_right (fun _ _ _ _ _ _ us hl => match us, hl with | [], _ => rfl) (fun vs H Q E h => ?_) (fun f A outer s H vs Q E hr h => ?_)
  · cases h; rfl
  · obtain ⟨hT, q⟩ := h
    have hmT := mem_J (K := K)
    have hu := tabs_J ne
    refine ⟨_, (pss_cons (ps_asg (pe_tup (pa_cons (pe_tup (pa_cons pe_int (pa_cons pe_int (pa_cons pe_bl pa_nil)))) (pa_cons (pe_tup (pa_cons pe_int (pa_cons pe_int (pa_cons pe_bl pa_nil)))) pa_nil))) (pg_tup (by rfl) (pgs_cons (pg_name (i := 0) sc__law_judges_right.nd rfl (Or.inl rfl)) (pgs_cons (pg_name (i := 1) sc__law_judges_right.nd rfl (Or.inl rfl)) pgs_nil))))
      (pss_cons (ps_if (pt_not (pt_val (pe_callB (r := rIsi K) call_isi (by rfl) B.isinstance (by decide +kernel) (pa_cons (pe_fn h_judged (hr.mono (by decide)) pass0 (pa_cons pe_int (pa_cons pe_int (pa_cons pe_int (pa_cons pe_int (pa_cons (pe_lst pa_nil) pa_nil)))))) (pa_cons (pe_glob (v := .ref (cl _ .bare)) (by rfl) (G.g .bare (by decide)) rfl) pa_nil))))) (pss_one (ps_ret pe_bl)) pss_nil)
      (pss_cons (ps_if (pt_not (pt_val (pe_callB (r := rIsi K) call_isi (by rfl) B.isinstance (by decide +kernel) (pa_cons (pe_fn h_judged (hr.mono (by decide)) pass0 (pa_cons pe_int (pa_cons pe_int (pa_cons pe_int (pa_cons pe_int (pa_cons (pe_lst (pa_cons (pv 0) (pa_cons (pv 0) pa_nil))) pa_nil)))))) (pa_cons (pe_glob (v := .ref (cl _ .twice)) (by rfl) (G.g .twice (by decide)) rfl) pa_nil))))) (pss_one (ps_ret pe_bl)) pss_nil)
      (pss_cons (ps_if (pt_not (pt_val (pe_methA h_shows5 (fun x hx => (G.f x (ok5 hx)).c) (hr.mono (by decide)) pass0 (pe_fn h_judged (hr.mono (by decide)) pass0 (pa_cons pe_int (pa_cons pe_int (pa_cons pe_int (pa_cons pe_int (pa_cons (pe_lst (pa_cons (pv 1) pa_nil)) pa_nil)))))) (pa_cons pe_int (pa_cons pe_int (pa_cons pe_int (pa_cons pe_int (pa_cons (pe_lst (pa_cons (pv 1) pa_nil)) pa_nil)))))))) (pss_one (ps_ret pe_bl)) pss_nil)
      (pss_cons (ps_if (pt_not (pt_val (pe_callB (r := rIsi K) call_isi (by rfl) B.isinstance (by decide +kernel) (pa_cons (pe_fn h_judged (hr.mono (by decide)) pass0 (pa_cons pe_int (pa_cons pe_int (pa_cons pe_int (pa_cons pe_int (pa_cons (pe_lst (pa_cons (pv 0) pa_nil)) pa_nil)))))) (pa_cons (pe_glob (v := .ref (cl _ .full)) (by rfl) (G.g .full (by decide)) rfl) pa_nil))))) (pss_one (ps_ret pe_bl)) pss_nil)
      (pss_cons (ps_if (pt_cmpR op_ne (pe_fn h__law_word (hr.mono (by decide)) pass0 (pa_cons (pe_lampN (q__law_judges_right) rfl TB rfl hmT hu rfl (by decide +kernel)) (pa_cons pe_non pa_nil))) pe_str (nomark _)) (pss_one (ps_ret pe_bl)) pss_nil)
      (pss_cons (ps_if (pt_cmpR op_ne (pe_fn h__law_word (hr.mono (by decide)) pass0 (pa_cons (pe_lampN (q__law_judges_right) rfl TB rfl hmT hu rfl (by decide +kernel)) (pa_cons pe_non pa_nil))) pe_str (nomark _)) (pss_one (ps_ret pe_bl)) pss_nil)
      (pss_cons (ps_if (pt_cmpR op_ne (pe_fn h__law_word (hr.mono (by decide)) pass0 (pa_cons (pe_lampN (q__law_judges_right) rfl TB rfl hmT hu rfl (by decide +kernel)) (pa_cons pe_non pa_nil))) pe_str (nomark _)) (pss_one (ps_ret pe_bl)) pss_nil)
      (pss_cons (ps_if (pt_cmpR op_ne (pe_fn h__law_word (hr.mono (by decide)) pass0 (pa_cons (pe_lampN (q__law_judges_right) rfl TB rfl hmT hu rfl (by decide +kernel)) (pa_cons pe_non pa_nil))) pe_str (nomark _)) (pss_one (ps_ret pe_bl)) pss_nil)
      (pss_cons (ps_set (i := 2) sc__law_judges_right.nd rfl (Or.inl rfl) (pe_lst (pa_cons (pe_lst (pa_cons (pe_tup (pa_cons pe_int (pa_cons pe_int (pa_cons pe_int pa_nil)))) pa_nil)) (pa_cons (pe_lst (pa_cons (pe_tup (pa_cons pe_int (pa_cons pe_int pa_nil))) pa_nil)) (pa_cons (pe_lst (pa_cons (pe_lst (pa_cons pe_int (pa_cons pe_int (pa_cons pe_bl pa_nil)))) pa_nil)) (pa_cons (pe_lst (pa_cons (pe_tup (pa_cons pe_int (pa_cons pe_bl (pa_cons pe_bl pa_nil)))) pa_nil)) (pa_cons (pe_tup (pa_cons (pe_tup (pa_cons pe_int (pa_cons pe_int (pa_cons pe_bl pa_nil)))) pa_nil)) (pa_cons (pe_lst (pa_cons pe_non pa_nil)) pa_nil))))))))
      (pss_one (ps_ret (pe_cmpR (r := rEqD K) (op_eqD hr.units) (pe_lc (own := [("_law_bad", 3)]) (by rfl) sc__law_judges_right.nd (pi_list (pv 2)) (blkOk_by (own := [("_law_bad", 3)]) (N := ["_law_lie", "_law_stand", "_law_bads", "_law_bad"]) (sc := defScope s__law_judges_right) (by decide +kernel)) (fun _ _ _ _ _ => (pg_name (i := 3) sc__law_judges_right.nd rfl (Or.inl rfl))) (fun _ _ _ _ _ => pts_nil) (fun _ _ _ _ _ => (pe_fn h__law_word (hr.mono (by decide)) pass0 (pa_cons (pe_lampN (q__law_judges_right) rfl TB rfl hmT hu rfl (by decide +kernel)) (pa_cons (pv 3) pa_nil))))) (pe_op op_rep (pe_lst (pa_cons pe_str pa_nil)) pe_int) (nomark _)))))))))))))), ?_⟩
    walk_at "rd"
    intro lie h_lie
    generalize hH1 : upd H lie _ = H1
    obtain ⟨sm1, up_lie⟩ : Same H H1 ∧ H1 lie = some (.tup (Brick.vs ⟨0, 0, true⟩)) := newH hH1 h_lie
    clear hH1
    walk_at "rd"
    intro stand h_stand
    generalize hH2 : upd H1 stand _ = H2
    obtain ⟨sm2, up_stand⟩ : Same H1 H2 ∧ H2 stand = some (.tup (Brick.vs ⟨0, 0, false⟩)) := newH hH2 h_stand
    clear hH2
    walk_at "rd"
    intro both h_both
    generalize hH3 : upd H2 both _ = H3
    obtain ⟨sm3, up_both⟩ : Same H2 H3 ∧ H3 both = some (.tup [.ref lie, .ref stand]) := newH hH3 h_both
    clear hH3
    refine ⟨both, _, rfl, sqT up_both, rfl, ?_⟩
    walk_at "rd"
    intro l1 h_l1
    generalize hH4 : upd H3 l1 _ = H4
    obtain ⟨sm4, up_l1⟩ : Same H3 H4 ∧ H4 l1 = some (.lst (refs ([] : List (Addr × Brick)))) := newH hH4 h_l1
    clear hH4
    walk_at "rd"
    refine .mk (by decide) (by decide) (by decide) (by decide) (by decide) up_l1 brt0 (Nat.le_of_ble_eq_true rfl) fun p1 H5 d1 sm5 a1 j1 => ?_
    obtain ⟨an1, ha1, ec1⟩ := a1.ans
    walk_at "rd"
    refine ⟨_, _, _, _, _, rfl, .own _, tyA G ha1, kitA G an1 .bare, ?_⟩
    rw [ec1, isj_none j1]
    walk_at "rd"
    walk_at "rd"
    intro l2 h_l2
    generalize hH6 : upd H5 l2 _ = H6
    obtain ⟨sm6, up_l2⟩ : Same H5 H6 ∧ H6 l2 = some (.lst (refs [(lie, (⟨0, 0, true⟩ : Brick)), (lie, ⟨0, 0, true⟩)])) := newH hH6 h_l2
    clear hH6
    walk_at "rd"
    refine .mk (by decide) (by decide) (by decide) (by decide) (by decide) up_l2 (brtc ((sm2.trans (sm3.trans (sm4.trans (sm5.trans sm6)))) _ _ up_lie) (brtc ((sm2.trans (sm3.trans (sm4.trans (sm5.trans sm6)))) _ _ up_lie) brt0)) (Nat.le_of_ble_eq_true rfl) fun p2 H7 d2 sm7 a2 j2 => ?_
    obtain ⟨an2, ha2, ec2⟩ := a2.ans
    walk_at "rd"
    refine ⟨_, _, _, _, _, rfl, .own _, tyA G ha2, kitA G an2 .twice, ?_⟩
    rw [ec2, isj_two j2]
    walk_at "rd"
    refine ⟨.beyond, D5.ok (.beyond 0), ?_⟩
    walk_at "rd"
    intro l3 h_l3
    generalize hH8 : upd H7 l3 _ = H8
    obtain ⟨sm8, up_l3⟩ : Same H7 H8 ∧ H8 l3 = some (.lst (refs [(stand, (⟨0, 0, false⟩ : Brick))])) := newH hH8 h_l3
    clear hH8
    walk_at "rd"
    refine .mk (by decide) (by decide) (by decide) (by decide) (by decide) up_l3 (brtc ((sm3.trans (sm4.trans (sm5.trans (sm6.trans (sm7.trans sm8))))) _ _ up_stand) brt0) (Nat.le_of_ble_eq_true rfl) fun p3 H9 d3 sm9 a3 j3 => ?_
    obtain ⟨dx3, fs3, e3, lk3⟩ := a3.look
    rw [isj_out j3] at e3
    refine ⟨p3, dx3, fs3, rfl, e3, lk3, ?_⟩
    have s3 : Same H9 H9 := fun _ _ z => z
    walk_at "rd"
    intro l4 h_l4
    generalize hH10 : upd H9 l4 _ = H10
    obtain ⟨sm10, up_l4⟩ : Same H9 H10 ∧ H10 l4 = some (.lst (refs [(stand, (⟨0, 0, false⟩ : Brick))])) := newH hH10 h_l4
    clear hH10
    walk_at "rd"
    refine .mk (a3.mono sm10) (isj_out j3) ⟨by decide, by decide⟩ ⟨by decide, by decide⟩ (by decide) (by decide) (sqL up_l4) (brtc ((sm3.trans (sm4.trans (sm5.trans (sm6.trans (sm7.trans (sm8.trans (sm9.trans sm10))))))) _ _ up_stand) brt0 : BrT H10 [(stand, (⟨0, 0, false⟩ : Brick))]).all (Nat.le_of_ble_eq_true rfl) fun H11 sm11 => ?_
    rw [j3.due (by decide) (by decide)]
    walk_at "rd"
    intro l5 h_l5
    generalize hH12 : upd H11 l5 _ = H12
    obtain ⟨sm12, up_l5⟩ : Same H11 H12 ∧ H12 l5 = some (.lst (refs [(lie, (⟨0, 0, true⟩ : Brick))])) := newH hH12 h_l5
    clear hH12
    walk_at "rd"
    refine .mk (by decide) (by decide) (by decide) (by decide) (by decide) up_l5 (brtc ((sm2.trans (sm3.trans (sm4.trans (sm5.trans (sm6.trans (sm7.trans (sm8.trans (sm9.trans (sm10.trans (sm11.trans sm12)))))))))) _ _ up_lie) brt0) (Nat.le_of_ble_eq_true rfl) fun p6 H13 d6 sm13 a6 j6 => ?_
    have fl6 := j6.full (by decide) (by decide)
    rw [show fullB 20 20 20 20 (vals [(lie, (⟨0, 0, true⟩ : Brick))]) = true from (show fullB 20 20 20 20 [⟨0, 0, true⟩] = true by decide +kernel)] at fl6
    obtain ⟨an6, ha6, ec6⟩ := a6.ans
    walk_at "rd"
    refine ⟨_, _, _, _, _, rfl, .own _, tyA G ha6, kitA G an6 .full, ?_⟩
    rw [ec6, of_decide_eq_true fl6]
    have hT6 : Tabs (tabs K) H13 := hT.ext (sm1.trans (sm2.trans (sm3.trans (sm4.trans (sm5.trans (sm6.trans (sm7.trans (sm8.trans (sm9.trans (sm10.trans (sm11.trans (sm12.trans sm13))))))))))))
    walk_at "rd"
    intro f0 c0 H100a eN0 hT6a nf0 hf0 hc0
    walk_at "rd"
    refine .mk (x := "_law_it") (Ok := fun _ v => v = .non) (e := .great) ?_ ⟨hf0, hc0⟩ rfl (by decide) rfl fun H101 sm101 => ?_
    · exact lok_rz (nscope_by (by dsimp only; decide +kernel)) (fun _ _ us hl => match us, hl with | [_], _ => rfl) (fun A outer s H E hr => pe_fn hg_judged (hr.mono (by decide)) passW (pa_cons pe_int (pa_cons pe_int (pa_cons pe_int (pa_cons pe_int (pa_cons (pv 0) pa_nil)))))) (fun H v Q E hv x => ⟨_, rfl, .mk (sz_lit (by decide) (by decide)) (sz_lit (by decide) (by decide)) (by decide) (by decide) (by decide) x⟩)
    have hT7 : Tabs (tabs K) H101 := hT6a.ext sm101
    walk_at "rd"
    intro f1 c1 H101a eN1 hT7a nf1 hf1 hc1
    walk_at "rd"
    refine .mk (x := "_law_it") (Ok := fun _ v => v = .non) (e := .great) ?_ ⟨hf1, hc1⟩ rfl (by decide) rfl fun H102 sm102 => ?_
    · exact lok_rz (nscope_by (by dsimp only; decide +kernel)) (fun _ _ us hl => match us, hl with | [_], _ => rfl) (fun A outer s H E hr => pe_fn hg_judged (hr.mono (by decide)) passW (pa_cons pe_int (pa_cons pe_int (pa_cons pe_int (pa_cons pe_int (pa_cons (pv 0) pa_nil)))))) (fun H v Q E hv x => ⟨_, rfl, .mk (sz_lit (by decide) (by decide)) (sz_lit (by decide) (by decide)) (by decide) (by decide) (by decide) x⟩)
    have hT8 : Tabs (tabs K) H102 := hT7a.ext sm102
    walk_at "rd"
    intro f2 c2 H102a eN2 hT8a nf2 hf2 hc2
    walk_at "rd"
    refine .mk (x := "_law_it") (Ok := fun _ v => v = .non) (e := .bricks) ?_ ⟨hf2, hc2⟩ rfl (by decide) rfl fun H103 sm103 => ?_
    · exact lok_rz (nscope_by (by dsimp only; decide +kernel)) (fun _ _ us hl => match us, hl with | [_], _ => rfl) (fun A outer s H E hr => pe_fn hb_judged (hr.mono (by decide)) passW (pa_cons pe_int (pa_cons pe_int (pa_cons pe_int (pa_cons pe_int (pa_cons (pv 0) pa_nil)))))) (fun H v Q E hv x => ⟨_, rfl, .mk (by decide) (by decide) (by decide) (by decide) (by decide) (by rw [hv]; exact .kd .non (by decide)) x⟩)
    have hT9 : Tabs (tabs K) H103 := hT8a.ext sm103
    walk_at "rd"
    intro f3 c3 H103a eN3 hT9a nf3 hf3 hc3
    walk_at "rd"
    refine .mk (x := "_law_it") (Ok := fun _ v => v = .non) (e := .size) ?_ ⟨hf3, hc3⟩ rfl (by decide) rfl fun H104 sm104 => ?_
    · exact lok_rz (nscope_by (by dsimp only; decide +kernel)) (fun _ _ us hl => match us, hl with | [_], _ => rfl) (fun A outer s H E hr => pe_fn hs_judged (hr.mono (by decide)) passW (pa_cons pe_int (pa_cons pe_int (pa_cons pe_int (pa_cons pe_int (pa_cons (pv 0) pa_nil)))))) (fun H v Q E hv x => ⟨_, rfl, SpSz.mk (xs := [.int 0, .int 1, .int 1, .int 1]) (ys := [v]) rfl rfl (.here (.low (by decide))) x⟩)
    have hT10 : Tabs (tabs K) H104 := hT9a.ext sm104
    walk_at "rd"
    walk_at "rd"
    intro a1 h_a1
    generalize hH105 : upd H104 a1 _ = H105
    obtain ⟨sm105, up_a1⟩ : Same H104 H105 ∧ H105 a1 = some (.tup [.int 0, .int 0, .int 1]) := newH hH105 h_a1
    clear hH105
    walk_at "rd"
    intro b1 h_b1
    generalize hH106 : upd H105 b1 _ = H106
    obtain ⟨sm106, up_b1⟩ : Same H105 H106 ∧ H106 b1 = some (.lst [.ref a1]) := newH hH106 h_b1
    clear hH106
    walk_at "rd"
    intro a2 h_a2
    generalize hH107 : upd H106 a2 _ = H107
    obtain ⟨sm107, up_a2⟩ : Same H106 H107 ∧ H107 a2 = some (.tup [.int 0, .int 0]) := newH hH107 h_a2
    clear hH107
    walk_at "rd"
    intro b2 h_b2
    generalize hH108 : upd H107 b2 _ = H108
    obtain ⟨sm108, up_b2⟩ : Same H107 H108 ∧ H108 b2 = some (.lst [.ref a2]) := newH hH108 h_b2
    clear hH108
    walk_at "rd"
    intro a3 h_a3
    generalize hH109 : upd H108 a3 _ = H109
    obtain ⟨sm109, up_a3⟩ : Same H108 H109 ∧ H109 a3 = some (.lst [.int 0, .int 0, .bl true]) := newH hH109 h_a3
    clear hH109
    walk_at "rd"
    intro b3 h_b3
    generalize hH110 : upd H109 b3 _ = H110
    obtain ⟨sm110, up_b3⟩ : Same H109 H110 ∧ H110 b3 = some (.lst [.ref a3]) := newH hH110 h_b3
    clear hH110
    walk_at "rd"
    intro a4 h_a4
    generalize hH111 : upd H110 a4 _ = H111
    obtain ⟨sm111, up_a4⟩ : Same H110 H111 ∧ H111 a4 = some (.tup [.int 0, .bl true, .bl true]) := newH hH111 h_a4
    clear hH111
    walk_at "rd"
    intro b4 h_b4
    generalize hH112 : upd H111 b4 _ = H112
    obtain ⟨sm112, up_b4⟩ : Same H111 H112 ∧ H112 b4 = some (.lst [.ref a4]) := newH hH112 h_b4
    clear hH112
    walk_at "rd"
    intro a5 h_a5
    generalize hH113 : upd H112 a5 _ = H113
    obtain ⟨sm113, up_a5⟩ : Same H112 H113 ∧ H113 a5 = some (.tup [.int 0, .int 0, .bl true]) := newH hH113 h_a5
    clear hH113
    walk_at "rd"
    intro b5 h_b5
    generalize hH114 : upd H113 b5 _ = H114
    obtain ⟨sm114, up_b5⟩ : Same H113 H114 ∧ H114 b5 = some (.tup [.ref a5]) := newH hH114 h_b5
    clear hH114
    walk_at "rd"
    intro b6 h_b6
    generalize hH115 : upd H114 b6 _ = H115
    obtain ⟨sm115, up_b6⟩ : Same H114 H115 ∧ H115 b6 = some (.lst [.non]) := newH hH115 h_b6
    clear hH115
    walk_at "rd"
    intro lb h_lb
    generalize hH116 : upd H115 lb _ = H116
    obtain ⟨sm116, up_lb⟩ : Same H115 H116 ∧ H116 lb = some (.lst [.ref b1, .ref b2, .ref b3, .ref b4, .ref b5, .ref b6]) := newH hH116 h_lb
    clear hH116
    have hbs : ∀ x ∈ [V.ref b1, .ref b2, .ref b3, .ref b4, .ref b5, .ref b6], BadB (noT H116) x := by
      refine allc ?_ <| allc ?_ <| allc ?_ <| allc ?_ <| allc ?_ <| allc ?_ alln
      · exact one_ok (noT_lst ((sm107.trans (sm108.trans (sm109.trans (sm110.trans (sm111.trans (sm112.trans (sm113.trans (sm114.trans (sm115.trans sm116))))))))) _ _ up_b1)) (.trd (noT_tup ((sm106.trans (sm107.trans (sm108.trans (sm109.trans (sm110.trans (sm111.trans (sm112.trans (sm113.trans (sm114.trans (sm115.trans sm116)))))))))) _ _ up_a1)) (.int 1) (by decide))
      · exact one_ok (noT_lst ((sm109.trans (sm110.trans (sm111.trans (sm112.trans (sm113.trans (sm114.trans (sm115.trans sm116))))))) _ _ up_b2)) (.len (noT_tup ((sm108.trans (sm109.trans (sm110.trans (sm111.trans (sm112.trans (sm113.trans (sm114.trans (sm115.trans sm116)))))))) _ _ up_a2)) (by decide))
      · exact one_ok (noT_lst ((sm111.trans (sm112.trans (sm113.trans (sm114.trans (sm115.trans sm116))))) _ _ up_b3)) (.kd (.lst (noT_lst ((sm110.trans (sm111.trans (sm112.trans (sm113.trans (sm114.trans (sm115.trans sm116)))))) _ _ up_a3))) (by decide))
      · exact one_ok (noT_lst ((sm113.trans (sm114.trans (sm115.trans sm116))) _ _ up_b4)) (.snd (noT_tup ((sm112.trans (sm113.trans (sm114.trans (sm115.trans sm116)))) _ _ up_a4)) (.bl true) (by decide))
      · exact .kd (.tup (noT_tup ((sm115.trans sm116) _ _ up_b5))) (by decide)
      · exact one_ok (noT_lst (sm116 _ _ up_b6)) (.kd .non (by decide))
    have hTb : Tabs (tabs K) H116 := hT10.ext (sm105.trans (sm106.trans (sm107.trans (sm108.trans (sm109.trans (sm110.trans (sm111.trans (sm112.trans (sm113.trans (sm114.trans (sm115.trans sm116)))))))))))
    have elb := up_lb
    walk_at "rd"
    refine ⟨⟨_, sqL elb⟩, fun D hD => ?_⟩
    refine lc_list (K := K) (a := lb) (xs := [V.ref b1, .ref b2, .ref b3, .ref b4, .ref b5, .ref b6]) (WdI (tabs K) H116 D 6 fun j => List.replicate j "bricks") (WdI.start hTb hD rfl) (fun j H' _ i => sqL (ext_lst i.ex elb)) ?_ ?_
    · rintro j x Hc hj i
      have hx := hbs x (List.mem_of_getElem? hj)
      have hj6 : j < 6 := (List.getElem?_eq_some_iff.mp hj).1
      refine ⟨rfl, lc_yes ?_⟩
      refine ⟨i.hT, fun fl c Hd eNd hTd nf hf hc => ?_⟩
      walk_at "rd"
      refine .mk (x := "_law_it") (Ok := BadB) (e := .bricks) ?_ ⟨hf, hc⟩ rfl (by decide) (hx.mono' ((ext_same (i.ex.trans eNd)))) fun He sme => i.turn hD (by decide) (by rw [List.length_replicate]; omega) (eNd.trans (ExtN.of sme)) (hTd.ext sme) List.replicate_succ'
      exact lok_rz (nscope_by (by dsimp only; decide +kernel)) (fun _ _ us hl => match us, hl with | [_], _ => rfl) (fun A outer s H E hr => pe_fn hb_judged (hr.mono (by decide)) passW (pa_cons pe_int (pa_cons pe_int (pa_cons pe_int (pa_cons pe_int (pa_cons (pv 0) pa_nil)))))) (fun H v Q E hv x => ⟨_, rfl, .mk (by decide) (by decide) (by decide) (by decide) (by decide) hv x⟩)
    intro Hc i
    have eD : Hc D = some (.lst ((List.replicate 6 ("bricks" : Str)).map V.str)) := i.eD
    have hTc := i.hT
    clear i
    walk_at "rd"
    have hw := words_shp (x := "bricks") (by decide +kernel) 6
    intro l1 hl1
    generalize hH1 : upd Hc l1 _ = Hd
    obtain ⟨smd, upd1⟩ : Same Hc Hd ∧ Hd l1 = some (.lst [.str "bricks"]) := newH hH1 hl1
    clear hH1
    refine ⟨l1, 6, _, rfl, rfl, upd1, by decide, by decide, size4 (by decide), fun l2 hl2 => ?_⟩
    generalize hH2 : upd Hd l2 _ = He
    obtain ⟨sme, upe⟩ : Same Hd He ∧ He l2 = some (.lst ((List.replicate 6 ("bricks" : Str)).map V.str)) := newH hH2 hl2
    clear hH2
    refine ⟨_, _, .lst (sqL (sme _ _ (smd _ _ eD))) (dp_strs _), .lst (sqL upe) (dp_strs _), hw.ok (by decide), hw.ok (by decide), ?_⟩
    rw [SeqAt.eqv_refl _ hw.c]
    exact q _ (hTc.ext (smd.trans sme))
end
end BF

/-! ### k11: refusals of the laying -/
namespace BF
open PySem PySem.Spec PyProof.Rows L2 LamX NdefX
/-- a lambda that is refused by the word wd when it is asked of (6, 0) -/
structure AskOk (P : Program) (w : World) (K : PySem.W.Frag) (mg : Str → Option Value) (base : Heap) (H : Hp) (v : V) (wd : Str) : Prop where
  ex : ∃ (f : Addr) (F : LF) (x : Str) (Ok : Hp → V → Prop) (e : Er), v = .ref f ∧ LOk P w K mg base (CXN P w) 8 f F [x] [] (SpRz K Ok e) ∧ Kp f F H ∧ F.cl = [] ∧ e ≠ .floor ∧ (∀ (H' : Hp) (t : Addr), H' t = some (.tup [.int 6, .int 0]) → Ok H' (.ref t)) ∧ e.word = wd
section
variable {P : Program} {w : World} {K : PySem.W.Frag} {mg : Str → Option Value} {base : Heap}
theorem ask_mk {H : Hp} {f : Addr} {F : LF} {x : Str} {Ok : Hp → V → Prop} {e : Er} (kp : Kp f F H) (hcl : F.cl = []) (he : e ≠ .floor) (h : ∀ (H' : Hp) (t : Addr), H' t = some (.tup [.int 6, .int 0]) → Ok H' (.ref t)) (ok : LOk P w K mg base (CXN P w) 8 f F [x] [] (SpRz K Ok e)) : AskOk P w K mg base H (.ref f) e.word :=
  ⟨f, F, x, Ok, e, rfl, ok, kp, hcl, he, h, rfl⟩
theorem AskOk.ext {H H' : Hp} {v : V} {wd : Str} (h : AskOk P w K mg base H v wd) (e : ExtN H H') : AskOk P w K mg base H' v wd := by
  obtain ⟨f, F, x, Ok, er, h1, h2, h3, h4⟩ := h.ex
  exact ⟨f, F, x, Ok, er, h1, h2, h3.ext e, h4⟩
inductive AskL (P : Program) (w : World) (K : PySem.W.Frag) (mg : Str → Option Value) (base : Heap) (H : Hp) : List V → List Str → Prop where
  | nil : AskL P w K mg base H [] []
  | cons {v : V} {x : Str} {vs : List V} {xs : List Str} (h : AskOk P w K mg base H v x) (t : AskL P w K mg base H vs xs) : AskL P w K mg base H (v :: vs) (x :: xs)
theorem AskL.ext {H H' : Hp} {vs : List V} {xs : List Str} (h : AskL P w K mg base H vs xs) (e : ExtN H H') : AskL P w K mg base H' vs xs := by
  induction h with
  | nil => exact .nil
  | cons h _ ih => exact .cons (h.ext e) ih
theorem AskL.at {H : Hp} {vs : List V} {xs : List Str} (h : AskL P w K mg base H vs xs) : ∀ {i : Nat} {v : V}, vs[i]? = some v → ∃ x, xs[i]? = some x ∧ AskOk P w K mg base H v x := by
  induction h with
  | nil => intro i v e; simp at e
  | cons h _ ih =>
    intro i v e
    cases i with
    | zero => cases e; exact ⟨_, rfl, h⟩
    | succ i => exact ih e
end
theorem take_word {xs : List Str} {j : Nat} {x : Str} (h : xs[j]? = some x) : xs.take (j + 1) = xs.take j ++ [x] := by
  have lt : j < xs.length := (List.getElem?_eq_some_iff.mp h).1
  have e : xs[j] = x := (List.getElem?_eq_some_iff.mp h).2
  rw [← e, List.take_succ_eq_append_getElem lt]
abbrev words6 : List Str := ["barred", "size", "cell", "barred", "barred", "size"]
theorem words6_ok : Shp 2 (.list (words6.map .str)) := shp_strs (allc (by decide +kernel) <| allc (by decide +kernel) <| allc (by decide +kernel) <| allc (by decide +kernel) <| allc (by decide +kernel) <| allc (by decide +kernel) alln)
theorem nofree1 : ¬ Free 1 6 2 3 := fun h => by
  have z := (free_due h).2.2.1
  rw [sho_yes (by decide) (fun m n r => by obtain ⟨r1, r2, r3⟩ := r; omega)] at z
  cases z
theorem nofree4 : ¬ Free 4 4 2 3 := fun h => absurd (free_due h).2.1 (by decide)
theorem free6 : Free 6 6 2 3 := free_of (m := 3) (n := 0) (u := 0) (v := 2) (by decide) (by decide) (.inl (by decide)) (.inl (by decide)) ⟨by decide, by decide, by decide⟩ ⟨by decide, by decide, by decide⟩
section
variable {P : Program} {w : World} {K : PySem.W.Frag} {mg : Str → Option Value} {base : Heap}
theorem H__law_laying_refused (p : PlC K mg "_law_laying_refused" s__law_laying_refused (cR K).1) (ne : NeT K) (TB : TabB base mg (cR K).1 (cR K).2) (B : Bi mg) (h__law_word : Has P w K mg base CX0 9 "_law_word" ["_law_ask", "_law_thing"] (SpWrd P w K mg base))
    (hx_brick_on : Has P w K mg base (CXN P w) 5 "brick_on" ["length", "width", "first", "second", "cell"] (SpBrickX K)) (hs_brick_on : Has P w K mg base (CXN P w) 4 "brick_on" ["length", "width", "first", "second", "cell"] (SpSz K 4 1))
    (hc_brick_on : Has P w K mg base (CXN P w) 5 "brick_on" ["length", "width", "first", "second", "cell"] (SpBrickC K)) (hx_lying : Has P w K mg base (CXN P w) 5 "lying" ["length", "width", "first", "second"] (SpLaidX K)) (hx_standing : Has P w K mg base (CXN P w) 6 "standing" ["length", "width", "first", "second"] (SpLaidX K))
    (hx_told : Has P w K mg base (CXN P w) 3 "told" ["length", "width", "first", "second"] (SpSz K 4 0)) : Has P w K mg base CX0 10 "_law_laying_refused" [] (SpNil (tabs K)) := by
  refine p.mk0 sc__law_laying_refused (fun _ _ _ _ _ _ us hl => match us, hl with | [], _ => rfl) (fun vs H Q E h => ?_) (fun f A outer s H vs Q E hr h => ?_)
  · cases h; rfl
  · obtain ⟨hT, q⟩ := h
    have hmT := mem_R (K := K)
    have hu := tabs_R ne
    refine ⟨_, (pss_cons (ps_set (i := 0) sc__law_laying_refused.nd rfl (Or.inl rfl) (pe_lst (pa_cons (pe_lampN (q__law_laying_refused) rfl TB rfl hmT hu rfl (by decide +kernel)) pa_nil)))
      (pss_cons (ps_set (i := 0) sc__law_laying_refused.nd rfl (Or.inl rfl) (pe_op op_cat (pv 0) (pe_lst (pa_cons (pe_lampN (q__law_laying_refused) rfl TB rfl hmT hu rfl (by decide +kernel)) (pa_cons (pe_lampN (q__law_laying_refused) rfl TB rfl hmT hu rfl (by decide +kernel)) pa_nil)))))
      (pss_cons (ps_set (i := 0) sc__law_laying_refused.nd rfl (Or.inl rfl) (pe_op op_cat (pv 0) (pe_lst (pa_cons (pe_lampN (q__law_laying_refused) rfl TB rfl hmT hu rfl (by decide +kernel)) (pa_cons (pe_lampN (q__law_laying_refused) rfl TB rfl hmT hu rfl (by decide +kernel)) (pa_cons (pe_lampN (q__law_laying_refused) rfl TB rfl hmT hu rfl (by decide +kernel)) pa_nil))))))
      (pss_cons (ps_if (pt_cmpR (r := rNeD K) (op_neD hr.units) (pe_lc (own := [("_law_ask", 2)]) (by rfl) sc__law_laying_refused.nd (pi_list (pv 0)) (blkOk_by (own := [("_law_ask", 2)]) (N := ["_law_asks", "_law_bads", "_law_ask", "_law_bad"]) (sc := defScope s__law_laying_refused) (by decide +kernel)) (fun _ _ _ _ _ => (pg_name (i := 2) sc__law_laying_refused.nd rfl (Or.inl rfl))) (fun _ _ _ _ _ => pts_nil) (fun _ _ _ _ _ => (pe_fn h__law_word (hr.mono (by decide)) pass0 (pa_cons (pv 2) (pa_cons (pe_tup (pa_cons pe_int (pa_cons pe_int pa_nil))) pa_nil))))) (pe_lst (pa_cons pe_str (pa_cons pe_str (pa_cons pe_str (pa_cons pe_str (pa_cons pe_str (pa_cons pe_str pa_nil))))))) (nomark _)) (pss_one (ps_ret pe_bl)) pss_nil)
      (pss_cons (ps_set (i := 1) sc__law_laying_refused.nd rfl (Or.inl rfl) (pe_lst (pa_cons (pe_tup (pa_cons pe_int (pa_cons pe_int pa_nil))) (pa_cons (pe_tup (pa_cons (pe_un un_neg pe_int) (pa_cons pe_int pa_nil))) (pa_cons (pe_lst (pa_cons pe_int (pa_cons pe_int pa_nil))) (pa_cons (pe_tup (pa_cons pe_int pa_nil)) (pa_cons (pe_tup (pa_cons pe_int (pa_cons pe_bl pa_nil))) (pa_cons pe_non pa_nil))))))))
      (pss_cons (ps_if (pt_cmpR (r := rNeD K) (op_neD hr.units) (pe_lc (own := [("_law_bad", 3)]) (by rfl) sc__law_laying_refused.nd (pi_list (pv 1)) (blkOk_by (own := [("_law_bad", 3)]) (N := ["_law_asks", "_law_bads", "_law_ask", "_law_bad"]) (sc := defScope s__law_laying_refused) (by decide +kernel)) (fun _ _ _ _ _ => (pg_name (i := 3) sc__law_laying_refused.nd rfl (Or.inl rfl))) (fun _ _ _ _ _ => pts_nil) (fun _ _ _ _ _ => (pe_fn h__law_word (hr.mono (by decide)) pass0 (pa_cons (pe_lampN (q__law_laying_refused) rfl TB rfl hmT hu rfl (by decide +kernel)) (pa_cons (pv 3) pa_nil))))) (pe_op op_rep (pe_lst (pa_cons pe_str pa_nil)) pe_int) (nomark _)) (pss_one (ps_ret pe_bl)) pss_nil)
      (pss_one (ps_ret (pe_cmpR (r := rEqD K) (op_eqD hr.units) (pe_lc (own := [("_law_bad", 3)]) (by rfl) sc__law_laying_refused.nd (pi_tup (pe_tup (pa_cons pe_int (pa_cons (pe_un un_neg pe_int) (pa_cons pe_bl (pa_cons pe_non (pa_cons pe_str pa_nil))))))) (blkOk_by (own := [("_law_bad", 3)]) (N := ["_law_asks", "_law_bads", "_law_ask", "_law_bad"]) (sc := defScope s__law_laying_refused) (by decide +kernel)) (fun _ _ _ _ _ => (pg_name (i := 3) sc__law_laying_refused.nd rfl (Or.inl rfl))) (fun _ _ _ _ _ => pts_nil) (fun _ _ _ _ _ => (pe_fn h__law_word (hr.mono (by decide)) pass0 (pa_cons (pe_lampN (q__law_laying_refused) rfl TB rfl hmT hu rfl (by decide +kernel)) (pa_cons (pv 3) pa_nil))))) (pe_op op_rep (pe_lst (pa_cons pe_str pa_nil)) pe_int) (nomark _)))))))))), ?_⟩
    walk_at "rd"
    intro f1 c1 H1 eN1 hT1 nf1 hf1 hc1
    have k1 : AskOk P w K mg base H1 (.ref f1) "barred" := by
      refine ask_mk (x := "_law_one") (e := .barred) (Ok := fun _ _ => True) ⟨hf1, hc1⟩ rfl (by decide) (fun _ _ _ => trivial) ?_
      exact lok_rz (nscope_by (by dsimp only; decide +kernel)) (fun _ _ us hl => match us, hl with | [_], _ => rfl) (fun A outer s H E hr => pe_fn hx_brick_on (hr.mono (by decide)) passW (pa_cons pe_int (pa_cons pe_int (pa_cons pe_int (pa_cons pe_int (pa_cons (pv 0) pa_nil)))))) (fun H v Q E hv x => ⟨_, rfl, .mk (sz_lit (by decide) (by decide)) (sz_lit (by decide) (by decide)) (ss_lit (by decide) (by decide)) (ss_lit (by decide) (by decide)) nofree1 x⟩)
    clear hf1 hc1 nf1
    walk_at "rd"
    intro l2 hl2
    generalize hH2 : upd H1 l2 _ = H2
    obtain ⟨sm2, ul2⟩ : Same H1 H2 ∧ H2 l2 = some (.lst [.ref f1]) := newH hH2 hl2
    clear hH2
    have eN2 : ExtN H1 H2 := ExtN.of sm2
    have hT2 : Tabs (tabs K) H2 := hT1.ext sm2
    have uL2 := ul2
    walk_at "rd"
    intro f3 c3 H3 eN3 hT3 nf3 hf3 hc3
    have k3 : AskOk P w K mg base H3 (.ref f3) "size" := by
      refine ask_mk (x := "_law_two") (e := .size) (Ok := fun _ _ => True) ⟨hf3, hc3⟩ rfl (by decide) (fun _ _ _ => trivial) ?_
      exact lok_rz (nscope_by (by dsimp only; decide +kernel)) (fun _ _ us hl => match us, hl with | [_], _ => rfl) (fun A outer s H E hr => pe_fn hs_brick_on (hr.mono (by decide)) passW (pa_cons pe_int (pa_cons pe_int (pa_cons pe_int (pa_cons pe_int (pa_cons (pv 0) pa_nil)))))) (fun H v Q E hv x => ⟨_, rfl, SpSz.mk (xs := [.int 0, .int 6, .int 2, .int 3]) (ys := [v]) rfl rfl (.here (.low (by decide))) x⟩)
    clear hf3 hc3 nf3
    walk_at "rd"
    intro f4 c4 H4 eN4 hT4 nf4 hf4 hc4
    have k4 : AskOk P w K mg base H4 (.ref f4) "cell" := by
      refine ask_mk (x := "_law_six") (e := .cell) (Ok := BadC 6 6) ⟨hf4, hc4⟩ rfl (by decide) (fun _ _ h => .out h (by decide)) ?_
      exact lok_rz (nscope_by (by dsimp only; decide +kernel)) (fun _ _ us hl => match us, hl with | [_], _ => rfl) (fun A outer s H E hr => pe_fn hc_brick_on (hr.mono (by decide)) passW (pa_cons pe_int (pa_cons pe_int (pa_cons pe_int (pa_cons pe_int (pa_cons (pv 0) pa_nil)))))) (fun H v Q E hv x => ⟨_, rfl, .mk (sz_lit (by decide) (by decide)) (sz_lit (by decide) (by decide)) (ss_lit (by decide) (by decide)) (ss_lit (by decide) (by decide)) free6 hv x⟩)
    clear hf4 hc4 nf4
    walk_at "rd"
    intro l5 hl5
    generalize hH5 : upd H4 l5 _ = H5
    obtain ⟨sm5, ul5⟩ : Same H4 H5 ∧ H5 l5 = some (.lst [.ref f3, .ref f4]) := newH hH5 hl5
    clear hH5
    have eN5 : ExtN H4 H5 := ExtN.of sm5
    have hT5 : Tabs (tabs K) H5 := hT4.ext sm5
    refine ⟨l2, l5, _, _, rfl, rfl, ext_lst (eN3.trans (eN4.trans eN5)) uL2, ul5, size4 (by simp), fun l6 hl6 => ?_⟩
    generalize hH6 : upd H5 l6 _ = H6
    obtain ⟨sm6, uL6⟩ : Same H5 H6 ∧ H6 l6 = some (.lst [.ref f1, .ref f3, .ref f4]) := newH hH6 hl6
    clear hH6
    have eN6 : ExtN H5 H6 := ExtN.of sm6
    have hT6 : Tabs (tabs K) H6 := hT5.ext sm6
    walk_at "rd"
    intro f7 c7 H7 eN7 hT7 nf7 hf7 hc7
    have k7 : AskOk P w K mg base H7 (.ref f7) "barred" := by
      refine ask_mk (x := "_law_it") (e := .barred) (Ok := fun _ _ => True) ⟨hf7, hc7⟩ rfl (by decide) (fun _ _ _ => trivial) ?_
      exact lok_rz (nscope_by (by dsimp only; decide +kernel)) (fun _ _ us hl => match us, hl with | [_], _ => rfl) (fun A outer s H E hr => pe_fn hx_lying (hr.mono (by decide)) passW (pa_cons pe_int (pa_cons pe_int (pa_cons pe_int (pa_cons pe_int pa_nil))))) (fun H v Q E hv x => .mk (sz_lit (by decide) (by decide)) (sz_lit (by decide) (by decide)) (ss_lit (by decide) (by decide)) (ss_lit (by decide) (by decide)) nofree1 x)
    clear hf7 hc7 nf7
    walk_at "rd"
    intro f8 c8 H8 eN8 hT8 nf8 hf8 hc8
    have k8 : AskOk P w K mg base H8 (.ref f8) "barred" := by
      refine ask_mk (x := "_law_me") (e := .barred) (Ok := fun _ _ => True) ⟨hf8, hc8⟩ rfl (by decide) (fun _ _ _ => trivial) ?_
      exact lok_rz (nscope_by (by dsimp only; decide +kernel)) (fun _ _ us hl => match us, hl with | [_], _ => rfl) (fun A outer s H E hr => pe_fn hx_standing (hr.mono (by decide)) passW (pa_cons pe_int (pa_cons pe_int (pa_cons pe_int (pa_cons pe_int pa_nil))))) (fun H v Q E hv x => .mk (sz_lit (by decide) (by decide)) (sz_lit (by decide) (by decide)) (ss_lit (by decide) (by decide)) (ss_lit (by decide) (by decide)) nofree4 x)
    clear hf8 hc8 nf8
    walk_at "rd"
    intro f9 c9 H9 eN9 hT9 nf9 hf9 hc9
    have k9 : AskOk P w K mg base H9 (.ref f9) "size" := by
      refine ask_mk (x := "_law_us") (e := .size) (Ok := fun _ _ => True) ⟨hf9, hc9⟩ rfl (by decide) (fun _ _ _ => trivial) ?_
      exact lok_rz (nscope_by (by dsimp only; decide +kernel)) (fun _ _ us hl => match us, hl with | [_], _ => rfl) (fun A outer s H E hr => pe_fn hx_told (hr.mono (by decide)) passW (pa_cons pe_int (pa_cons pe_int (pa_cons pe_int (pa_cons pe_int pa_nil))))) (fun H v Q E hv x => SpSz.mk (xs := [.int 1, .int 1, .int 0, .int 1]) (ys := []) rfl rfl (.next (by decide) (.next (by decide) (.here (.low (by decide))))) x)
    clear hf9 hc9 nf9
    walk_at "rd"
    intro l10 hl10
    generalize hH10 : upd H9 l10 _ = H10
    obtain ⟨sm10, ul10⟩ : Same H9 H10 ∧ H10 l10 = some (.lst [.ref f7, .ref f8, .ref f9]) := newH hH10 hl10
    clear hH10
    have eN10 : ExtN H9 H10 := ExtN.of sm10
    have hT10 : Tabs (tabs K) H10 := hT9.ext sm10
    refine ⟨l6, l10, _, _, rfl, rfl, ext_lst (eN7.trans (eN8.trans (eN9.trans eN10))) uL6, ul10, size4 (by simp), fun l11 hl11 => ?_⟩
    generalize hH11 : upd H10 l11 _ = H11
    obtain ⟨sm11, uL11⟩ : Same H10 H11 ∧ H11 l11 = some (.lst [.ref f1, .ref f3, .ref f4, .ref f7, .ref f8, .ref f9]) := newH hH11 hl11
    clear hH11
    have eN11 : ExtN H10 H11 := ExtN.of sm11
    have hT11 : Tabs (tabs K) H11 := hT10.ext sm11
    have hal : AskL P w K mg base H11 [V.ref f1, .ref f3, .ref f4, .ref f7, .ref f8, .ref f9] words6 := .cons (k1.ext (eN2.trans (eN3.trans (eN4.trans (eN5.trans (eN6.trans (eN7.trans (eN8.trans (eN9.trans (eN10.trans eN11)))))))))) <| .cons (k3.ext (eN4.trans (eN5.trans (eN6.trans (eN7.trans (eN8.trans (eN9.trans (eN10.trans eN11)))))))) <| .cons (k4.ext (eN5.trans (eN6.trans (eN7.trans (eN8.trans (eN9.trans (eN10.trans eN11))))))) <| .cons (k7.ext (eN8.trans (eN9.trans (eN10.trans eN11)))) <| .cons (k8.ext (eN9.trans (eN10.trans eN11))) <| .cons (k9.ext (eN10.trans eN11)) .nil
    have elb := uL11
    have hTb := hT11
    have hlen : ([V.ref f1, .ref f3, .ref f4, .ref f7, .ref f8, .ref f9] : List V).length = 6 := rfl
    generalize [V.ref f1, .ref f3, .ref f4, .ref f7, .ref f8, .ref f9] = xs at hal elb hlen
    clear k1 k3 k4 k7 k8 k9
    walk_at "rd"
    refine ⟨⟨_, sqL elb⟩, fun D hD => ?_⟩
    refine lc_list (K := K) (a := l11) (xs := xs) (WdI (tabs K) H11 D 6 fun j => words6.take j) (WdI.start hTb hD rfl) (fun j H' _ i => sqL (ext_lst i.ex elb)) ?_ ?_
    · rintro j x Hc hj i
      have hj6 : j < 6 := by rw [← hlen]; exact (List.getElem?_eq_some_iff.mp hj).1
      obtain ⟨wd, hw, ao⟩ := hal.at hj
      obtain ⟨fl, F, x0, Ok, e, rfl, ok, kp, hcl, he, hok, rfl⟩ := (ao.ext i.ex).ex
      refine ⟨rfl, lc_yes ?_⟩
      walk_at "rd"
      intro t ht
      generalize hHd : upd Hc t _ = Hd
      obtain ⟨smd, upt⟩ : Same Hc Hd ∧ Hd t = some (.tup [.int 6, .int 0]) := newH hHd ht
      clear hHd
      walk_at "rd"
      refine .mk ok (kp.mono smd) hcl he (hok _ _ upt) fun He sme => i.turn hD (by decide) ?_ (ExtN.of (smd.trans sme)) (i.hT.ext (smd.trans sme)) (take_word hw)
      rw [List.length_take]
      omega
    intro Hc i
    have eD : Hc D = some (.lst (words6.map V.str)) := by
      have z := i.eD
      rw [hlen] at z
      exact z
    have hTc := i.hT
    clear i
    walk_at "rd"
    intro l50 hl50
    generalize hH50 : upd Hc l50 _ = H50
    obtain ⟨sm50, ul50⟩ : Same Hc H50 ∧ H50 l50 = some (.lst (words6.map V.str)) := newH hH50 hl50
    clear hH50
    refine ⟨_, _, .lst (sqL (sm50 _ _ eD)) (dp_strs _), .lst (sqL ul50) (dp_strs _), words6_ok.ok (by decide), words6_ok.ok (by decide), ?_⟩
    rw [SeqAt.eqv_refl _ words6_ok.c]
    have hT50 : Tabs (tabs K) H50 := hTc.ext sm50
    walk_at "rd"
    intro a1 h_a1
    generalize hH51 : upd H50 a1 _ = H51
    obtain ⟨sm51, up_a1⟩ : Same H50 H51 ∧ H51 a1 = some (.tup [.int 0, .int 6]) := newH hH51 h_a1
    clear hH51
    walk_at "rd"
    intro a2 h_a2
    generalize hH52 : upd H51 a2 _ = H52
    obtain ⟨sm52, up_a2⟩ : Same H51 H52 ∧ H52 a2 = some (.tup [.int (-1), .int 0]) := newH hH52 h_a2
    clear hH52
    walk_at "rd"
    intro a3 h_a3
    generalize hH53 : upd H52 a3 _ = H53
    obtain ⟨sm53, up_a3⟩ : Same H52 H53 ∧ H53 a3 = some (.lst [.int 0, .int 0]) := newH hH53 h_a3
    clear hH53
    walk_at "rd"
    intro a4 h_a4
    generalize hH54 : upd H53 a4 _ = H54
    obtain ⟨sm54, up_a4⟩ : Same H53 H54 ∧ H54 a4 = some (.tup [.int 0]) := newH hH54 h_a4
    clear hH54
    walk_at "rd"
    intro a5 h_a5
    generalize hH55 : upd H54 a5 _ = H55
    obtain ⟨sm55, up_a5⟩ : Same H54 H55 ∧ H55 a5 = some (.tup [.int 0, .bl true]) := newH hH55 h_a5
    clear hH55
    walk_at "rd"
    intro lb h_lb
    generalize hH56 : upd H55 lb _ = H56
    obtain ⟨sm56, up_lb⟩ : Same H55 H56 ∧ H56 lb = some (.lst [.ref a1, .ref a2, .ref a3, .ref a4, .ref a5, .non]) := newH hH56 h_lb
    clear hH56
    have hbs : ∀ x ∈ [V.ref a1, .ref a2, .ref a3, .ref a4, .ref a5, .non], BadC 6 6 (noT H56) x := by
      refine allc ?_ <| allc ?_ <| allc ?_ <| allc ?_ <| allc ?_ <| allc ?_ alln
      · exact .out (noT_tup ((sm52.trans (sm53.trans (sm54.trans (sm55.trans sm56)))) _ _ up_a1)) (by decide)
      · exact .out (noT_tup ((sm53.trans (sm54.trans (sm55.trans sm56))) _ _ up_a2)) (by decide)
      · exact .kd (.lst (noT_lst ((sm54.trans (sm55.trans sm56)) _ _ up_a3))) (by decide)
      · exact .len (noT_tup ((sm55.trans sm56) _ _ up_a4)) (by decide)
      · exact .snd (noT_tup (sm56 _ _ up_a5)) (.bl true) (by decide)
      · exact .kd .non (by decide)
    have hTd : Tabs (tabs K) H56 := hT50.ext (sm51.trans (sm52.trans (sm53.trans (sm54.trans (sm55.trans sm56)))))
    have el2 := up_lb
    have hw6 := words_shp (x := "cell") (by decide +kernel) 6
    have hw5 := words_shp (x := "size") (by decide +kernel) 5
    walk_at "rd"
    refine ⟨⟨_, sqL el2⟩, fun D2 hD2 => ?_⟩
    refine lc_list (K := K) (a := lb) (xs := [V.ref a1, .ref a2, .ref a3, .ref a4, .ref a5, .non]) (WdI (tabs K) H56 D2 6 fun j => List.replicate j "cell") (WdI.start hTd hD2 rfl) (fun j H' _ i => sqL (ext_lst i.ex el2)) ?_ ?_
    · rintro j x Hc hj i
      have hx := hbs x (List.mem_of_getElem? hj)
      have hj6 : j < 6 := (List.getElem?_eq_some_iff.mp hj).1
      refine ⟨rfl, lc_yes ?_⟩
      refine ⟨i.hT, fun fl c Hd eNd hTd nf hf hc => ?_⟩
      walk_at "rd"
      refine .mk (x := "_law_it") (Ok := BadC 6 6) (e := .cell) ?_ ⟨hf, hc⟩ rfl (by decide) (hx.mono ((ext_same (i.ex.trans eNd)))) fun He sme => i.turn hD2 (by decide) (by rw [List.length_replicate]; omega) (eNd.trans (ExtN.of sme)) (hTd.ext sme) List.replicate_succ'
      exact lok_rz (nscope_by (by dsimp only; decide +kernel)) (fun _ _ us hl => match us, hl with | [_], _ => rfl) (fun A outer s H E hr => pe_fn hc_brick_on (hr.mono (by decide)) passW (pa_cons pe_int (pa_cons pe_int (pa_cons pe_int (pa_cons pe_int (pa_cons (pv 0) pa_nil)))))) (fun H v Q E hv x => ⟨_, rfl, .mk (sz_lit (by decide) (by decide)) (sz_lit (by decide) (by decide)) (ss_lit (by decide) (by decide)) (ss_lit (by decide) (by decide)) free6 hv x⟩)
    intro Hc i
    have eD2 : Hc D2 = some (.lst ((List.replicate 6 ("cell" : Str)).map V.str)) := i.eD
    have hTc := i.hT
    clear i
    walk_at "rd"
    intro l1 hl1
    generalize hH1 : upd Hc l1 _ = Hd
    obtain ⟨smd, upd1⟩ : Same Hc Hd ∧ Hd l1 = some (.lst [.str "cell"]) := newH hH1 hl1
    clear hH1
    refine ⟨l1, 6, _, rfl, rfl, upd1, by decide, by decide, size4 (by decide), fun l2 hl2 => ?_⟩
    generalize hH2 : upd Hd l2 _ = He
    obtain ⟨sme, upe⟩ : Same Hd He ∧ He l2 = some (.lst ((List.replicate 6 ("cell" : Str)).map V.str)) := newH hH2 hl2
    clear hH2
    refine ⟨_, _, .lst (sqL (sme _ _ (smd _ _ eD2))) (dp_strs _), .lst (sqL upe) (dp_strs _), hw6.ok (by decide), hw6.ok (by decide), ?_⟩
    rw [SeqAt.eqv_refl _ hw6.c]
    have hTe : Tabs (tabs K) He := hTc.ext (smd.trans sme)
    walk_at "rd"
    intro t3 ht3
    generalize hH3 : upd He t3 _ = Hf
    obtain ⟨smf, upf⟩ : Same He Hf ∧ Hf t3 = some (.tup [.int 0, .int (-1), .bl true, .non, .str "1"]) := newH hH3 ht3
    clear hH3
    have hTf : Tabs (tabs K) Hf := hTe.ext smf
    have hbz : ∀ x ∈ [V.int 0, .int (-1), .bl true, .non, .str "1"], ∀ H : Hp, BadS H x := by
      refine allc ?_ <| allc ?_ <| allc ?_ <| allc ?_ <| allc ?_ alln
      · exact fun _ => .low (by decide)
      · exact fun _ => .low (by decide)
      · exact fun _ => .kd (.bl true) (by decide)
      · exact fun _ => .kd .non (by decide)
      · exact fun _ => .kd (.str _) (by decide)
    refine ⟨t3, rfl, ⟨_, sqT upf⟩, fun D3 hD3 => ?_⟩
    refine lc_tup (K := K) (a := t3) (xs := [V.int 0, .int (-1), .bl true, .non, .str "1"]) (WdI (tabs K) Hf D3 5 fun j => List.replicate j "size") (WdI.start hTf hD3 rfl) (fun j H' _ i => sqT (ext_tup i.ex upf)) ?_ ?_
    · rintro j x Hc hj i
      have hx := hbz x (List.mem_of_getElem? hj)
      have hj6 : j < 5 := (List.getElem?_eq_some_iff.mp hj).1
      refine ⟨rfl, lc_yes ?_⟩
      refine ⟨i.hT, fun fl c Hd eNd hTd nf hf hc => ?_⟩
      walk_at "rd"
      refine .mk (x := "_law_it") (Ok := fun H v => BadS H v) (e := .size) ?_ ⟨hf, hc⟩ rfl (by decide) (hx _) fun He sme => i.turn hD3 (by decide) (by rw [List.length_replicate]; omega) (eNd.trans (ExtN.of sme)) (hTd.ext sme) List.replicate_succ'
      exact lok_rz (nscope_by (by dsimp only; decide +kernel)) (fun _ _ us hl => match us, hl with | [_], _ => rfl) (fun A outer s H E hr => pe_fn hx_told (hr.mono (by decide)) passW (pa_cons (pv 0) (pa_cons pe_int (pa_cons pe_int (pa_cons pe_int pa_nil))))) (fun H v Q E hv x => ⟨_, rfl, SpSz.mk (xs := [v, .int 1, .int 1, .int 1]) (ys := []) rfl rfl (.here hv) x⟩)
    intro Hg i
    have eD3 : Hg D3 = some (.lst ((List.replicate 5 ("size" : Str)).map V.str)) := i.eD
    have hTg := i.hT
    clear i
    walk_at "rd"
    intro l4 hl4
    generalize hH4 : upd Hg l4 _ = Hh
    obtain ⟨smh, uph⟩ : Same Hg Hh ∧ Hh l4 = some (.lst [.str "size"]) := newH hH4 hl4
    clear hH4
    refine ⟨l4, 5, _, rfl, rfl, uph, by decide, by decide, size4 (by decide), fun l5 hl5 => ?_⟩
    generalize hH5 : upd Hh l5 _ = Hi
    obtain ⟨smi, upi⟩ : Same Hh Hi ∧ Hi l5 = some (.lst ((List.replicate 5 ("size" : Str)).map V.str)) := newH hH5 hl5
    clear hH5
    refine ⟨_, _, .lst (sqL (smi _ _ (smh _ _ eD3))) (dp_strs _), .lst (sqL upi) (dp_strs _), hw5.ok (by decide), hw5.ok (by decide), ?_⟩
    rw [SeqAt.eqv_refl _ hw5.c]
    exact q _ (hTg.ext (smh.trans smi))
end
end BF

/-! ### k11: colours -/
namespace BF
open PySem PySem.Spec PyProof.Rows L2 LamX NdefX
/-- the first so many colours -/
def alL (L W s : Int) (j : Nat) : List Int := (List.range j).map fun i : Nat => alikeI L W s (i : Int)
theorem alL_succ (L W s : Int) (j : Nat) : alL L W s (j + 1) = alL L W s j ++ [alikeI L W s (j : Int)] := by
  unfold alL
  rw [List.range_succ, List.map_append]
  rfl
theorem alL_len (L W s : Int) (j : Nat) : (alL L W s j).length = j := by
  unfold alL
  rw [List.length_map, List.length_range]
theorem alL_sum (L W s : Int) : ∀ n : Nat, (alL L W s n).sum = sumI (fun c => alikeI L W s c) n
  | 0 => rfl
  | n + 1 => by
    rw [alL_succ, List.sum_append, alL_sum L W s n]
    show _ = sumI _ n + _
    simp
theorem alike_far {far c : Int} (h : 1000000 < far) (h0 : 0 ≤ c) (h1 : c < 1000) : alikeI 3 4 far c = pairsI 3 4 c := by
  unfold alikeI
  rw [Int.ediv_eq_zero_of_lt (by decide) (by omega), Int.ediv_eq_zero_of_lt (by decide) (by omega), Int.emod_eq_of_lt (by decide) (by omega), Int.emod_eq_of_lt (by decide) (by omega)]
  have e : pairsI 3 4 (c + far) = 0 := by
    unfold pairsI
    omega
  rw [e]
  omega
theorem alike_seven {far : Int} (h : 1000000 < far) : alikeI (7 * far) 5 7 3 = 5 * far := by
  rw [alike_same (by decide) (by decide) (.inl (by omega))]
  have e1 : 7 * far / 7 = far := by omega
  have e2 : 7 * far % 7 = 0 := by omega
  rw [e1, e2]
  omega
theorem alike_one {far : Int} : alikeI far far 1 0 = far * far := by
  rw [alike_same (by decide) (by decide) (.inl (Int.emod_one far)), Int.emod_one, Int.ediv_one]
  omega
def ColAt (H : Hp) (x : V) : Prop := ∃ t L W s, x = V.ref t ∧ H t = some (.tup [.int L, .int W, .int s]) ∧ Sz L ∧ Sz W ∧ Sz s
inductive CoI (far : Int) (H0 : Hp) : L2.St → Hp → Prop where
  | mk {H : Hp} {y1 y2 y3 y4 : Option V} (sm : Same H0 H) : CoI far H0 [some (.int far), y1, y2, y3, y4, none, none] H
section
variable {P : Program} {w : World} {K : PySem.W.Frag} {mg : Str → Option Value} {base : Heap}
theorem H__law_colours_right (p : PlC K mg "_law_colours_right" s__law_colours_right (cC K).1) (ne : NeT K) (TB : TabB base mg (cC K).1 (cC K).2) (B : Bi mg) (h__law_word : Has P w K mg base CX0 9 "_law_word" ["_law_ask", "_law_thing"] (SpWrd P w K mg base))
    (h_alike : Has P w K mg base CX0 3 "alike" ["length", "width", "size", "colour"] SpAlike) (hk_alike : Has P w K mg base (CXN P w) 3 "alike" ["length", "width", "size", "colour"] (SpColX K)) (hs_alike : Has P w K mg base (CXN P w) 3 "alike" ["length", "width", "size", "colour"] (SpSz K 3 1)) :
    Has P w K mg base CX0 10 "_law_colours_right" ["_law_far"] (SpFar (tabs K)) := by
  refine p.mk0 sc__law_colours_right (fun _ _ _ _ _ _ us hl => match us, hl with | [_], _ => rfl) (fun vs H Q E h => ?_) (fun f A outer s H vs Q E hr h => ?_)
  · cases h; rfl
  · obtain @⟨far, _, _, _, hf, hT, q⟩ := h
    have hmT := mem_C (K := K)
    have hu := tabs_C ne
    have flo := hf.lo
    have cm7 : CMulX 7 far := Bn.mulOk (n := 10) (bnl (by decide)) hf.bn (by decide)
    have cm5 : CMulX 5 far := Bn.mulOk (n := 10) (bnl (by decide)) hf.bn (by decide)
    have cmf : CMulX far far := Bn.mulOk hf.bn hf.bn (by decide)
    have z7 : Sz (7 * far) := ⟨by omega, (Bn.mul (n := 10) (bnl (by decide)) hf.bn).mono (by decide)⟩
    have z1 : Sz (far + 1) := ⟨by omega, (Bn.add (m := 10) hf.bn (bnl (by decide))).mono (by decide)⟩
    have small : ∀ {L W s : Int}, Sz L → Sz W → 0 < s → s < 1000000 → Sz L ∧ Sz W ∧ Sz s ∧ Dz L s ∧ Dz W s := fun {L W s} a b c d => ⟨a, b, sz_lit c d, .inl (ss_lit c d).bn, .inl (ss_lit c d).bn⟩
    refine ⟨_, (pss_cons (ps_if (pt_cmpR (r := rNeD K) (op_neD hr.units) (pe_lc (own := [("_law_colour", 5)]) (by rfl) sc__law_colours_right.nd (pi_range1 (by rfl) B.range (pa_cons pe_int pa_nil)) (blkOk_by (own := [("_law_colour", 5)]) (N := ["_law_far", "_law_length", "_law_width", "_law_size", "_law_some", "_law_colour", "_law_bad"]) (sc := defScope s__law_colours_right) (by decide +kernel)) (fun _ _ _ _ _ => (pg_name (i := 5) sc__law_colours_right.nd rfl (Or.inl rfl))) (fun _ _ _ _ _ => pts_nil) (fun _ _ _ _ _ => (pe_fn h_alike (hr.mono (by decide)) pass0 (pa_cons pe_int (pa_cons pe_int (pa_cons pe_int (pa_cons (pv 5) pa_nil))))))) (pe_lst (pa_cons pe_int (pa_cons pe_int pa_nil))) (nomark _)) (pss_one (ps_ret pe_bl)) pss_nil)
      (pss_cons (ps_if (pt_cmpR (r := rNeD K) (op_neD hr.units) (pe_lc (own := [("_law_colour", 5)]) (by rfl) sc__law_colours_right.nd (pi_range1 (by rfl) B.range (pa_cons pe_int pa_nil)) (blkOk_by (own := [("_law_colour", 5)]) (N := ["_law_far", "_law_length", "_law_width", "_law_size", "_law_some", "_law_colour", "_law_bad"]) (sc := defScope s__law_colours_right) (by decide +kernel)) (fun _ _ _ _ _ => (pg_name (i := 5) sc__law_colours_right.nd rfl (Or.inl rfl))) (fun _ _ _ _ _ => pts_nil) (fun _ _ _ _ _ => (pe_fn h_alike (hr.mono (by decide)) pass0 (pa_cons pe_int (pa_cons pe_int (pa_cons pe_int (pa_cons (pv 5) pa_nil))))))) (pe_lst (pa_cons pe_int (pa_cons pe_int (pa_cons pe_int (pa_cons pe_int (pa_cons pe_int pa_nil)))))) (nomark _)) (pss_one (ps_ret pe_bl)) pss_nil)
      (pss_cons (ps_if (pt_cmpR (r := rNeD K) (op_neD hr.units) (pe_lc (own := [("_law_colour", 5)]) (by rfl) sc__law_colours_right.nd (pi_range1 (by rfl) B.range (pa_cons pe_int pa_nil)) (blkOk_by (own := [("_law_colour", 5)]) (N := ["_law_far", "_law_length", "_law_width", "_law_size", "_law_some", "_law_colour", "_law_bad"]) (sc := defScope s__law_colours_right) (by decide +kernel)) (fun _ _ _ _ _ => (pg_name (i := 5) sc__law_colours_right.nd rfl (Or.inl rfl))) (fun _ _ _ _ _ => pts_nil) (fun _ _ _ _ _ => (pe_fn h_alike (hr.mono (by decide)) pass0 (pa_cons pe_int (pa_cons pe_int (pa_cons pe_int (pa_cons (pv 5) pa_nil))))))) (pe_lst (pa_cons pe_int (pa_cons pe_int (pa_cons pe_int pa_nil)))) (nomark _)) (pss_one (ps_ret pe_bl)) pss_nil)
      (pss_cons (ps_for PassesOwn.never (by rfl) (pi_tup (pe_tup (pa_cons (pe_tup (pa_cons (pv 0) (pa_cons (pe_op op_add (pv 0) pe_int) (pa_cons pe_int pa_nil)))) (pa_cons (pe_tup (pa_cons (pv 0) (pa_cons pe_int (pa_cons pe_int pa_nil)))) (pa_cons (pe_tup (pa_cons pe_int (pa_cons (pv 0) (pa_cons pe_int pa_nil)))) (pa_cons (pe_tup (pa_cons (pv 0) (pa_cons (pv 0) (pa_cons pe_int pa_nil)))) (pa_cons (pe_tup (pa_cons pe_int (pa_cons pe_int (pa_cons (pv 0) pa_nil)))) pa_nil))))))) (pg_tup (by rfl) (pgs_cons (pg_name (i := 1) sc__law_colours_right.nd rfl (Or.inr rfl)) (pgs_cons (pg_name (i := 2) sc__law_colours_right.nd rfl (Or.inr rfl)) (pgs_cons (pg_name (i := 3) sc__law_colours_right.nd rfl (Or.inr rfl)) pgs_nil)))) (pss_cons (ps_set (i := 4) sc__law_colours_right.nd rfl (Or.inl rfl) (pe_ifExp (pt_cmpR op_lt (pv 3) pe_int (nomark _)) (pe_lc (own := [("_law_colour", 5)]) (by rfl) sc__law_colours_right.nd (pi_range1 (by rfl) B.range (pa_cons (pv 3) pa_nil)) (blkOk_by (own := [("_law_colour", 5)]) (N := ["_law_far", "_law_length", "_law_width", "_law_size", "_law_some", "_law_colour", "_law_bad"]) (sc := defScope s__law_colours_right) (by decide +kernel)) (fun _ _ _ _ _ => (pg_name (i := 5) sc__law_colours_right.nd rfl (Or.inl rfl))) (fun _ _ _ _ _ => pts_nil) (fun _ _ _ _ _ => (pe_fn h_alike (hr.mono (by decide)) pass0 (pa_cons (pv 1) (pa_cons (pv 2) (pa_cons (pv 3) (pa_cons (pv 5) pa_nil))))))) (pe_lst (pa_cons (pe_op op_mulX (pv 1) (pv 2)) pa_nil))))
      (pss_one (ps_if (pt_cmpR op_ne (pe_callB (cr_sum rfl) (by rfl) B.sum (by decide +kernel) (pa_cons (pv 4) pa_nil)) (pe_op op_mulX (pv 1) (pv 2)) (nomark _)) (pss_one (ps_ret pe_bl)) pss_nil))))
      (pss_cons (ps_if (PW.pt (pw_or (pt_cmpR op_ne (pe_fn h_alike (hr.mono (by decide)) pass0 (pa_cons pe_int (pa_cons pe_int (pa_cons (pv 0) (pa_cons pe_int pa_nil))))) pe_int (nomark _)) (pw_or (pt_cmpR op_ne (pe_fn h_alike (hr.mono (by decide)) pass0 (pa_cons pe_int (pa_cons pe_int (pa_cons (pv 0) (pa_cons pe_int pa_nil))))) pe_int (nomark _)) (pw_or1 (pt_cmpR op_ne (pe_fn h_alike (hr.mono (by decide)) pass0 (pa_cons pe_int (pa_cons pe_int (pa_cons (pv 0) (pa_cons pe_int pa_nil))))) pe_int (nomark _)))))) (pss_one (ps_ret pe_bl)) pss_nil)
      (pss_cons (ps_if (PW.pt (pw_or (pt_cmpR op_ne (pe_fn h_alike (hr.mono (by decide)) pass0 (pa_cons pe_int (pa_cons pe_int (pa_cons (pv 0) (pa_cons pe_int pa_nil))))) pe_int (nomark _)) (pw_or1 (pt_cmpR op_ne (pe_fn h_alike (hr.mono (by decide)) pass0 (pa_cons (pe_op op_mulX pe_int (pv 0)) (pa_cons pe_int (pa_cons pe_int (pa_cons pe_int pa_nil))))) (pe_op op_mulX pe_int (pv 0)) (nomark _))))) (pss_one (ps_ret pe_bl)) pss_nil)
      (pss_cons (ps_if (pt_cmpR op_ne (pe_fn h_alike (hr.mono (by decide)) pass0 (pa_cons (pv 0) (pa_cons (pv 0) (pa_cons pe_int (pa_cons pe_int pa_nil))))) (pe_op op_mulX (pv 0) (pv 0)) (nomark _)) (pss_one (ps_ret pe_bl)) pss_nil)
      (pss_cons (ps_if (pt_cmpR (r := rNeD K) (op_neD hr.units) (pe_lc (own := [("_law_bad", 6)]) (by rfl) sc__law_colours_right.nd (pi_tup (pe_tup (pa_cons pe_int (pa_cons (pe_un un_neg pe_int) (pa_cons pe_bl (pa_cons pe_non pa_nil)))))) (blkOk_by (own := [("_law_bad", 6)]) (N := ["_law_far", "_law_length", "_law_width", "_law_size", "_law_some", "_law_colour", "_law_bad"]) (sc := defScope s__law_colours_right) (by decide +kernel)) (fun _ _ _ _ _ => (pg_name (i := 6) sc__law_colours_right.nd rfl (Or.inl rfl))) (fun _ _ _ _ _ => pts_nil) (fun _ _ _ _ _ => (pe_fn h__law_word (hr.mono (by decide)) pass0 (pa_cons (pe_lampN (q__law_colours_right) rfl TB rfl hmT hu rfl (by decide +kernel)) (pa_cons (pv 6) pa_nil))))) (pe_op op_rep (pe_lst (pa_cons pe_str pa_nil)) pe_int) (nomark _)) (pss_one (ps_ret pe_bl)) pss_nil)
      (pss_one (ps_ret (pe_cmpR op_eq (pe_fn h__law_word (hr.mono (by decide)) pass0 (pa_cons (pe_lampN (q__law_colours_right) rfl TB rfl hmT hu rfl (by decide +kernel)) (pa_cons pe_int pa_nil))) pe_str (nomark _)))))))))))), ?_⟩
    walk_at "rd"
    intro D0 hD0
    refine lc_range (lo := 0) (n := 2) (fun j H' => Same H H' ∧ H' D0 = some (.lst ((alL 2 2 2 j).map V.int))) ⟨same_upd hD0, upd_same⟩ ?_ ?_
    · rintro j Ha hj ⟨sma, eD⟩
      have e0 : (0 : Int) + (j : Int) = j := by omega
      refine ⟨rfl, lc_yes ?_⟩
      walk_at "rd"
      refine .mk (sz_lit (by decide) (by decide)) (sz_lit (by decide) (by decide)) (sz_lit (by decide) (by decide)) (.inl (ss_lit (by decide) (by decide)).bn) (.inl (ss_lit (by decide) (by decide)).bn) (by omega) (by omega) fun Hb smb => ?_
      refine ⟨_, smb _ _ eD, size3 (by rw [List.length_map, alL_len]; omega), same_mut2 (sma.trans smb) hD0, ?_⟩
      rw [upd_same, alL_succ, List.map_append, e0]
      rfl
    rintro H1 ⟨sm1, up_D0⟩
    walk_at "rd"
    intro r0 h_r0
    generalize hH2 : upd H1 r0 _ = H2
    obtain ⟨sm2, up_r0⟩ : Same H1 H2 ∧ H2 r0 = some (.lst ([(2 : Int), (2 : Int)].map V.int)) := newH hH2 h_r0
    clear hH2
    refine ⟨_, _, .lst (sqL (sm2 _ _ up_D0)) (dp_ints _), .lst (sqL up_r0) (dp_ints _), shp_ints _, shp_ints _, ?_⟩
    rw [show alL 2 2 2 2 = [2, 2] by decide +kernel, SeqAt.eqv_refl _ (by rfl)]
    walk_at "rd"
    intro D1 hD1
    refine lc_range (lo := 0) (n := 5) (fun j H' => Same H2 H' ∧ H' D1 = some (.lst ((alL 2 2 5 j).map V.int))) ⟨same_upd hD1, upd_same⟩ ?_ ?_
    · rintro j Ha hj ⟨sma, eD⟩
      have e0 : (0 : Int) + (j : Int) = j := by omega
      refine ⟨rfl, lc_yes ?_⟩
      walk_at "rd"
      refine .mk (sz_lit (by decide) (by decide)) (sz_lit (by decide) (by decide)) (sz_lit (by decide) (by decide)) (.inl (ss_lit (by decide) (by decide)).bn) (.inl (ss_lit (by decide) (by decide)).bn) (by omega) (by omega) fun Hb smb => ?_
      refine ⟨_, smb _ _ eD, size3 (by rw [List.length_map, alL_len]; omega), same_mut2 (sma.trans smb) hD1, ?_⟩
      rw [upd_same, alL_succ, List.map_append, e0]
      rfl
    rintro H3 ⟨sm3, up_D1⟩
    walk_at "rd"
    intro r1 h_r1
    generalize hH4 : upd H3 r1 _ = H4
    obtain ⟨sm4, up_r1⟩ : Same H3 H4 ∧ H4 r1 = some (.lst ([(1 : Int), (2 : Int), (1 : Int), (0 : Int), (0 : Int)].map V.int)) := newH hH4 h_r1
    clear hH4
    refine ⟨_, _, .lst (sqL (sm4 _ _ up_D1)) (dp_ints _), .lst (sqL up_r1) (dp_ints _), shp_ints _, shp_ints _, ?_⟩
    rw [show alL 2 2 5 5 = [1, 2, 1, 0, 0] by decide +kernel, SeqAt.eqv_refl _ (by rfl)]
    walk_at "rd"
    intro D2 hD2
    refine lc_range (lo := 0) (n := 3) (fun j H' => Same H4 H' ∧ H' D2 = some (.lst ((alL 1 4 3 j).map V.int))) ⟨same_upd hD2, upd_same⟩ ?_ ?_
    · rintro j Ha hj ⟨sma, eD⟩
      have e0 : (0 : Int) + (j : Int) = j := by omega
      refine ⟨rfl, lc_yes ?_⟩
      walk_at "rd"
      refine .mk (sz_lit (by decide) (by decide)) (sz_lit (by decide) (by decide)) (sz_lit (by decide) (by decide)) (.inl (ss_lit (by decide) (by decide)).bn) (.inl (ss_lit (by decide) (by decide)).bn) (by omega) (by omega) fun Hb smb => ?_
      refine ⟨_, smb _ _ eD, size3 (by rw [List.length_map, alL_len]; omega), same_mut2 (sma.trans smb) hD2, ?_⟩
      rw [upd_same, alL_succ, List.map_append, e0]
      rfl
    rintro H5 ⟨sm5, up_D2⟩
    walk_at "rd"
    intro r2 h_r2
    generalize hH6 : upd H5 r2 _ = H6
    obtain ⟨sm6, up_r2⟩ : Same H5 H6 ∧ H6 r2 = some (.lst ([(2 : Int), (1 : Int), (1 : Int)].map V.int)) := newH hH6 h_r2
    clear hH6
    refine ⟨_, _, .lst (sqL (sm6 _ _ up_D2)) (dp_ints _), .lst (sqL up_r2) (dp_ints _), shp_ints _, shp_ints _, ?_⟩
    rw [show alL 1 4 3 3 = [2, 1, 1] by decide +kernel, SeqAt.eqv_refl _ (by rfl)]
    walk_at "rd"
    intro t1 h_t1
    generalize hH7 : upd H6 t1 _ = H7
    obtain ⟨sm7, up_t1⟩ : Same H6 H7 ∧ H7 t1 = some (.tup [.int far, .int (far + 1), .int 7]) := newH hH7 h_t1
    clear hH7
    walk_at "rd"
    intro t2 h_t2
    generalize hH8 : upd H7 t2 _ = H8
    obtain ⟨sm8, up_t2⟩ : Same H7 H8 ∧ H8 t2 = some (.tup [.int far, .int 3, .int 7]) := newH hH8 h_t2
    clear hH8
    walk_at "rd"
    intro t3 h_t3
    generalize hH9 : upd H8 t3 _ = H9
    obtain ⟨sm9, up_t3⟩ : Same H8 H9 ∧ H9 t3 = some (.tup [.int 2, .int far, .int 7]) := newH hH9 h_t3
    clear hH9
    walk_at "rd"
    intro t4 h_t4
    generalize hH10 : upd H9 t4 _ = H10
    obtain ⟨sm10, up_t4⟩ : Same H9 H10 ∧ H10 t4 = some (.tup [.int far, .int far, .int 1]) := newH hH10 h_t4
    clear hH10
    walk_at "rd"
    intro t5 h_t5
    generalize hH11 : upd H10 t5 _ = H11
    obtain ⟨sm11, up_t5⟩ : Same H10 H11 ∧ H11 t5 = some (.tup [.int 3, .int 4, .int far]) := newH hH11 h_t5
    clear hH11
    walk_at "rd"
    intro T h_T
    generalize hH12 : upd H11 T _ = H12
    obtain ⟨sm12, up_T⟩ : Same H11 H12 ∧ H12 T = some (.tup [.ref t1, .ref t2, .ref t3, .ref t4, .ref t5]) := newH hH12 h_T
    clear hH12
    have hcs : ∀ x ∈ [V.ref t1, .ref t2, .ref t3, .ref t4, .ref t5], ColAt H12 x := by
      refine allc ?_ <| allc ?_ <| allc ?_ <| allc ?_ <| allc ?_ alln
      · exact ⟨t1, _, _, _, rfl, ((sm8.trans (sm9.trans (sm10.trans (sm11.trans sm12)))) _ _ up_t1), hf.sz, z1, (sz_lit (by decide) (by decide))⟩
      · exact ⟨t2, _, _, _, rfl, ((sm9.trans (sm10.trans (sm11.trans sm12))) _ _ up_t2), hf.sz, (sz_lit (by decide) (by decide)), (sz_lit (by decide) (by decide))⟩
      · exact ⟨t3, _, _, _, rfl, ((sm10.trans (sm11.trans sm12)) _ _ up_t3), (sz_lit (by decide) (by decide)), hf.sz, (sz_lit (by decide) (by decide))⟩
      · exact ⟨t4, _, _, _, rfl, ((sm11.trans sm12) _ _ up_t4), hf.sz, hf.sz, (sz_lit (by decide) (by decide))⟩
      · exact ⟨t5, _, _, _, rfl, (sm12 _ _ up_t5), (sz_lit (by decide) (by decide)), (sz_lit (by decide) (by decide)), hf.sz⟩
    have eT := up_T
    have s0 : Same H H12 := (sm1.trans (sm2.trans (sm3.trans (sm4.trans (sm5.trans (sm6.trans (sm7.trans (sm8.trans (sm9.trans (sm10.trans (sm11.trans sm12)))))))))))
    walk_at "rd"
    refine ⟨⟨_, sqT eT⟩, for_tup (K := K) (a := T) (xs := [V.ref t1, .ref t2, .ref t3, .ref t4, .ref t5]) (fun i σ H' => CoI far H12 σ H') (.mk fun _ _ z => z) ?_ ?_ ?_⟩
    · rintro i _ H' _ ⟨sm⟩
      exact sqT (sm _ _ eT)
    · rintro i x _ Ha hi @⟨_, y1, y2, y3, y4, sma⟩
      obtain ⟨t, L, W, sz, rfl, ht, hL, hW, hs⟩ := hcs x (List.mem_of_getElem? hi)
      have cLW : CMulX L W := Bn.mulOk hL.bn hW.bn (by decide)
      have ps := hs.pos
      refine ⟨t, _, rfl, sqT (sma _ _ ht), rfl, ?_⟩
      walk_at "rd"
      refine iteD (fun c => ?_) (fun c => ?_)
      · have c : sz < 10 := c
        walk_at "rd"
        intro D hD
        refine lc_range (lo := 0) (n := sz.toNat) (fun j H' => Same Ha H' ∧ H' D = some (.lst ((alL L W sz j).map V.int))) ⟨same_upd hD, upd_same⟩ ?_ ?_
        · rintro j Hb hj ⟨smb, eD⟩
          have e0 : (0 : Int) + (j : Int) = j := by omega
          refine ⟨rfl, lc_yes ?_⟩
          walk_at "rd"
          refine .mk hL hW hs (.inl (ss_lit ps (by omega)).bn) (.inl (ss_lit ps (by omega)).bn) (by omega) (by omega) fun Hc smc => ?_
          refine ⟨_, smc _ _ eD, size3 (by rw [List.length_map, alL_len]; omega), same_mut2 (smb.trans smc) hD, ?_⟩
          rw [upd_same, alL_succ, List.map_append, e0]
          rfl
        rintro Hb ⟨smb, eD⟩
        walk_at "rd"
        refine ⟨D, _, rfl, sqL eD, ?_⟩
        rw [alL_sum, sum_alike ps (by omega) (Int.le_of_lt hW.pos)]
        walk_at "rd"
        refine iteNe (fun z => absurd rfl z) (fun _ => ?_)
        exact .mk (sma.trans smb)
      · walk_at "rd"
        intro l1 hl1
        generalize hH1 : upd Ha l1 _ = Hb
        obtain ⟨smb, ul⟩ : Same Ha Hb ∧ Hb l1 = some (.lst ([L * W].map V.int)) := newH hH1 hl1
        clear hH1
        walk_at "rd"
        refine ⟨l1, [L * W], rfl, sqL ul, ?_⟩
        rw [show [L * W].sum = L * W by simp]
        walk_at "rd"
        refine iteNe (fun z => absurd rfl z) (fun _ => ?_)
        exact .mk (sma.trans smb)
    · rintro _ H200 @⟨_, y1, y2, y3, y4, sm200⟩
      walk_at "rd"
      refine .mk (sz_lit (by decide) (by decide)) (sz_lit (by decide) (by decide)) hf.sz (.inr (by omega)) (.inr (by omega)) (by omega) (by omega) fun H201 sm201 => ?_
      rw [alike_far flo (by decide) (by decide)]
      walk_at "rd"
      walk_at "rd"
      refine .mk (sz_lit (by decide) (by decide)) (sz_lit (by decide) (by decide)) hf.sz (.inr (by omega)) (.inr (by omega)) (by omega) (by omega) fun H202 sm202 => ?_
      rw [alike_far flo (by decide) (by decide)]
      walk_at "rd"
      walk_at "rd"
      refine .mk (sz_lit (by decide) (by decide)) (sz_lit (by decide) (by decide)) hf.sz (.inr (by omega)) (.inr (by omega)) (by omega) (by omega) fun H203 sm203 => ?_
      rw [alike_far flo (by decide) (by decide)]
      walk_at "rd"
      walk_at "rd"
      refine .mk (sz_lit (by decide) (by decide)) (sz_lit (by decide) (by decide)) hf.sz (.inr (by omega)) (.inr (by omega)) (by omega) (by omega) fun H204 sm204 => ?_
      rw [alike_far flo (by decide) (by decide)]
      walk_at "rd"
      walk_at "rd"
      refine .mk z7 (sz_lit (by decide) (by decide)) (sz_lit (by decide) (by decide)) (.inl (ss_lit (by decide) (by decide)).bn) (.inl (ss_lit (by decide) (by decide)).bn) (by omega) (by omega) fun H205 sm205 => ?_
      rw [alike_seven flo]
      walk_at "rd"
      refine iteNe (fun z => absurd rfl z) (fun _ => ?_)
      walk_at "rd"
      refine .mk hf.sz hf.sz (sz_lit (by decide) (by decide)) (.inl (ss_lit (by decide) (by decide)).bn) (.inl (ss_lit (by decide) (by decide)).bn) (by omega) (by omega) fun H206 sm206 => ?_
      rw [alike_one]
      walk_at "rd"
      refine iteNe (fun z => absurd rfl z) (fun _ => ?_)
      have hT2 : Tabs (tabs K) H206 := hT.ext (s0.trans (sm200.trans (sm201.trans (sm202.trans (sm203.trans (sm204.trans (sm205.trans sm206)))))))
      walk_at "rd"
      intro t3 ht3
      generalize hH3 : upd H206 t3 _ = Hf
      obtain ⟨smf, upf⟩ : Same H206 Hf ∧ Hf t3 = some (.tup [.int 5, .int (-1), .bl true, .non]) := newH hH3 ht3
      clear hH3
      have hTf : Tabs (tabs K) Hf := hT2.ext smf
      have hbz : ∀ x ∈ [V.int 5, .int (-1), .bl true, .non], ∀ H : Hp, BadK 5 H x := by
        refine allc ?_ <| allc ?_ <| allc ?_ <| allc ?_ alln
        · exact fun _ => .out (by decide)
        · exact fun _ => .out (by decide)
        · exact fun _ => .kd (.bl true) (by decide)
        · exact fun _ => .kd .non (by decide)
      have hw4 := words_shp (x := "colour") (by decide +kernel) 4
      refine ⟨t3, rfl, ⟨_, sqT upf⟩, fun D3 hD3 => ?_⟩
      refine lc_tup (K := K) (a := t3) (xs := [V.int 5, .int (-1), .bl true, .non]) (WdI (tabs K) Hf D3 4 fun j => List.replicate j "colour") (WdI.start hTf hD3 rfl) (fun j H' _ i => sqT (ext_tup i.ex upf)) ?_ ?_
      · rintro j x Hc hj i
        have hx := hbz x (List.mem_of_getElem? hj)
        have hj6 : j < 4 := (List.getElem?_eq_some_iff.mp hj).1
        refine ⟨rfl, lc_yes ?_⟩
        refine ⟨i.hT, fun fl c Hd eNd hTd nf hf hc => ?_⟩
        walk_at "rd"
        refine .mk (x := "_law_it") (Ok := fun H v => BadK 5 H v) (e := .colour) ?_ ⟨hf, hc⟩ rfl (by decide) (hx _) fun He sme => i.turn hD3 (by decide) (by rw [List.length_replicate]; omega) (eNd.trans (ExtN.of sme)) (hTd.ext sme) List.replicate_succ'
        exact lok_rz (nscope_by (by dsimp only; decide +kernel)) (fun _ _ us hl => match us, hl with | [_], _ => rfl) (fun A outer s H E hr => pe_fn hk_alike (hr.mono (by decide)) passW (pa_cons pe_int (pa_cons pe_int (pa_cons pe_int (pa_cons (pv 0) pa_nil))))) (fun H v Q E hv x => ⟨_, rfl, .mk (by decide) (by decide) (by decide) hv x⟩)
      intro Hg i
      have eD3 : Hg D3 = some (.lst ((List.replicate 4 ("colour" : Str)).map V.str)) := i.eD
      have hTg := i.hT
      clear i
      walk_at "rd"
      intro l4 hl4
      generalize hH4 : upd Hg l4 _ = Hh
      obtain ⟨smh, uph⟩ : Same Hg Hh ∧ Hh l4 = some (.lst [.str "colour"]) := newH hH4 hl4
      clear hH4
      refine ⟨l4, 4, _, rfl, rfl, uph, by decide, by decide, size4 (by decide), fun l5 hl5 => ?_⟩
      generalize hH5 : upd Hh l5 _ = Hi
      obtain ⟨smi, upi⟩ : Same Hh Hi ∧ Hi l5 = some (.lst ((List.replicate 4 ("colour" : Str)).map V.str)) := newH hH5 hl5
      clear hH5
      refine ⟨_, _, .lst (sqL (smi _ _ (smh _ _ eD3))) (dp_strs _), .lst (sqL upi) (dp_strs _), hw4.ok (by decide), hw4.ok (by decide), ?_⟩
      rw [SeqAt.eqv_refl _ hw4.c]
      have hTi : Tabs (tabs K) Hi := hTg.ext (smh.trans smi)
      walk_at "rd"
      intro fl c Hj eNj hTj nf hf hc
      walk_at "rd"
      refine .mk (x := "_law_it") (Ok := fun _ v => v = .int 0) (e := .size) ?_ ⟨hf, hc⟩ rfl (by decide) rfl fun Hk smk => ?_
      · exact lok_rz (nscope_by (by dsimp only; decide +kernel)) (fun _ _ us hl => match us, hl with | [_], _ => rfl) (fun A outer s H E hr => pe_fn hs_alike (hr.mono (by decide)) passW (pa_cons pe_int (pa_cons pe_int (pa_cons (pv 0) (pa_cons pe_int pa_nil))))) (fun H v Q E hv x => ⟨_, rfl, SpSz.mk (xs := [.int 2, .int 2, v]) (ys := [.int 9]) rfl rfl (.next (by decide) (.next (by decide) (.here (by rw [hv]; exact .low (by decide))))) x⟩)
      walk_at "rd"
      exact q _ (hTj.ext smk)
end
end BF

/-! ### dicts whose keys are tuples of numbers, truths and tuples; sorted lists of bricks -/
namespace BF
open PySem PySem.Spec PyProof.Rows L2
mutual
/-- the thing v is the key k -/
inductive KyIs (H : Hp) : NestedKey → V → Prop where
  | int (i : Int) : KyIs H (.num i) (.int i)
  | bl (b : Bool) : KyIs H (.num (if b = true then 1 else 0)) (.bl b)
  | tup {a : Addr} {vs : List V} {ks : List NestedKey} : H a = some (.tup vs) → KyAll H ks vs → KyIs H (.tup ks) (.ref a)
inductive KyAll (H : Hp) : List NestedKey → List V → Prop where
  | nil : KyAll H [] []
  | cons {k : NestedKey} {v : V} {ks : List NestedKey} {vs : List V} : KyIs H k v → KyAll H ks vs → KyAll H (k :: ks) (v :: vs)
end
mutual
theorem KyIs.is {P : Program} {w : World} {H : Hp} {h : Heap} (ok : HOk P w H h) : ∀ (k : NestedKey) (v : V) (u : Value), KyIs H k v → RelV v u → NestedIs h k u
  | .none, _, _, hk, _ => by cases hk
  | .text _, _, _, hk, _ => by cases hk
  | .num i, v, u, hk, r => by
    cases hk with
    | int =>
      obtain ⟨t, rfl⟩ := (show ∃ t, u = Value.int i t from r)
      exact .int i t
    | bl b =>
      obtain rfl := (show u = Value.bool b from r)
      exact .bool rfl
  | .tup ks, v, u, hk, r => by
    cases hk with
    | @tup a vs _ ha hs =>
      obtain rfl := (show u = Value.ref a from r)
      obtain ⟨_, its, rv, o, ho, hc, n, hd⟩ := ok _ _ ha
      exact .tup ho hc hd (KyAll.is ok ks vs its hs rv)
theorem KyAll.is {P : Program} {w : World} {H : Hp} {h : Heap} (ok : HOk P w H h) : ∀ (ks : List NestedKey) (vs : List V) (us : List Value), KyAll H ks vs → Vals vs us → NestedAll h ks us
  | [], _, _, hk, r => by
    cases hk
    cases r
    exact .nil
  | k :: ks, _, _, hk, r => by
    cases hk with
    | cons h1 h2 =>
      cases r with
      | cons r1 r2 => exact .cons (KyIs.is ok k _ _ h1 r1) (KyAll.is ok ks _ _ h2 r2)
end
mutual
theorem KyIs.mono {H H' : Hp} (sm : ∀ b xs, H b = some (.tup xs) → H' b = some (.tup xs)) : ∀ (k : NestedKey) (v : V), KyIs H k v → KyIs H' k v
  | .none, _, hk => by cases hk
  | .text _, _, hk => by cases hk
  | .num i, v, hk => by
    cases hk with
    | int => exact .int i
    | bl b => exact .bl b
  | .tup ks, v, hk => by
    cases hk with
    | tup ha hs => exact .tup (sm _ _ ha) (KyAll.mono sm ks _ hs)
theorem KyAll.mono {H H' : Hp} (sm : ∀ b xs, H b = some (.tup xs) → H' b = some (.tup xs)) : ∀ (ks : List NestedKey) (vs : List V), KyAll H ks vs → KyAll H' ks vs
  | [], _, hk => by
    cases hk
    exact .nil
  | k :: ks, _, hk => by
    cases hk with
    | cons h1 h2 => exact .cons (KyIs.mono sm k _ h1) (KyAll.mono sm ks _ h2)
end
abbrev NEnt := NestedKey × Addr × V
def NRel (p : NEnt) (q : NestedKey × Addr × Value) : Prop := p.1 = q.1 ∧ p.2.1 = q.2.1 ∧ RelV p.2.2 q.2.2
/-- a dict with the entries xs: key, the key's tuple, value -/
def DN (P : Program) (w : World) (d : Addr) (xs : List NEnt) : HO := .ext fun h => xs.length ≤ sizeLine ∧ (d == sysModules) = false ∧ ∃ vs, Paired NRel xs vs ∧
  ∃ o es ep, h.get? d = some o ∧ o.ExactDict ∧ o.data = .dict es ep ∧ es.toList = vs.map (entryOfKey (nestedKind P w)) ∧ (vs.map (·.1)).Nodup
def KeysAt (H : Hp) (xs : List NEnt) : Prop := ∀ x ∈ xs, KyIs H x.1 (.ref x.2.1) ∧ x.1.depth ≤ 8
theorem dn_ok {P : Program} {w : World} {H : Hp} {h : Heap} {d : Addr} {xs : List NEnt} {vs : List (NestedKey × Addr × Value)} (z : xs.length ≤ sizeLine) (hd : (d == sysModules) = false) (r : Paired NRel xs vs) {o : Obj} {es : Array DictEntry} {ep : Nat}
    (h1 : h.get? d = some o) (h2 : o.ExactDict) (h3 : o.data = .dict es ep) (h4 : es.toList = vs.map (entryOfKey (nestedKind P w))) (h5 : (vs.map (·.1)).Nodup) : ObjOk P w H h d (DN P w d xs) :=
  ⟨⟨z, hd, vs, r, o, es, ep, h1, h2, h3, h4, h5⟩, ⟨o, h1⟩, fun _ _ ⟨z, hd, vs, r, o, es, ep, h1, h2⟩ st => ⟨z, hd, vs, r, o, es, ep, st o h1, h2⟩⟩
theorem paired_right {α β : Type} {F : α → β → Prop} : ∀ {l₁ : List α} {l₂ : List β}, Paired F l₁ l₂ → ∀ y ∈ l₂, ∃ x ∈ l₁, F x y
  | _, _, .nil, y, h => nomatch h
  | _, _, .cons r t, y, h => by
    rcases List.mem_cons.mp h with rfl | h
    · exact ⟨_, List.mem_cons_self, r⟩
    · obtain ⟨x, hx, f⟩ := paired_right t y h
      exact ⟨x, List.mem_cons_of_mem _ hx, f⟩
theorem dn_of {P : Program} {w : World} {H : Hp} {h : Heap} {d : Addr} {xs : List NEnt} (ok : HOk P w H h) (e : H d = some (DN P w d xs)) (hk : KeysAt H xs) :
    xs.length ≤ sizeLine ∧ (d == sysModules) = false ∧ ∃ vs, Paired NRel xs vs ∧ h.DictOfH (nestedKind P w) d vs := by
  obtain ⟨⟨z, hd, vs, r, o, es, ep, h1, h2, h3, h4, h5⟩, _, _⟩ := ok d _ e
  refine ⟨z, hd, vs, r, o, es, ep, h1, h2, h3, h4, fun y hy => ?_, h5⟩
  obtain ⟨x, hx, e1, e2, _⟩ := paired_right r y hy
  obtain ⟨k1, k2⟩ := hk x hx
  rw [← e1, ← e2]
  exact ⟨KyIs.is ok _ _ _ k1 rfl, k2⟩
/-- d[k] = v -/
def putN (xs : List NEnt) (k : NestedKey) (b : Addr) (v : V) : List NEnt := if (xs.any fun x => decide (x.1 = k)) = true then xs.map (fun x => if x.1 = k then (x.1, x.2.1, v) else x) else xs ++ [(k, b, v)]
/-- d[k] -/
def atN (xs : List NEnt) (k : NestedKey) : Option V := (xs.find? fun x => decide (x.1 = k)).map (·.2.2)
theorem putN_len (xs : List NEnt) (k : NestedKey) (b : Addr) (v : V) : (putN xs k b v).length ≤ xs.length + 1 := by
  unfold putN
  split
  · rw [List.length_map]
    omega
  · rw [List.length_append]
    exact Nat.le_refl _
theorem nrel_at {xs : List NEnt} {vs : List (NestedKey × Addr × Value)} (r : Paired NRel xs vs) (k : NestedKey) : RelO (atN xs k) ((atKey vs k).map (·.2)) ∧ (xs.any fun x => decide (x.1 = k)) = (atKey vs k).isSome := by
  induction r with
  | nil => exact ⟨trivial, rfl⟩
  | @cons a b l₁ l₂ h t ih =>
    obtain ⟨e1, e2, e3⟩ := h
    unfold atN atKey at *
    by_cases c : a.1 = k
    · have c' : b.1 = k := e1 ▸ c
      simp only [List.find?_cons, List.any_cons, decide_eq_true c, decide_eq_true c', Bool.true_or]
      exact ⟨e3, rfl⟩
    · have c' : ¬ b.1 = k := fun z => c (e1.trans z)
      simp only [List.find?_cons, List.any_cons, decide_eq_false c, decide_eq_false c', Bool.false_or]
      exact ih
theorem nrel_map {k : NestedKey} {v : V} {u : Value} (rv : RelV v u) : ∀ {xs : List NEnt} {vs : List (NestedKey × Addr × Value)}, Paired NRel xs vs → Paired NRel (xs.map fun x => if x.1 = k then (x.1, x.2.1, v) else x) (vs.map (putAt k u))
  | _, _, .nil => .nil
  | _, _, .cons (a := a) (b := b) h t => by
    obtain ⟨e1, e2, e3⟩ := h
    refine .cons ?_ (nrel_map rv t)
    show NRel (if a.1 = k then (a.1, a.2.1, v) else a) (if b.1 = k then (b.1, b.2.1, u) else b)
    by_cases c : a.1 = k
    · rw [if_pos c, if_pos (e1 ▸ c)]
      exact ⟨e1, e2, rv⟩
    · rw [if_neg c, if_neg (fun z => c (e1.trans z))]
      exact ⟨e1, e2, e3⟩
theorem nrel_put {xs : List NEnt} {vs : List (NestedKey × Addr × Value)} (r : Paired NRel xs vs) (k : NestedKey) (b : Addr) {v : V} {u : Value} (rv : RelV v u) : Paired NRel (putN xs k b v) (storedH vs k b u) := by
  unfold putN storedH
  rw [(nrel_at r k).2]
  split
  · exact nrel_map rv r
  · exact r.snoc ⟨rfl, rfl, rv⟩
theorem nrel_refs : ∀ {xs : List NEnt} {vs : List (NestedKey × Addr × Value)}, Paired NRel xs vs → (xs.map fun x => V.ref x.2.1) = (vs.map fun x => x.2.1).map V.ref
  | _, _, .nil => rfl
  | _, _, .cons h t => by rw [List.map_cons, List.map_cons, List.map_cons, nrel_refs t, h.2.1]
def tDNewN (P : Program) (w : World) : TE := fun _ H Q => ∀ p, H p = none → Q (.ref p) (upd H p (DN P w p []))
def sDPutN (P : Program) (w : World) (td ty tv : TE) : TS := fun D σ H => tv σ H fun v H1 => td σ H1 fun x H2 => ty σ H2 fun y H3 => ∃ a b k xs, x = .ref a ∧ y = .ref b ∧ H3 a = some (DN P w a xs) ∧ KeysAt H3 xs ∧ KyIs H3 k (.ref b) ∧ k.depth ≤ 8 ∧ xs.length < sizeLine ∧
  D.nx σ (upd H3 a (DN P w a (putN xs k b v)))
section
variable {X : Cx} {o i e value : Expr} {pos pos' tpos : Pos} {td ty tv : TE}
theorem pe_dnewN : PE X (.Dict [] [] pos) (tDNewN X.prog X.w) := ⟨fun pins s σ H Q I h =>
  wpAny_Dict_empty ⟨.ref s.heap.objs.size, _, I.laid (a := s.heap.objs.size) (o := DN X.prog X.w s.heap.objs.size []) (t' := s.toks) (fun _ _ q => Heap.get?_push_of_some _ q) (Nat.le_refl _)
    (dn_ok (vs := []) (Nat.zero_le _) (beq_eq_false_iff_ne.mpr (Ne.symm (Nat.ne_of_lt I.big))) .nil (Heap.get?_push_size _ rfl) ⟨rfl, rfl, rfl⟩ rfl rfl List.nodup_nil), rfl, h _ (I.hok.fresh (Nat.le_refl _))⟩⟩
theorem ps_dputN (hu : X.A.units + 64 < cLine) (ho : PE X o td) (hi : PE X i ty) (hv : PE X value tv) (hs : swapsWith value (some (.Subscript o i pos')) pos.line X.env = pure false := by rfl) :
    PS X (.Assign [.Subscript o i pos'] value pos) (sDPutN X.prog X.w td ty tv) := by
  refine ⟨fun pins s σ H D I h => ?_⟩
  refine wpAny_Assign_Subscript (thn (hv.run pins s σ H _ I h) fun r s1 ⟨v, H1, I1, rv, q1⟩ => thn (ho.run pins s1 σ H1 _ I1 q1) fun u s2 ⟨x, H2, I2, rx, q2⟩ => thn (hi.run pins s2 σ H2 _ I2 q2) fun iv s3 ⟨y, H3, I3, ry, a, b, k, xs, ex, ey, hd, hk, kb, kd, hl, q3⟩ => ?_) hs
  subst ex ey
  obtain rfl : u = Value.ref a := rx
  obtain rfl : iv = Value.ref b := ry
  obtain ⟨z, hsm, vs, rel, dd⟩ := dn_of I3.hok hd hk
  have hz : vs.length ≤ sizeLine := by rw [← Paired.length rel]; exact z
  have hl' : (putN xs k b v).length ≤ sizeLine := by have := putN_len xs k b v; omega
  refine wpAny_setItem_heap (knd := nestedKind X.prog X.w) (hsz := hz) (show X.A.units + 1 + 8 < cLine by omega) ⟨KyIs.is I3.hok _ _ _ kb rfl, kd⟩ dd fun h' dd' hs => ?_
  obtain ⟨q, es, ep, hq, h2, h3, h4, _, h5⟩ := dd'
  exact ⟨σ, _, d_write I3 (by rw [hd]; exact True.intro) hs ⟨q, hq⟩ (dn_ok hl' hsm (nrel_put rel k b rv) hq h2 h3 h4 h5), q3⟩
theorem call_list_dN (hc : X.calm = true) : CallR X (.type "list") (fun xs H Q => ∃ d ns, xs = [V.ref d] ∧ H d = some (DN X.prog X.w d ns) ∧ ∀ p, H p = none → Q (.ref p) (upd H p (.lst (ns.map fun x => V.ref x.2.1)))) := by
  intro pins s σ H xs us Q I r h
  obtain ⟨d, kvs, rfl, hd, q⟩ := h
  obtain ⟨u, rfl, rx⟩ := r.one
  cases rx
  obtain ⟨⟨z, hs, ks, pr, o, es, ep, ho, hx, hdt, he, hn⟩, _, _⟩ := I.hok d _ hd
  have l1 : es.size = ks.length := size_of_entries he
  have l2 : kvs.length = ks.length := Paired.length pr
  refine PySem.W.kdl_call (kdl_raw hs hx hdt) (I.ok.hd hc) ho (by omega) fun h' tk acc' c' kp e it => ?_
  have ea : acc'.toList = ks.map fun x => Value.ref x.2.1 := by
    have hl : acc'.toList.length = ks.length := by rw [Array.length_toList, it.1]; exact l1
    apply List.ext_getElem?
    intro j
    rw [List.getElem?_map]
    cases hj : acc'.toList[j]? with
    | none =>
      have h1 := List.getElem?_eq_none_iff.mp hj
      rw [List.getElem?_eq_none (by omega)]
      all_goals rfl
    | some v =>
      obtain ⟨en, hen, hv⟩ := it.2 j v (by rw [← Array.getElem?_toList]; exact hj)
      have qe := entry_at he j
      rw [hen] at qe
      cases hb : ks[j]? with
      | none =>
        rw [hb] at qe
        exact nomatch (show some en = none from qe)
      | some b =>
        rw [hb] at qe
        have e2 : en = entryOfKey (nestedKind X.prog X.w) b := Option.some.inj qe
        rw [hv, e2]
        all_goals rfl
  have eq2 := nrel_refs pr
  have eb : acc'.toList = (ks.map fun x => x.2.1).map Value.ref := by rw [ea, List.map_map]; all_goals rfl
  have rv : Vals ((ks.map fun x => x.2.1).map V.ref) acc'.toList := by rw [eb]; exact vals_refs _
  have hz : ((ks.map fun x => x.2.1).map V.ref).length ≤ sizeLine := by rw [List.length_map, List.length_map]; omega
  have q' := q s.heap.objs.size (I.hok.fresh (Nat.le_refl _))
  rw [eq2] at q'
  refine ⟨.ref s.heap.objs.size, _, I.laid (t' := tk) (o := .lst ((ks.map fun x => x.2.1).map V.ref)) kp (Nat.le_refl _) ?_, rfl, q'⟩
  exact ⟨hz, acc'.toList, c', rv, by rw [Array.toArray_toList]; exact e⟩
/-- sorted(bricks): the same bricks, in some order -/
def brD3 (b : Brick) : PyData := .tuple [.int b.x, .int b.y, .bool b.l]
def rSortedB (K : PySem.W.Frag) : List V → Hp → VK → Prop := fun vs H Q => ∃ a ps, vs = [V.ref a] ∧ SqL K H a (refs ps) ∧ BrAll K H ps ∧ ∀ qs p, List.Perm qs ps → H p = none → Q (.ref p) (upd H p (.lst (refs qs)))
theorem each_refs {P : Addr × Brick → Prop} : ∀ {ps : List (Addr × Brick)} {us : List Value}, Vals (refs ps) us → PySem.W.EachIs (fun v b => v = Value.ref b.1) us ps
  | [], _, r => by
    have r' : Vals [] _ := r
    cases r'
    exact .nil
  | p :: ps, _, r => by
    have r' : Vals (V.ref p.1 :: refs ps) _ := r
    cases r' with
    | cons h t => exact .cons h (each_refs (P := P) t)
theorem refs_each : ∀ {ps : List (Addr × Brick)} {us : List Value}, PySem.W.EachIs (fun v b => v = Value.ref b.1) us ps → Vals (refs ps) us
  | _, _, .nil => .nil
  | _, _, .cons h t => .cons h (refs_each t)
theorem each_all {R : Value → Addr × Brick → Prop} {S : Value → Addr × Brick → Prop} : ∀ {ps : List (Addr × Brick)} {us : List Value}, PySem.W.EachIs R us ps → (∀ p ∈ ps, ∀ v, R v p → S v p) → PySem.W.EachIs S us ps
  | _, _, .nil, _ => .nil
  | _, _, .cons h t, f => .cons (f _ List.mem_cons_self _ h) (each_all t fun p hp => f p (List.mem_cons_of_mem _ hp))
theorem cr_sortedB (hu : X.A.units + 64 < cLine) : CallR X (.builtin "sorted") (rSortedB X.K) := by
  intro pins s σ H vs us Q I r h
  obtain ⟨a, ps, rfl, hs, hb, q⟩ := h
  obtain ⟨its, rv, hl, hz⟩ := I.list hs
  rw [Vals.ref1 r]
  rw [refs_len] at hz
  have e := each_refs (P := fun _ => True) rv
  refine PySem.W.sorted_data (enc := fun p => brD3 p.2) hl.isList e (each_all e fun p hp v hv => ?_) (PySem.W.AllAlike.of fun b b' => ?_) (PySem.W.Sortable.tuples fun b => ⟨_, _, rfl⟩) hz (fun b hb => ?_) fun out h1 h2 => ?_
  · exact Dp.reads I _ _ _ (.tup (hb p hp) (.cons (.int _) (.cons (.int _) (.cons (.bl _) .nil)))) hv
  · rfl
  · have : (brD3 b.2).depth ≤ 2 := by simp [brD3, PyData.depth, PyData.depthAll]
    omega
  obtain ⟨ep, he'⟩ := PyProof.Rows.sortedAll_at s.heap its out.toArray
  have pm := List.mergeSort_perm ps (PySem.W.dataLe false fun p => brD3 p.2)
  have hlen : (refs (ps.mergeSort (PySem.W.dataLe false fun p => brD3 p.2))).length ≤ sizeLine := by
    rw [refs_len, pm.length_eq]
    exact hz
  exact ⟨.ref _, upd H (s.heap.objs.size + 1) (.lst (refs (ps.mergeSort (PySem.W.dataLe false fun p => brD3 p.2)))), I.laid (t' := s.toks) (fun _ _ => PyProof.Rows.sortedAll_old) (Nat.le_succ _) ⟨hlen, out, ep, refs_each h2, he'⟩, rfl, q _ _ pm (I.hok.fresh (Nat.le_succ _))⟩
end
end BF

/-! ### dicts with nested keys: d.get(k, x), d[k], len(d), for k in d -/
namespace BF
open PySem PySem.Spec PyProof.Rows L2
theorem dn_rd {P : Program} {w : World} {H : Hp} {h : Heap} {d : Addr} {xs : List NEnt} (ok : HOk P w H h) (e : Rd H d (DN P w d xs)) (hk : KeysAt H xs) :
    xs.length ≤ sizeLine ∧ (d == sysModules) = false ∧ ∃ vs, Paired NRel xs vs ∧ h.DictOfH (nestedKind P w) d vs := by
  obtain ⟨⟨z, hd, vs, r, o, es, ep, h1, h2, h3, h4, h5⟩, _, _⟩ := e.ok ok
  refine ⟨z, hd, vs, r, o, es, ep, h1, h2, h3, h4, fun y hy => ?_, h5⟩
  obtain ⟨x, hx, e1, e2, _⟩ := paired_right r y hy
  obtain ⟨k1, k2⟩ := hk x hx
  rw [← e1, ← e2]
  exact ⟨KyIs.is ok _ _ _ k1 rfl, k2⟩
theorem dn_ty {P : Program} {w : World} {H : Hp} {s : Shared} {d : Addr} {xs : List NEnt} (ok : HOk P w H s.heap) (e : Rd H d (DN P w d xs)) : s.TypeIs (.ref d) "dict" ∧ ∀ a, Value.ref d = .ref a → ∃ ob, s.heap.get? a = some ob ∧ ob.dict = none := by
  obtain ⟨⟨z, hd, vs, r, o, es, ep, h1, h2, h3, h4, h5⟩, _, _⟩ := e.ok ok
  refine ⟨⟨o, h1, h2.1⟩, fun a ea => ?_⟩
  cases ea
  exact ⟨o, h1, h2.2.1⟩
def tGetN (P : Program) (w : World) (td : TE) (t : TA) : TE := fun σ H Q => td σ H fun x H1 => ∃ a ns, x = .ref a ∧ Rd H1 a (DN P w a ns) ∧ t σ H1 fun vs H2 => ∃ b k d ns', vs = [.ref b, d] ∧ Rd H2 a (DN P w a ns') ∧ KeysAt H2 ns' ∧ KyIs H2 k (.ref b) ∧ k.depth ≤ 8 ∧ Q ((atN ns' k).getD d) H2
def tIxN (P : Program) (w : World) (td ty : TE) : TE := fun σ H Q => td σ H fun x H1 => ty σ H1 fun y H2 => ∃ a b k ns v, x = .ref a ∧ y = .ref b ∧ Rd H2 a (DN P w a ns) ∧ KeysAt H2 ns ∧ KyIs H2 k (.ref b) ∧ k.depth ≤ 8 ∧ atN ns k = some v ∧ Q v H2
def rLenN (P : Program) (w : World) : List V → Hp → VK → Prop := fun xs H Q => ∃ a ns, xs = [.ref a] ∧ Rd H a (DN P w a ns) ∧ KeysAt H ns ∧ Q (.int (ns.length : Nat)) H
/-- the keys of the locked dict at d, in their order -/
def ItN (P : Program) (w : World) (d : Addr) (o : Obj) (ns : List NEnt) : It :=
  ⟨fun i H => H d = some (.frz o (DN P w d ns)) ∧ i < ns.length, fun i H x H' => H' = H ∧ ∃ e, ns[i]? = some e ∧ x = .ref e.2.1, fun i H => H d = some (.frz o (DN P w d ns)) ∧ ns.length ≤ i⟩
def iKeysN (P : Program) (w : World) (td : TE) : TI := fun σ H R => td σ H fun x H1 => ∃ d o ns, x = .ref d ∧ H1 d = some (.frz o (DN P w d ns)) ∧ R (ItN P w d o ns) H1
section
variable {X : Cx} {o i e value : Expr} {es : List Expr} {pos pos' apos cpos : Pos} {td ty tv : TE} {t : TA}
theorem relO_getD {a : Option V} {b : Option Value} {v : V} {u : Value} (h : RelO a b) (r : RelV v u) : RelV (a.getD v) (b.getD u) := by
  cases a with
  | none =>
    cases b with
    | none => exact r
    | some _ => exact h.elim
  | some x =>
    cases b with
    | none => exact h.elim
    | some y => exact h
theorem pe_getN (hu : X.A.units + 64 < cLine) (ho : PE X o td) (ha : PA X (e :: es) t) (hbase : attributeBase o "get" X.env (eval o X.env) = eval o X.env := by rfl)
    (hfew : ((backTo cpos (starEach (e :: es) X.env)).all (fun x => !x.1) && (backToKw cpos (keywordEach [] X.env)).all (fun x => x.1.isSome)
      && decide ((e :: es).length + ([] : List Keyword).length + (if ([] : List Keyword).isEmpty then 0 else 1) < 30)) = true := by rfl)
    (hline : (apos.endLine == cpos.line) = true := by rfl) (hs : starEach (e :: es) X.env = (false, eval e X.env) :: starEach es X.env := by rfl) (hplain : (backTo cpos (starEach es X.env)).any (·.1) = false := by rfl) :
    PE X (.Call (.Attribute o "get" apos) (e :: es) [] cpos) (tGetN X.prog X.w td t) := by
  refine ⟨fun pins s σ H Q I h => ?_⟩
  refine wpAny_Call_method_late hbase hfew hline rfl (thn (ho.run pins s σ H _ I h) fun v s1 ⟨x, H1, I1, r1, a, ns, ex, hd, q1⟩ => ?_)
  subst ex
  obtain rfl : v = Value.ref a := r1
  obtain ⟨h1, h2⟩ := dn_ty I1.hok hd
  refine ⟨"dict", "dict.get", F.plainAttrs_dict, F.slot_dict_get, F.type_dict_get, h1, h2, ?_⟩
  have hA := ha.run cpos pins s1 σ H1 _ I1 q1
  rw [hs] at hA ⊢
  refine Calls.callWith_builtin (by show (false || (backTo cpos (starEach es X.env)).any (·.1)) = false; rw [hplain] <;> rfl) (Calls.evalArgs_plain ?_)
  refine thn hA fun us s2 ⟨vs, H2, I2, r2, b, k, d, ns', ev, hd2, hk, kb, kd, q2⟩ => ?_
  subst ev
  cases r2 with
  | cons rb rr =>
    cases rr with
    | @cons _ u2 _ _ rd rr =>
      cases rr
      cases rb
      obtain ⟨z, hsm, vs2, rel, dd⟩ := dn_rd I2.hok hd2 hk
      have key : (nestedKind X.prog X.w).is s2.heap k b := ⟨KyIs.is I2.hok _ _ _ kb rfl, kd⟩
      refine call_meetsIn F.slot_dict_get dd.typeIs F.entry_dict_get (F.args_dict_get_3 _ _ _) (meetsH_dict_get_default (nestedKind X.prog X.w) a b hsm u2) ⟨show X.A.units + 1 + 8 < cLine by omega, k, vs2, key, dd, ?_⟩
      exact ⟨_, H2, I2.tok _, relO_getD (nrel_at rel k).1 rd, q2⟩
theorem pe_ixN {P : Program} {w : World} (hP : X.prog = P) (hw : X.w = w) (hu : X.A.units + 64 < cLine) (ho : PE X o td) (hi : PE X i ty) (hs : NoSl i) : PE X (.Subscript o i pos) (tIxN P w td ty) := by
  subst hP hw
  refine ⟨fun pins s σ H Q I h => ?_⟩
  refine subD_of PySem.F.slot_dict_getitem.lookup hs (thn (ho.run pins s σ H _ I h) fun u s1 ⟨x, H1, I1, rx, q1⟩ => thn (hi.run pins s1 σ H1 _ I1 q1) fun iv s2 ⟨y, H2, I2, ry, a, b, k, ns, v, ex, ey, hd, hk, kb, kd, hv, q2⟩ => ?_)
  subst ex ey
  obtain rfl : u = Value.ref a := rx
  obtain rfl : iv = Value.ref b := ry
  obtain ⟨z, hsm, vs2, rel, dd⟩ := dn_rd I2.hok hd hk
  have rv := (nrel_at rel k).1
  rw [hv] at rv
  obtain ⟨w', hw, rw'⟩ := RelO.some_of (v := v) (o := (atKey vs2 k).map (·.2)) rv
  obtain ⟨p, hp, hp2⟩ := Option.map_eq_some_iff.mp hw
  refine ⟨dd.typeIs, wpAny_getItem_heap (knd := nestedKind X.prog X.w) (show X.A.units + 1 + 8 < cLine by omega) ⟨KyIs.is I2.hok _ _ _ kb rfl, kd⟩ dd hp ?_⟩
  rw [hp2]
  exact ⟨v, H2, I2.tok _, rw', q2⟩
theorem call_len_dN : CallR X (.builtin "len") (rLenN X.prog X.w) := by
  intro pins s σ H xs us Q I r h
  obtain ⟨p, kvs, rfl, hp, hk, q⟩ := h
  obtain ⟨u, rfl, rx⟩ := vals1 r
  obtain rfl : u = .ref p := rx
  obtain ⟨z, hd, ys, rel, dd⟩ := dn_rd I.hok hp hk
  have hl : kvs.length = ys.length := Paired.length rel
  refine call_len_dictH hd dd (by rw [← hl]; rw [sizeLine_eq] at z; omega) ?_
  rw [← hl]
  exact ⟨.int ((kvs.length : Nat) : Int), H, I.tok _, ⟨_, rfl⟩, q⟩
theorem frzN {pins : List (Addr × Obj)} {σ : L2.St} {H : Hp} {s : Shared} {d : Addr} {o : Obj} {ns : List NEnt} (I : Inv X pins σ H s) (h : H d = some (.frz o (DN X.prog X.w d ns))) :
    (d == sysModules) = false ∧ s.heap.get? d = some o ∧ o.ExactDict ∧ ∃ (es : Array DictEntry) (ep : Nat), o.data = .dict es ep ∧ es.size = ns.length ∧ ∀ (i : Nat) (e : NEnt), ns[i]? = some e → ∃ en : DictEntry, es[i]? = some en ∧ en.key = .ref e.2.1 := by
  obtain ⟨hd, ⟨z, hs, xs, pr, o', es, ep, ho, hx, hdt, he, _⟩, _, _⟩ := I.hok d _ h
  rw [hd] at ho
  cases ho
  refine ⟨hs, hd, hx, es, ep, hdt, ?_, fun i e hi => ?_⟩
  · have l1 : es.size = xs.length := size_of_entries he
    have l2 : ns.length = xs.length := Paired.length pr
    omega
  · obtain ⟨b, hb, e1, e2, _⟩ := paired_get pr hi
    have q := entry_at he i
    rw [hb] at q
    exact ⟨_, q, by rw [e2]; rfl⟩
end
section
variable {P : Program} {w : World} {K : PySem.W.Frag} {tg : Expr} {d : Addr} {o : Obj} {es : Array DictEntry} {ep : Nat}
theorem turn_keysN {ns : List NEnt} (it : Addr) (hod : o.data = .dict es ep) : Turn P w K tg (ItN P w d o ns) [it] it (fun i h => h.IsKeyIter it d i ns.length ep) where
  mem := by simp
  obj := fun i h st b hb => by
    have e : b = it := by simpa using hb
    subst e
    obtain ⟨oi, e, c, dd⟩ := st
    exact ⟨oi, e, fun v z => by rw [dd] at z; cases z⟩
  keep := fun i h h' st k => st.at fun oi e => k it (by simp) oi e
  item := by
    intro X hP hw hK hc i pins s σ H E I hf st hg
    subst hP hw hK
    obtain ⟨hd, hi⟩ := hg
    obtain ⟨f0, f1, f2, f3, f4, f5⟩ := hf it (by simp)
    obtain ⟨hs, hgd, hx, es', ep', hdt, hsz, ent⟩ := frzN I hd
    obtain ⟨rfl, rfl⟩ := dict_ep hod hdt
    obtain ⟨e0, he0⟩ : ∃ p, ns[i]? = some p := ⟨ns[i], List.getElem?_eq_getElem hi⟩
    obtain ⟨en, hen, hkey⟩ := ent i e0 he0
    refine next_key_item st hgd hdt hsz hen fun h' st' sb => ?_
    have I1 : Inv X pins σ H { s with heap := h' } := I.turned (t' := s.toks) (fun b ob hb e => (sb.2 b hb).trans e) f0 f1 f3 f4 f5
    obtain ⟨oi, e, c, dd⟩ := id st'
    exact ⟨en.key, rfl, go_of (s := { s with heap := h' }) e c dd (by decide) ⟨.ref e0.2.1, H, I1, hkey, ⟨rfl, e0, he0, rfl⟩, st', fun b hb => (hf b hb).1⟩⟩
  done := by
    intro X hP hw hK hc i pins s σ H E I hf st hg
    subst hP hw hK
    obtain ⟨hd, hi⟩ := hg
    obtain ⟨f0, f1, f2, f3, f4, f5⟩ := hf it (by simp)
    obtain ⟨hs, hgd, hx, es', ep', hdt, hsz, ent⟩ := frzN I hd
    obtain ⟨rfl, rfl⟩ := dict_ep hod hdt
    exact next_key_end (I.ok.hd hc) st hgd hdt hsz hi fun h' eb => ⟨rfl, I.turned (t' := s.toks) (fun b ob hb e => eb b ob hb e) f0 f1 f3 f4 f5⟩
  self := fun A i s Q E st h => by
    refine wpAny_pyIter_slot st.typeIs F.slot_dict_keyiterator_iter (wpAny_call_entry F.slot_dict_keyiterator_iter st.typeIs F.entry_dict_keyiterator_iter ?_ (F.args_dict_keyiterator_iter_1 _))
    show wpAny _ _ (ret (.ref it)) _ _ s
    exact wpAny_pure ⟨_, rfl, "dict_keyiterator", _, st.typeIs, F.slot_dict_keyiterator_next.lookup, h⟩
end
theorem pi_keysN {X : Cx} {tg e : Expr} {td : TE} (he : PE X e td) : PI X tg e (iKeysN X.prog X.w td) := by
  refine ⟨fun pins s σ H R I h => ?_⟩
  refine thn (he.run pins s σ H _ I h) fun u s1 ⟨x, H1, I1, rx, d, o, ns, ex, hd, q⟩ => ?_
  subst ex
  obtain rfl : u = Value.ref d := rx
  obtain ⟨hs, hgd, hx, es, ep, hdt, hsz, ent⟩ := frzN I1 hd
  refine iter_keys hs hgd hx hdt (pi_one (tk := s1.toks) I1 _ (turn_keysN _ hdt) ⟨_, Heap.get?_push_size _ rfl, rfl, ?_⟩ q)
  rw [hsz] <;> rfl
end BF

/-! ### k09: bricks gathered cell by cell -/
namespace BF
open PySem PySem.Spec PyProof.Rows L2
def eqB (a b : Brick) : Bool := decide (a.x = b.x) && (decide (a.y = b.y) && decide (a.l = b.l))
theorem eqB_iff {a b : Brick} : eqB a b = true ↔ a = b := by
  obtain ⟨x, y, l⟩ := a
  obtain ⟨u, v, m⟩ := b
  simp [eqB]
def addB (l : List Brick) (b : Brick) : List Brick := if (l.any fun c => eqB c b) = true then l else l ++ [b]
def gthB (f s : Int) (t : Nat) : Brick := ⟨((t / 20 : Nat) : Int) / f * f, ((t % 20 : Nat) : Int) / s * s, true⟩
def gath (f s : Int) : Nat → List Brick
  | 0 => []
  | t + 1 => addB (gath f s t) (gthB f s t)
def Four (f s : Int) : Prop := (f = 2 ∧ s = 5) ∨ (f = 4 ∧ s = 10) ∨ (f = 5 ∧ s = 2) ∨ (f = 1 ∧ s = 20)
theorem gath_full {f s : Int} (h : Four f s) : fullB 20 20 f s (gath f s 400) = true := by
  rcases h with ⟨rfl, rfl⟩ | ⟨rfl, rfl⟩ | ⟨rfl, rfl⟩ | ⟨rfl, rfl⟩ <;> decide +kernel
theorem gath_len {f s : Int} (h : Four f s) : ((gath f s 400).length : Int) * f * s = 400 := by
  rcases h with ⟨rfl, rfl⟩ | ⟨rfl, rfl⟩ | ⟨rfl, rfl⟩ | ⟨rfl, rfl⟩ <;> decide +kernel
theorem gath_lie (f s : Int) : ∀ t, ∀ b ∈ gath f s t, b.l = true
  | 0, b, h => nomatch h
  | t + 1, b, h => by
    unfold gath addB at h
    split at h
    · exact gath_lie f s t b h
    · rcases List.mem_append.mp h with z | z
      · exact gath_lie f s t b z
      · rw [List.mem_singleton.mp z]
        rfl
theorem gath_le (f s : Int) : ∀ t, (gath f s t).length ≤ t
  | 0 => Nat.le_refl _
  | t + 1 => by
    have := gath_le f s t
    unfold gath addB
    split
    · omega
    · rw [List.length_append]
      exact Nat.succ_le_succ this
theorem full_perm {L W f s : Int} {as bs : List Brick} (p : as.Perm bs) : fullB L W f s as = fullB L W f s bs := by
  unfold fullB oftN
  have e : ∀ c, (as.filter fun b => covB f s c b).length = (bs.filter fun b => covB f s c b).length := fun c => (p.filter _).length_eq
  rw [p.any_eq]
  congr 2
  funext c
  exact decide_eq_decide.mpr (by rw [show (List.filter (covB f s c) as).length = (List.filter (covB f s c) bs).length from (p.filter _).length_eq])
def kN (b : Brick) : NestedKey := .tup [.num b.x, .num b.y, .num (if b.l = true then 1 else 0)]
theorem kN_inj {a b : Brick} : kN a = kN b ↔ a = b := by
  refine ⟨fun h => ?_, fun h => by rw [h]⟩
  obtain ⟨x, y, l⟩ := a
  obtain ⟨u, v, m⟩ := b
  unfold kN at h
  injection h with h
  injection h with h1 h
  injection h with h2 h
  injection h with h3 h
  injection h1 with h1
  injection h2 with h2
  injection h3 with h3
  have h1 : x = u := h1
  have h2 : y = v := h2
  subst h1 h2
  have h3 : (if l = true then (1 : Int) else 0) = if m = true then 1 else 0 := h3
  cases l <;> cases m <;> first | rfl | exact absurd h3 (by decide)
def ents (ps : List (Addr × Brick)) : List NEnt := ps.map fun p => (kN p.2, p.1, V.bl true)
theorem ents_refs (ps : List (Addr × Brick)) : ((ents ps).map fun x => V.ref x.2.1) = refs ps := by
  unfold ents refs
  rw [List.map_map]
  rfl
theorem ents_any (ps : List (Addr × Brick)) (b : Brick) : ((ents ps).any fun x => decide (x.1 = kN b)) = ((vals ps).any fun c => eqB c b) := by
  unfold ents vals
  rw [List.any_map, List.any_map]
  congr 1
  funext p
  show decide (kN p.2 = kN b) = eqB p.2 b
  exact Bool.eq_iff_iff.mpr (by rw [decide_eq_true_eq]; exact kN_inj.trans eqB_iff.symm)
theorem ents_put (ps : List (Addr × Brick)) (a : Addr) (b : Brick) : ∃ qs, putN (ents ps) (kN b) a (.bl true) = ents qs ∧ vals qs = addB (vals ps) b ∧ ∀ p ∈ qs, p ∈ ps ∨ p = (a, b) := by
  unfold putN addB
  rw [ents_any]
  split
  · refine ⟨ps, ?_, rfl, fun p hp => .inl hp⟩
    unfold ents
    rw [List.map_map]
    refine List.map_congr_left fun p _ => ?_
    show (if kN p.2 = kN b then (kN p.2, p.1, V.bl true) else (kN p.2, p.1, V.bl true)) = _
    rw [ite_self]
  · refine ⟨ps ++ [(a, b)], ?_, ?_, fun p hp => ?_⟩
    · unfold ents
      rw [List.map_append]
      rfl
    · unfold vals
      rw [List.map_append]
      rfl
    · rcases List.mem_append.mp hp with z | z
      · exact .inl z
      · exact .inr (List.mem_singleton.mp z)
theorem kN_is {H : Hp} {a : Addr} {b : Brick} (h : H a = some (.tup b.vs)) : KyIs H (kN b) (.ref a) := .tup h (.cons (.int _) (.cons (.int _) (.cons (.bl _) .nil)))
theorem kN_depth (b : Brick) : (kN b).depth ≤ 8 := by
  simp [kN, NestedKey.depth, NestedKey.depthAll]
theorem keys_ents {H : Hp} {ps : List (Addr × Brick)} (h : BrT H ps) : KeysAt H (ents ps) := fun x hx => by
  obtain ⟨p, hp, rfl⟩ := List.mem_map.mp hx
  exact ⟨kN_is (h p hp), kN_depth _⟩
end BF

/-! ### k11: layings cell by cell: the plain part -/
namespace BF
open PySem PySem.Spec PyProof.Rows L2 LamX NdefX
def brickC (L W f s : Int) (pl c : Int × Int) : Brick :=
  if c.1 < pl.1 ∧ c.2 < pl.2 then ⟨c.1 / f * f, c.2 / s * s, true⟩ else
    ⟨(if pl.2 = W then pl.1 else 0) + (c.1 - (if pl.2 = W then pl.1 else 0)) / s * s, (if pl.1 = L then pl.2 else 0) + (c.2 - (if pl.1 = L then pl.2 else 0)) / f * f, decide (f = s)⟩
theorem brick_C {L W f s : Int} {pl : Int × Int} (h : planP L W f s = pl) (c : Int × Int) : brickP L W f s c = brickC L W f s pl c := by
  unfold brickP brickC
  rw [h]
def cellAt (n t : Nat) : Int × Int := (((t / n : Nat) : Int), ((t % n : Nat) : Int))
/-- the bricks behind t cells -/
def gathC (L W f s : Int) (pl : Int × Int) (n : Nat) : Nat → List Brick
  | 0 => []
  | t + 1 => addB (gathC L W f s pl n t) (brickC L W f s pl (cellAt n t))
theorem gathC_le (L W f s : Int) (pl : Int × Int) (n : Nat) : ∀ t, (gathC L W f s pl n t).length ≤ t
  | 0 => Nat.le_refl _
  | t + 1 => by
    have h := gathC_le L W f s pl n t
    show (addB _ _).length ≤ t + 1
    unfold addB
    split
    · omega
    · rw [List.length_append, List.length_singleton]
      omega
def standN (bs : List Brick) : Nat := bs.countP fun b => !b.l
def lieN (bs : List Brick) : Nat := bs.countP fun b => b.l
def lieC (L W f s : Int) (pl : Int × Int) : Int := if f = s then L * W / (f * s) else pl.1 * pl.2 / (f * s)
def chkB (L W f s : Int) (pl : Int × Int) (m n : Nat) : Bool :=
  ((List.range (m * n)).all fun t => (cellsL f s (brickC L W f s pl (cellAt n t))).contains (cellAt n t) && (!decide (f = s) || (brickC L W f s pl (cellAt n t)).l)) &&
    (fullB L W f s (gathC L W f s pl n (m * n)) && (decide (L * W / (f * s) - lieC L W f s pl = (standN (gathC L W f s pl n (m * n)) : Nat)) && decide (lieC L W f s pl = (lieN (gathC L W f s pl n (m * n)) : Nat))))
structure FlOk (L W f s : Int) (pl : Int × Int) (m n : Nat) : Prop where
  eL : L = (m : Int)
  eW : W = (n : Int)
  m0 : 0 < m ∧ m ≤ 12
  n0 : 0 < n ∧ n ≤ 12
  f0 : 0 < f ∧ f ≤ 12
  s0 : 0 < s ∧ s ≤ 12
  le : m * n ≤ 400
  free : Free L W f s
  plan : planP L W f s = pl
  chk : chkB L W f s pl m n = true
section
variable {L W f s : Int} {pl : Int × Int} {m n : Nat}
theorem FlOk.facts (h : FlOk L W f s pl m n) : (∀ t, t < m * n → cellAt n t ∈ cellsL f s (brickC L W f s pl (cellAt n t)) ∧ (f = s → (brickC L W f s pl (cellAt n t)).l = true)) ∧ fullB L W f s (gathC L W f s pl n (m * n)) = true ∧
    L * W / (f * s) - lieP L W f s = (standN (gathC L W f s pl n (m * n)) : Nat) ∧ lieP L W f s = (lieN (gathC L W f s pl n (m * n)) : Nat) := by
  have c := h.chk
  unfold chkB at c
  rw [Bool.and_eq_true, Bool.and_eq_true, Bool.and_eq_true] at c
  obtain ⟨c1, c2, c3, c4⟩ := c
  have el : lieP L W f s = lieC L W f s pl := by
    unfold lieP lieC
    rw [h.plan]
  refine ⟨fun t ht => ?_, c2, by rw [el]; exact of_decide_eq_true c3, by rw [el]; exact of_decide_eq_true c4⟩
  have z := List.all_eq_true.mp c1 t (List.mem_range.mpr ht)
  rw [Bool.and_eq_true] at z
  refine ⟨by simpa using z.1, fun e => ?_⟩
  have z2 := z.2
  rw [decide_eq_true e] at z2
  exact z2
end
theorem plan_c {L W f s : Int} {m n : Int} (h0 : ¬ (L % f = 0 ∧ W % s = 0)) (h1 : ¬ (L % s = 0 ∧ W % f = 0)) (h2 : ¬ L % f = 0) (hs : 0 < s) (h : IsParts L f s (some (m, n))) : planP L W f s = (m * f, W) := by
  unfold planP
  rw [if_neg h0, if_neg h1, if_neg h2, parts_eq hs h]
  rfl
theorem plan_d {L W f s : Int} {m n : Int} (h0 : ¬ (L % f = 0 ∧ W % s = 0)) (h1 : ¬ (L % s = 0 ∧ W % f = 0)) (h2 : L % f = 0) (hs : 0 < s) (h : IsParts W f s (some (m, n))) : planP L W f s = (L, n * s) := by
  unfold planP
  rw [if_neg h0, if_neg h1, if_pos h2, parts_eq hs h]
  rfl
theorem fl1 : FlOk 5 6 2 3 (2, 6) 5 6 := ⟨rfl, rfl, by decide, by decide, by decide, by decide, by decide, free_of (m := 1) (n := 1) (u := 3) (v := 0) (by decide) (by decide) (.inr (by decide)) (.inr (by decide)) ⟨by decide, by decide, by decide⟩ ⟨by decide, by decide, by decide⟩, plan_c (m := 1) (n := 1) (by decide) (by decide) (by decide) (by decide) ⟨⟨by decide, by decide, by decide⟩, fun m n r => by obtain ⟨r1, r2, r3⟩ := r; show 1 ≤ m; omega⟩, by decide +kernel⟩
theorem fl2 : FlOk 6 5 2 3 (6, 3) 6 5 := ⟨rfl, rfl, by decide, by decide, by decide, by decide, by decide, free_of (m := 3) (n := 0) (u := 1) (v := 1) (by decide) (by decide) (.inl (by decide)) (.inl (by decide)) ⟨by decide, by decide, by decide⟩ ⟨by decide, by decide, by decide⟩, plan_d (m := 1) (n := 1) (by decide) (by decide) (by decide) (by decide) ⟨⟨by decide, by decide, by decide⟩, fun m n r => by obtain ⟨r1, r2, r3⟩ := r; show 1 ≤ m; omega⟩, by decide +kernel⟩
theorem fl3 : FlOk 4 4 2 2 (4, 4) 4 4 := ⟨rfl, rfl, by decide, by decide, by decide, by decide, by decide, free_of (m := 2) (n := 0) (u := 2) (v := 0) (by decide) (by decide) (.inl (by decide)) (.inl (by decide)) ⟨by decide, by decide, by decide⟩ ⟨by decide, by decide, by decide⟩, plan_lie (by decide) (by decide), by decide +kernel⟩
theorem fl4 : FlOk 7 12 3 4 (3, 12) 7 12 := ⟨rfl, rfl, by decide, by decide, by decide, by decide, by decide, free_of (m := 1) (n := 1) (u := 4) (v := 0) (by decide) (by decide) (.inr (by decide)) (.inr (by decide)) ⟨by decide, by decide, by decide⟩ ⟨by decide, by decide, by decide⟩, plan_c (m := 1) (n := 1) (by decide) (by decide) (by decide) (by decide) ⟨⟨by decide, by decide, by decide⟩, fun m n r => by obtain ⟨r1, r2, r3⟩ := r; show 1 ≤ m; omega⟩, by decide +kernel⟩
theorem fl5 : FlOk 1 9 1 3 (1, 9) 1 9 := ⟨rfl, rfl, by decide, by decide, by decide, by decide, by decide, free_of (m := 1) (n := 0) (u := 9) (v := 0) (by decide) (by decide) (.inl (by decide)) (.inr (by decide)) ⟨by decide, by decide, by decide⟩ ⟨by decide, by decide, by decide⟩, plan_lie (by decide) (by decide), by decide +kernel⟩
theorem fl6 : FlOk 11 6 3 2 (3, 6) 11 6 := ⟨rfl, rfl, by decide, by decide, by decide, by decide, by decide, free_of (m := 1) (n := 4) (u := 2) (v := 0) (by decide) (by decide) (.inr (by decide)) (.inr (by decide)) ⟨by decide, by decide, by decide⟩ ⟨by decide, by decide, by decide⟩, plan_c (m := 1) (n := 4) (by decide) (by decide) (by decide) (by decide) ⟨⟨by decide, by decide, by decide⟩, fun m n r => by obtain ⟨r1, r2, r3⟩ := r; show 1 ≤ m; omega⟩, by decide +kernel⟩
theorem fl7 : FlOk 12 7 4 3 (12, 3) 12 7 := ⟨rfl, rfl, by decide, by decide, by decide, by decide, by decide, free_of (m := 3) (n := 0) (u := 1) (v := 1) (by decide) (by decide) (.inl (by decide)) (.inl (by decide)) ⟨by decide, by decide, by decide⟩ ⟨by decide, by decide, by decide⟩, plan_d (m := 1) (n := 1) (by decide) (by decide) (by decide) (by decide) ⟨⟨by decide, by decide, by decide⟩, fun m n r => by obtain ⟨r1, r2, r3⟩ := r; show 1 ≤ m; omega⟩, by decide +kernel⟩
/-- a loop over the keys of a locked dict -/
theorem for_keysN {P : Program} {w : World} {d : Addr} {o : Obj} {ns : List NEnt} {g : TG} {tb : TS} {D : Ends} {σ : L2.St} {H : Hp} (Pv : Nat → L2.St → Hp → Prop) (h0 : Pv 0 σ H) (hl : ∀ i σ H, i ≤ ns.length → Pv i σ H → H d = some (.frz o (DN P w d ns)))
    (hs : ∀ i e σ H, ns[i]? = some e → Pv i σ H → g (.ref e.2.1) σ H fun σ2 H2 => tb { D with nx := Pv (i + 1), ct := Pv (i + 1), bk := D.nx } σ2 H2) (hd : ∀ σ H, Pv ns.length σ H → D.nx σ H) :
    ∃ W : Nat → Nat → L2.St → Hp → Prop, (∃ m, W 0 m σ H) ∧ ∀ i m σ H, W i m σ H →
      ((ItN P w d o ns).stop i H ∧ D.nx σ H) ∨ ((ItN P w d o ns).go i H ∧ ∃ N : L2.St → Hp → Prop, (∀ σ' H', N σ' H' → ∃ m', m' < m ∧ W (i + 1) m' σ' H') ∧ ∀ x H', (ItN P w d o ns).yld i H x H' → g x σ H' fun σ2 H2 => tb { D with nx := N, ct := N, bk := D.nx } σ2 H2) := by
  refine ⟨fun i m σ H => m = ns.length - i ∧ i ≤ ns.length ∧ Pv i σ H, ⟨_, rfl, Nat.zero_le _, h0⟩, ?_⟩
  rintro i m σ H ⟨rfl, hi, p⟩
  have sq := hl i σ H hi p
  by_cases c : i < ns.length
  · refine .inr ⟨⟨sq, c⟩, Pv (i + 1), fun σ' H' p' => ⟨ns.length - (i + 1), by omega, rfl, c, p'⟩, fun x H' y => ?_⟩
    obtain ⟨rfl, e, he, rfl⟩ := y
    exact hs i e σ H' he p
  · have e : i = ns.length := by omega
    subst e
    exact .inl ⟨⟨sq, Nat.le_refl _⟩, hd σ H p⟩
end BF

/-! ### k11: the cells of a brick -/
namespace BF
open PySem PySem.Spec PyProof.Rows L2 LamX NdefX
inductive SpLCells : Sp where
  | mk {o : Addr} {x y : Int} {l : Bool} {f s : Int} {H : Hp} {Q : VK} {E : XK} (ho : H o = some (.tup (cellV (x, y)))) (hf : 0 < f ∧ f ≤ 12) (hs : 0 < s ∧ s ≤ 12)
      (q : ∀ p H' cs, Same H H' → H' p = some (.lst (refs cs)) → CeAll H' cs → vals cs = cellsL f s ⟨x, y, l⟩ → Q (.ref p) H') : SpLCells [.int f, .int s, .ref o, .bl l] H Q E
inductive LcI (fi se : Int) (o : Addr) (l : Bool) (lo hi x y : Int) (H : Hp) (i : Nat) : L2.St → Hp → Prop where
  | mk {H' : Hp} {F : Addr} {z u : Option V} {cs : List (Addr × (Int × Int))} (sm : Same H H') (hF : H' F = some (.lst (refs cs))) (hc : CeAll H' cs) (hv : vals cs = colsL x y i hi.toNat) : LcI fi se o l lo hi x y H i [some (.int fi), some (.int se), some (.ref o), some (.bl l), some (.int lo), some (.int hi), some (.ref F), z, u] H'
section
variable {P : Program} {w : World} {K : PySem.W.Frag} {mg : Str → Option Value} {base : Heap}
theorem H__law_cells_of (p : Pl K mg "_law_cells_of" s__law_cells_of) (B : Bi mg) : Has P w K mg base CX0 1 "_law_cells_of" ["_law_first", "_law_second", "_law_corner", "_law_lies"] SpLCells := by
  refine p.mk0 sc__law_cells_of (fun _ _ _ _ _ _ us hl => match us, hl with | [_, _, _, _], _ => rfl) (fun vs H Q E h => ?_) (fun f cdv A outer s H vs Q E hr h => ?_)
  · cases h; rfl
  · obtain @⟨o, x, y, l, fi, se, _, _, _, ho, h1, h2, q⟩ := h
    refine ⟨_, (pss_cons (ps_asg (pe_ifExp (pt_val (pv 3)) (pe_tup (pa_cons (pv 0) (pa_cons (pv 1) pa_nil))) (pe_tup (pa_cons (pv 1) (pa_cons (pv 0) pa_nil)))) (pg_tup (by rfl) (pgs_cons (pg_name (i := 4) sc__law_cells_of.nd rfl (Or.inl rfl)) (pgs_cons (pg_name (i := 5) sc__law_cells_of.nd rfl (Or.inl rfl)) pgs_nil))))
      (pss_cons (ps_set (i := 6) sc__law_cells_of.nd rfl (Or.inl rfl) (pe_lst pa_nil))
      (pss_cons (ps_for PassesOwn.never (by rfl) (pi_range1 (by rfl) B.range (pa_cons (pv 4) pa_nil)) (pg_name (i := 7) sc__law_cells_of.nd rfl (Or.inr rfl)) (pss_one (ps_set (i := 6) sc__law_cells_of.nd rfl (Or.inl rfl) (pe_op op_cat (pv 6) (pe_lc (own := [("_law_up", 8)]) (by rfl) sc__law_cells_of.nd (pi_range1 (by rfl) B.range (pa_cons (pv 5) pa_nil)) (blkOk_by (own := [("_law_up", 8)]) (N := ["_law_first", "_law_second", "_law_corner", "_law_lies", "_law_long", "_law_high", "_law_found", "_law_along", "_law_up"]) (sc := defScope s__law_cells_of) (by decide +kernel)) (fun _ _ _ _ _ => (pg_name (i := 8) sc__law_cells_of.nd rfl (Or.inl rfl))) (fun _ _ _ _ _ => pts_nil) (fun _ _ _ _ _ => (pe_tup (pa_cons (pe_op op_add (pe_ix (r := rIxT K) ix_tup (pv 2) pe_int (fun _ _ => rfl)) (pv 7)) (pa_cons (pe_op op_add (pe_ix (r := rIxT K) ix_tup (pv 2) pe_int (fun _ _ => rfl)) (pv 8)) pa_nil)))))))))
      (pss_one (ps_ret (pv 6)))))), ?_⟩
    unfold cellsL at q
    generalize hlo : Brick.lo fi se ⟨x, y, l⟩ = lo at q
    generalize hhi : Brick.hi fi se ⟨x, y, l⟩ = hi at q
    have b1 : 0 < lo ∧ lo ≤ 12 := by rw [← hlo]; unfold Brick.lo; split <;> omega
    have b2 : 0 < hi ∧ hi ≤ 12 := by rw [← hhi]; unfold Brick.hi; split <;> omega
    cases l
    all_goals
      unfold Brick.lo at hlo
      unfold Brick.hi at hhi
      simp only [Bool.false_eq_true, if_false, if_true] at hlo hhi
      subst hlo hhi
      refine ⟨_, rfl, _, rfl, ?_⟩
      first | refine iteF ?_ | refine iteT ?_
      walk_at "rd"
      intro p1 hp1
      generalize hH1 : upd H p1 _ = H1
      obtain ⟨sm1, up1⟩ := newH hH1 hp1
      clear hH1
      refine ⟨p1, _, rfl, sqT up1, rfl, ?_⟩
      walk_at "rd"
      intro F0 hF0
      generalize hH2 : upd H1 F0 _ = H2
      obtain ⟨sm2, up2⟩ : Same H1 H2 ∧ H2 F0 = some (.lst (refs ([] : List (Addr × (Int × Int))))) := newH hH2 hF0
      clear hH2
      have ho1 := (sm1.trans sm2) _ _ ho
      refine ⟨_, rfl, _, rfl, by omega, by omega, for_range (lo := 0) (n := _) (fun i σ H' => LcI fi se o _ _ _ x y H2 i σ H') (.mk (cs := []) (fun _ _ z => z) up2 (fun q hq => nomatch hq) rfl) ?_ ?_⟩
      · rintro i _ H3 hi @⟨_, F, _, _, cs, sm3, eF, hc, hv⟩
        have e0 : (0 : Int) + (i : Int) = i := by omega
        refine ⟨_, rfl, _, rfl, _, rfl, by omega, by omega, fun D hD => ?_⟩
        refine lc_range (lo := 0) (n := _) (fun j H' => Same H3 H' ∧ ∃ ds, H' D = some (.lst (refs ds)) ∧ CeAll H' ds ∧ vals ds = colL (x + (i : Int)) y j) ⟨same_upd hD, [], upd_same, (fun q hq => nomatch hq), rfl⟩ ?_ ?_
        · rintro j H4 hj ⟨sm4, ds, eD, hds, vds⟩
          have e1 : (0 : Int) + (j : Int) = j := by omega
          have ho3 := sqT (K := K) ((sm3.trans sm4) _ _ ho1)
          refine ⟨rfl, lc_yes ?_⟩
          refine ⟨_, rfl, o, _, 0, _, rfl, rfl, ho3, rfl, _, rfl, _, _, rfl, rfl, _, rfl, o, _, 1, _, rfl, rfl, ho3, rfl, _, rfl, _, _, rfl, rfl, ?_⟩
          refine ⟨size4 (by simp), fun p4 hp4 => ?_⟩
          have nDp : D ≠ p4 := ne_of_none eD hp4
          refine ⟨_, by rw [upd_ne nDp]; exact eD, ?_, ?_, ds ++ [(p4, (x + (i : Int), y + (j : Int)))], ?_, ?_, ?_⟩
          · rw [refs_len, ← vals_len, vds, col_len]
            exact Nat.lt_of_lt_of_le hj (size4 (by omega))
          · exact fun b1 o1 e => by rw [upd_ne (ne_of_none e hD)]; exact same_upd hp4 _ _ (sm4 b1 o1 e)
          · rw [upd_same, refs_app]
            rfl
          · refine fun q hq => ?_
            have z := ce_add (H := upd H4 p4 (.tup (cellV (x + (i : Int), y + (j : Int))))) (c := (x + (i : Int), y + (j : Int))) (hds.mono (same_upd hp4)) upd_same q hq
            have nq : q.1 ≠ D := fun z2 => by
              rw [z2, upd_ne nDp, eD] at z
              cases z
            rw [upd_ne nq, e0, e1]
            exact z
          · rw [vals_app, vds, col_succ]
            rfl
        · rintro H4 ⟨sm4, ds, eD, hds, vds⟩
          have eF3 := sm4 _ _ eF
          refine ⟨F, D, _, _, rfl, rfl, eF3, eD, ?_, fun G hG => ?_⟩
          · rw [refs_len, refs_len, ← vals_len cs, ← vals_len ds, hv, vds, cols_len, col_len]
            exact size4 (mul_add_le (by omega) (by omega))
          · refine .mk (cs := cs ++ ds) (sm3.trans (sm4.trans (same_upd hG))) ?_ ?_ ?_
            · rw [upd_same, refs_app]
            · refine fun q hq => ?_
              have z : H4 q.1 = some (.tup (cellV q.2)) := by
                rcases List.mem_append.mp hq with a | a
                · exact hc.mono sm4 q a
                · exact hds q a
              exact same_upd hG _ _ z
            · rw [vals_app, hv, vds, cols_succ]
      · rintro _ H3 @⟨_, F, _, _, cs, sm3, eF, hc, hv⟩
        exact ⟨_, rfl, q F H3 cs (sm1.trans (sm2.trans sm3)) eF hc hv⟩
end
end BF

/-! ### k11: layings cell by cell: the walk -/
namespace BF
open PySem PySem.Spec PyProof.Rows L2 LamX NdefX
def FlAt (H : Hp) (x : V) : Prop := ∃ t L W f s pl m n, x = V.ref t ∧ H t = some (.tup [.int L, .int W, .int f, .int s]) ∧ FlOk L W f s pl m n
def cellD (c : Int × Int) : PyData := .tuple [.int c.1, .int c.2]
theorem dp_cell {K : PySem.W.Frag} {H : Hp} {t : Addr} {c : Int × Int} (h : H t = some (.tup (cellV c))) : Dp K H (.ref t) (cellD c) := .tup (sqT h) (.cons (.int _) (.cons (.int _) .nil))
theorem dp_cells {K : PySem.W.Frag} {H : Hp} : ∀ {cs : List (Addr × (Int × Int))}, CeAll H cs → DpAll K H (refs cs) ((vals cs).map cellD)
  | [], _ => .nil
  | c :: cs, h => .cons (dp_cell (h c (by simp))) (dp_cells (cs := cs) fun q hq => h q (List.mem_cons_of_mem _ hq))
theorem shp_cell (c : Int × Int) : Shp 2 (cellD c) := shp_tuple (n := 1) fun e he => by
  have z : e = .int c.1 ∨ e = .int c.2 := by simpa using he
  rcases z with rfl | rfl
  · exact shp_int _
  · exact shp_int _
theorem shp_cells (cs : List (Int × Int)) : Shp 3 (.list (cs.map cellD)) := shp_list (n := 2) fun d hd => by
  obtain ⟨c, _, rfl⟩ := List.mem_map.mp hd
  exact shp_cell c
theorem cell_in {c : Int × Int} {cs : List (Int × Int)} (h : c ∈ cs) : ((cs.map cellD).any fun d => PyData.eqv d (cellD c)) = true := List.any_eq_true.mpr ⟨cellD c, List.mem_map.mpr ⟨c, h, rfl⟩, SeqAt.eqv_refl _ (shp_cell c).c⟩
inductive LyI (far : Int) (lf : Addr) (H0 : Hp) : L2.St → Hp → Prop where
  | mk {H : Hp} {y2 y3 y4 y5 y6 y7 y8 y9 y10 y11 y12 y13 : Option V} (sm : Same H0 H) : LyI far lf H0 [some (.int far), some (.ref lf), y2, y3, y4, y5, y6, y7, y8, y9, y10, y11, y12, y13] H
inductive LyJ (P : Program) (w : World) (far : Int) (lf lc D : Addr) (L W f s : Int) (pl : Int × Int) (n : Nat) (H0 : Hp) (i : Nat) : L2.St → Hp → Prop where
  | mk {H : Hp} {ps : List (Addr × Brick)} {y8 y9 y10 y11 y12 y13 : Option V} (sm : Same H0 H) (ec : H lc = some (.lst [.int 0, .int 0])) (eD : H D = some (DN P w D (ents ps))) (hb : BrT H ps) (hv : vals ps = gathC L W f s pl n (i * n)) :
      LyJ P w far lf lc D L W f s pl n H0 i [some (.int far), some (.ref lf), some (.int L), some (.int W), some (.int f), some (.int s), some (.ref lc), some (.ref D), y8, y9, y10, y11, y12, y13] H
inductive LyK (P : Program) (w : World) (far : Int) (lf lc D : Addr) (L W f s : Int) (pl : Int × Int) (n : Nat) (H0 : Hp) (i : Nat) (x : Int) (j : Nat) : L2.St → Hp → Prop where
  | mk {H : Hp} {ps : List (Addr × Brick)} {y9 y10 y11 y12 y13 : Option V} (sm : Same H0 H) (ec : H lc = some (.lst [.int 0, .int 0])) (eD : H D = some (DN P w D (ents ps))) (hb : BrT H ps) (hv : vals ps = gathC L W f s pl n (i * n + j)) :
      LyK P w far lf lc D L W f s pl n H0 i x j [some (.int far), some (.ref lf), some (.int L), some (.int W), some (.int f), some (.int s), some (.ref lc), some (.ref D), some (.int x), y9, y10, y11, y12, y13] H
inductive LyC (P : Program) (w : World) (far : Int) (lf lc D : Addr) (L W f s : Int) (ps : List (Addr × Brick)) (od : Obj) (H0 : Hp) (i : Nat) : L2.St → Hp → Prop where
  | mk {H : Hp} {y8 y9 y10 y11 y12 y13 : Option V} (kp : ∀ b o, b ≠ D → b ≠ lc → H0 b = some o → H b = some o) (ec : H lc = some (.lst [.int (standN ((vals ps).take i) : Nat), .int (lieN ((vals ps).take i) : Nat)])) (eD : H D = some (.frz od (DN P w D (ents ps)))) :
      LyC P w far lf lc D L W f s ps od H0 i [some (.int far), some (.ref lf), some (.int L), some (.int W), some (.int f), some (.int s), some (.ref lc), some (.ref D), y8, y9, y10, y11, y12, y13] H
theorem take_snoc {α : Type} {xs : List α} {j : Nat} {x : α} (h : xs[j]? = some x) : xs.take (j + 1) = xs.take j ++ [x] := by
  have lt : j < xs.length := (List.getElem?_eq_some_iff.mp h).1
  have e : xs[j] = x := (List.getElem?_eq_some_iff.mp h).2
  rw [← e, List.take_succ_eq_append_getElem lt]
theorem stand_snoc (bs : List Brick) (b : Brick) : standN (bs ++ [b]) = standN bs + (if b.l then 0 else 1) ∧ lieN (bs ++ [b]) = lieN bs + (if b.l then 1 else 0) := by
  unfold standN lieN
  rw [List.countP_append, List.countP_append]
  cases h : b.l <;> simp [List.countP_cons, h]
section
variable {P : Program} {w : World} {K : PySem.W.Frag} {mg : Str → Option Value} {base : Heap}
theorem H__law_laying_right {T : List (Addr × Str)} (p : Pl K mg "_law_laying_right" s__law_laying_right) (B : Bi mg) (G : ClG K mg) (h_judged : Has P w K mg base CX0 3 "judged" ["length", "width", "first", "second", "bricks"] (SpJudged K))
    (h_brick_on : Has P w K mg base CX0 5 "brick_on" ["length", "width", "first", "second", "cell"] SpBrickOn) (h__law_cells_of : Has P w K mg base CX0 1 "_law_cells_of" ["_law_first", "_law_second", "_law_corner", "_law_lies"] SpLCells)
    (h_lying : Has P w K mg base CX0 5 "lying" ["length", "width", "first", "second"] SpLying) (h_standing : Has P w K mg base CX0 6 "standing" ["length", "width", "first", "second"] SpStanding) :
    Has P w K mg base CX0 7 "_law_laying_right" ["_law_far"] (SpFar T) := by
  refine p.mk0 sc__law_laying_right (fun _ _ _ _ _ _ us hl => match us, hl with | [_], _ => rfl) (fun vs H Q E h => ?_) (fun f cdv A outer s H vs Q E hr h => ?_)
  · cases h; rfl
  · obtain @⟨far, _, _, _, hf, hT, q⟩ := h
    refine ⟨_, (pss_cons (ps_set (i := 1) sc__law_laying_right.nd rfl (Or.inl rfl) (pe_lst (pa_cons (pe_tup (pa_cons pe_int (pa_cons pe_int (pa_cons pe_int (pa_cons pe_int pa_nil))))) (pa_cons (pe_tup (pa_cons pe_int (pa_cons pe_int (pa_cons pe_int (pa_cons pe_int pa_nil))))) (pa_cons (pe_tup (pa_cons pe_int (pa_cons pe_int (pa_cons pe_int (pa_cons pe_int pa_nil))))) (pa_cons (pe_tup (pa_cons pe_int (pa_cons pe_int (pa_cons pe_int (pa_cons pe_int pa_nil))))) (pa_cons (pe_tup (pa_cons pe_int (pa_cons pe_int (pa_cons pe_int (pa_cons pe_int pa_nil))))) pa_nil)))))))
      (pss_cons (ps_set (i := 1) sc__law_laying_right.nd rfl (Or.inl rfl) (pe_op op_cat (pv 1) (pe_lst (pa_cons (pe_tup (pa_cons pe_int (pa_cons pe_int (pa_cons pe_int (pa_cons pe_int pa_nil))))) (pa_cons (pe_tup (pa_cons pe_int (pa_cons pe_int (pa_cons pe_int (pa_cons pe_int pa_nil))))) pa_nil)))))
      (pss_cons (ps_for PassesOwn.never (by rfl) (pi_list (pv 1)) (pg_tup (by rfl) (pgs_cons (pg_name (i := 2) sc__law_laying_right.nd rfl (Or.inl rfl)) (pgs_cons (pg_name (i := 3) sc__law_laying_right.nd rfl (Or.inl rfl)) (pgs_cons (pg_name (i := 4) sc__law_laying_right.nd rfl (Or.inl rfl)) (pgs_cons (pg_name (i := 5) sc__law_laying_right.nd rfl (Or.inl rfl)) pgs_nil))))) (pss_cons (ps_par (i := 6) (j := 7) (by rfl) sc__law_laying_right.nd rfl rfl (by decide) rfl rfl (pa_cons (pe_lst (pa_cons pe_int (pa_cons pe_int pa_nil))) (pa_cons pe_dnewN pa_nil)) (by rfl))
      (pss_cons (ps_for PassesOwn.never (by rfl) (pi_range1 (by rfl) B.range (pa_cons (pv 2) pa_nil)) (pg_name (i := 8) sc__law_laying_right.nd rfl (Or.inl rfl)) (pss_one (ps_for PassesOwn.never (by rfl) (pi_range1 (by rfl) B.range (pa_cons (pv 3) pa_nil)) (pg_name (i := 9) sc__law_laying_right.nd rfl (Or.inl rfl)) (pss_cons (ps_asg (pe_fn h_brick_on (hr.mono (by decide)) pass0 (pa_cons (pv 2) (pa_cons (pv 3) (pa_cons (pv 4) (pa_cons (pv 5) (pa_cons (pe_tup (pa_cons (pv 8) (pa_cons (pv 9) pa_nil))) pa_nil)))))) (pg_tup (by rfl) (pgs_cons (pg_name (i := 10) sc__law_laying_right.nd rfl (Or.inl rfl)) (pgs_cons (pg_name (i := 11) sc__law_laying_right.nd rfl (Or.inl rfl)) pgs_nil))))
      (pss_cons (ps_if (pt_cmpR (r := rNotInD K) (op_notInD (u65 hr)) (pe_tup (pa_cons (pv 8) (pa_cons (pv 9) pa_nil))) (pe_fn h__law_cells_of (hr.mono (by decide)) pass0 (pa_cons (pv 4) (pa_cons (pv 5) (pa_cons (pv 10) (pa_cons (pv 11) pa_nil))))) (by rfl)) (pss_one (ps_ret pe_bl)) pss_nil)
      (pss_cons (ps_if (PW.pt (pw_and (pt_cmpR op_eq (pv 4) (pv 5) (nomark _)) (pw_and1 (pt_not (pt_val (pv 11)))))) (pss_one (ps_ret pe_bl)) pss_nil)
      (pss_one (ps_dputN hr.units (pv 7) (pe_tup (pa_cons (pe_ix (r := rIxT K) ix_tup (pv 10) pe_int (fun _ _ => rfl)) (pa_cons (pe_ix (r := rIxT K) ix_tup (pv 10) pe_int (fun _ _ => rfl)) (pa_cons (pv 11) pa_nil)))) pe_bl))))))))
      (pss_cons (ps_lock (ps_for PassesOwn.never (by rfl) (pi_keysN (pv 7)) (pg_tup (by rfl) (pgs_cons (pg_name (i := 12) sc__law_laying_right.nd rfl (Or.inl rfl)) (pgs_cons (pg_name (i := 13) sc__law_laying_right.nd rfl (Or.inl rfl)) (pgs_cons (pg_name (i := 11) sc__law_laying_right.nd rfl (Or.inl rfl)) pgs_nil)))) (pss_one (ps_asg (pe_op op_add (pe_ix (r := rIxL K) ix_list (pv 6) (pe_callTy call_int1 (by rfl) B.int (by decide +kernel) (pa_cons (pv 11) pa_nil)) (fun _ _ => rfl)) pe_int) (pg_sub (pv 6) (pe_callTy call_int1 (by rfl) B.int (by decide +kernel) (pa_cons (pv 11) pa_nil)) set_list)))))
      (pss_cons (ps_if (pt_not (pt_val (pe_callB (r := rIsi K) call_isi (by rfl) B.isinstance (by decide +kernel) (pa_cons (pe_fn h_judged (hr.mono (by decide)) pass0 (pa_cons (pv 2) (pa_cons (pv 3) (pa_cons (pv 4) (pa_cons (pv 5) (pa_cons (pe_callTy (call_list_dN rfl) (by rfl) B.list (by decide +kernel) (pa_cons (pv 7) pa_nil)) pa_nil)))))) (pa_cons (pe_glob (v := .ref (cl _ .full)) (by rfl) (G.g .full (by decide)) rfl) pa_nil))))) (pss_one (ps_ret pe_bl)) pss_nil)
      (pss_one (ps_if (pt_cmpR (r := rNeD K) (op_neD hr.units) (pe_lst (pa_cons (pe_fn h_standing (hr.mono (by decide)) pass0 (pa_cons (pv 2) (pa_cons (pv 3) (pa_cons (pv 4) (pa_cons (pv 5) pa_nil))))) (pa_cons (pe_fn h_lying (hr.mono (by decide)) pass0 (pa_cons (pv 2) (pa_cons (pv 3) (pa_cons (pv 4) (pa_cons (pv 5) pa_nil))))) pa_nil))) (pv 6) (nomark _)) (pss_one (ps_ret pe_bl)) pss_nil)))))))
      (pss_one (ps_ret pe_bl))))), ?_⟩
    walk_at "rd"
    intro t1 h_t1
    generalize hH1 : upd H t1 _ = H1
    obtain ⟨sm1, up_t1⟩ : Same H H1 ∧ H1 t1 = some (.tup [.int 5, .int 6, .int 2, .int 3]) := newH hH1 h_t1
    clear hH1
    walk_at "rd"
    intro t2 h_t2
    generalize hH2 : upd H1 t2 _ = H2
    obtain ⟨sm2, up_t2⟩ : Same H1 H2 ∧ H2 t2 = some (.tup [.int 6, .int 5, .int 2, .int 3]) := newH hH2 h_t2
    clear hH2
    walk_at "rd"
    intro t3 h_t3
    generalize hH3 : upd H2 t3 _ = H3
    obtain ⟨sm3, up_t3⟩ : Same H2 H3 ∧ H3 t3 = some (.tup [.int 4, .int 4, .int 2, .int 2]) := newH hH3 h_t3
    clear hH3
    walk_at "rd"
    intro t4 h_t4
    generalize hH4 : upd H3 t4 _ = H4
    obtain ⟨sm4, up_t4⟩ : Same H3 H4 ∧ H4 t4 = some (.tup [.int 7, .int 12, .int 3, .int 4]) := newH hH4 h_t4
    clear hH4
    walk_at "rd"
    intro t5 h_t5
    generalize hH5 : upd H4 t5 _ = H5
    obtain ⟨sm5, up_t5⟩ : Same H4 H5 ∧ H5 t5 = some (.tup [.int 1, .int 9, .int 1, .int 3]) := newH hH5 h_t5
    clear hH5
    walk_at "rd"
    intro l0 h_l0
    generalize hH6 : upd H5 l0 _ = H6
    obtain ⟨sm6, up_l0⟩ : Same H5 H6 ∧ H6 l0 = some (.lst [.ref t1, .ref t2, .ref t3, .ref t4, .ref t5]) := newH hH6 h_l0
    clear hH6
    walk_at "rd"
    intro t6 h_t6
    generalize hH7 : upd H6 t6 _ = H7
    obtain ⟨sm7, up_t6⟩ : Same H6 H7 ∧ H7 t6 = some (.tup [.int 11, .int 6, .int 3, .int 2]) := newH hH7 h_t6
    clear hH7
    walk_at "rd"
    intro t7 h_t7
    generalize hH8 : upd H7 t7 _ = H8
    obtain ⟨sm8, up_t7⟩ : Same H7 H8 ∧ H8 t7 = some (.tup [.int 12, .int 7, .int 4, .int 3]) := newH hH8 h_t7
    clear hH8
    walk_at "rd"
    intro m1 h_m1
    generalize hH9 : upd H8 m1 _ = H9
    obtain ⟨sm9, up_m1⟩ : Same H8 H9 ∧ H9 m1 = some (.lst [.ref t6, .ref t7]) := newH hH9 h_m1
    clear hH9
    refine ⟨l0, m1, _, _, rfl, rfl, ((sm7.trans (sm8.trans sm9)) _ _ up_l0), up_m1, size4 (by simp), fun lf h_lf => ?_⟩
    generalize hH10 : upd H9 lf _ = H10
    obtain ⟨sm10, up_lf⟩ : Same H9 H10 ∧ H10 lf = some (.lst [.ref t1, .ref t2, .ref t3, .ref t4, .ref t5, .ref t6, .ref t7]) := newH hH10 h_lf
    clear hH10
    have hcs : ∀ x ∈ [V.ref t1, .ref t2, .ref t3, .ref t4, .ref t5, .ref t6, .ref t7], FlAt H10 x := allc ⟨t1, _, _, _, _, _, _, _, rfl, ((sm2.trans (sm3.trans (sm4.trans (sm5.trans (sm6.trans (sm7.trans (sm8.trans (sm9.trans sm10)))))))) _ _ up_t1), fl1⟩ <| allc ⟨t2, _, _, _, _, _, _, _, rfl, ((sm3.trans (sm4.trans (sm5.trans (sm6.trans (sm7.trans (sm8.trans (sm9.trans sm10))))))) _ _ up_t2), fl2⟩ <| allc ⟨t3, _, _, _, _, _, _, _, rfl, ((sm4.trans (sm5.trans (sm6.trans (sm7.trans (sm8.trans (sm9.trans sm10)))))) _ _ up_t3), fl3⟩ <| allc ⟨t4, _, _, _, _, _, _, _, rfl, ((sm5.trans (sm6.trans (sm7.trans (sm8.trans (sm9.trans sm10))))) _ _ up_t4), fl4⟩ <| allc ⟨t5, _, _, _, _, _, _, _, rfl, ((sm6.trans (sm7.trans (sm8.trans (sm9.trans sm10)))) _ _ up_t5), fl5⟩ <| allc ⟨t6, _, _, _, _, _, _, _, rfl, ((sm8.trans (sm9.trans sm10)) _ _ up_t6), fl6⟩ <| allc ⟨t7, _, _, _, _, _, _, _, rfl, ((sm9.trans sm10) _ _ up_t7), fl7⟩ alln
    have elf := up_lf
    have s0 : Same H H10 := (sm1.trans (sm2.trans (sm3.trans (sm4.trans (sm5.trans (sm6.trans (sm7.trans (sm8.trans (sm9.trans sm10)))))))))
    generalize [V.ref t1, .ref t2, .ref t3, .ref t4, .ref t5, .ref t6, .ref t7] = xs at hcs elf
    walk_at "rd"
    refine ⟨⟨_, sqL elf⟩, for_list (K := K) (a := lf) (xs := xs) (fun i σ H' => LyI far lf H10 σ H') (.mk fun _ _ z => z) ?_ ?_ ?_⟩
    · rintro i _ H' _ ⟨sm⟩
      exact sqL (sm _ _ elf)
    · rintro i x _ Ha hi @⟨_, y2, y3, y4, y5, y6, y7, y8, y9, y10, y11, y12, y13, sma⟩
      obtain ⟨t, L, W, fi, se, pl, m, n, rfl, ht, fo⟩ := hcs x (List.mem_of_getElem? hi)
      obtain ⟨fc, ffull, fst, fli⟩ := fo.facts
      have eL := fo.eL
      have eW := fo.eW
      have m0 := fo.m0
      have n0 := fo.n0
      have f0 := fo.f0
      have se0 := fo.s0
      have zL : Sz L := sz_lit (by omega) (by omega)
      have zW : Sz W := sz_lit (by omega) (by omega)
      have zf : Ss fi := ss_lit (by omega) (by omega)
      have zs : Ss se := ss_lit (by omega) (by omega)
      refine ⟨t, _, rfl, sqT (sma _ _ ht), rfl, ?_⟩
      walk_at "rd"
      intro lc hlc
      generalize hHb : upd Ha lc _ = Hb
      obtain ⟨smb, upc⟩ : Same Ha Hb ∧ Hb lc = some (.lst [.int 0, .int 0]) := newH hHb hlc
      clear hHb
      walk_at "rd"
      intro D hD
      generalize hHc : upd Hb D _ = Hc
      obtain ⟨smc, upD⟩ : Same Hb Hc ∧ Hc D = some (DN P w D (ents [])) := newH hHc hD
      clear hHc
      have nDc : lc ≠ D := ne_of_none upc hD
      have hDa : Ha D = none := by
        cases e : Ha D with
        | none => rfl
        | some o => rw [smb _ _ e] at hD; cases hD
      walk_at "rd"
      refine (for_range (lo := 0) (n := L.toNat) (fun i σ H' => LyJ P w far lf lc D L W fi se pl n Ha i σ H') (.mk (ps := []) (smb.trans smc) (smc _ _ upc) upD (fun p hp => nomatch hp) (by rw [Nat.zero_mul]; rfl)) ?_ ?_)
      · rintro i _ H2 hi @⟨_, ps0, _, _, _, _, _, _, sm2, ec2, eD2, hb2, hv2⟩
        have him : i < m := by omega
        walk_at "rd"
        refine (for_range (lo := 0) (n := W.toNat) (fun j σ H' => LyK P w far lf lc D L W fi se pl n Ha i (0 + (i : Int)) j σ H') (.mk sm2 ec2 eD2 hb2 hv2) ?_ ?_)
        · rintro j _ H3 hj @⟨_, ps, _, _, _, _, _, sm3, ec3, eD3, hb3, hv3⟩
          have hjn : j < n := by omega
          have htt : i * n + j < m * n := by
            have z : (i + 1) * n ≤ m * n := Nat.mul_le_mul_right n him
            rw [Nat.succ_mul] at z
            omega
          have ecell : cellAt n (i * n + j) = (0 + (i : Int), 0 + (j : Int)) := by
            unfold cellAt
            rw [show (i * n + j) / n = i by rw [Nat.mul_comm, Nat.mul_add_div n0.1, Nat.div_eq_of_lt hjn]; rfl, show (i * n + j) % n = j by rw [Nat.mul_comm, Nat.mul_add_mod, Nat.mod_eq_of_lt hjn], Int.zero_add, Int.zero_add]
          have fcc := fc _ htt
          rw [ecell] at fcc
          walk_at "rd"
          intro t4 ht4
          generalize hH4 : upd H3 t4 _ = H4
          obtain ⟨sm4, up4⟩ : Same H3 H4 ∧ H4 t4 = some (.tup (cellV (0 + (i : Int), 0 + (j : Int)))) := newH hH4 ht4
          clear hH4
          have cc : cellB L W (0 + (i : Int), 0 + (j : Int)) = true := by
            unfold cellB
            simp only [Bool.and_eq_true, decide_eq_true_eq]
            omega
          refine .mk zL zW zf zs fo.free up4 cc fun p5 c5 H5 sm5 hp5 hc5 => ?_
          rw [brick_C fo.plan] at hp5 hc5
          generalize hbk : brickC L W fi se pl (0 + (i : Int), 0 + (j : Int)) = bk at hp5 hc5 fcc
          refine ⟨p5, _, rfl, sqT hp5, rfl, ?_⟩
          walk_at "rd"
          intro t6 ht6
          generalize hH6 : upd H5 t6 _ = H6
          obtain ⟨sm6, up6⟩ : Same H5 H6 ∧ H6 t6 = some (.tup (cellV (0 + (i : Int), 0 + (j : Int)))) := newH hH6 ht6
          clear hH6
          walk_at "rd"
          refine .mk (x := bk.x) (y := bk.y) (sm6 _ _ hc5) f0 se0 fun pc H7 cs sm7 epc hce hvc => ?_
          refine ⟨_, _, dp_cell (sm7 _ _ up6), .lst (sqL epc) (dp_cells hce), (shp_cell _).ok (by decide), (shp_cells _).ok (by decide), ?_⟩
          rw [hvc, cell_in fcc.1]
          have s37 := sm4.trans (sm5.trans (sm6.trans sm7))
          have hc7 := sm7 _ _ (sm6 _ _ hc5)
          have eD7 := s37 _ _ eD3
          have hb7 := hb3.mono s37
          have ec7 := s37 _ _ ec3
          refine ⟨_, rfl, iteF (tn ?_)⟩
          dsimp only
          refine if_no (H' := H7) (fun r hr0 => ?_) ?_
          · walk_at "rd"
            refine iteEq (fun e => ?_) (fun _ => hr0)
            rw [fcc.2 e]
            exact ⟨_, rfl, _, rfl, hr0⟩
          walk_at "rd"
          refine ⟨c5, _, 0, _, rfl, rfl, sqT hc7, rfl, ?_⟩
          walk_at "rd"
          refine ⟨c5, _, 1, _, rfl, rfl, sqT hc7, rfl, ?_⟩
          walk_at "rd"
          intro t7 ht7
          generalize hH8 : upd H7 t7 _ = H8
          obtain ⟨sm8, up7⟩ : Same H7 H8 ∧ H8 t7 = some (.tup bk.vs) := newH hH8 ht7
          clear hH8
          have s38 := s37.trans sm8
          have eD8 := sm8 _ _ eD7
          have hb8 := hb7.mono sm8
          have hl3 : ps.length ≤ 400 := by
            rw [← vals_len, hv3]
            have := fo.le
            exact Nat.le_trans (gathC_le _ _ _ _ _ _ _) (by omega)
          obtain ⟨qs, eq1, eq2, eq3⟩ := ents_put ps t7 bk
          refine ⟨D, t7, kN bk, _, rfl, rfl, eD8, keys_ents hb8, kN_is up7, kN_depth _, ?_, ?_⟩
          · unfold ents
            rw [List.length_map]
            exact Nat.lt_of_le_of_lt hl3 (by decide)
          rw [eq1]
          refine .mk (ps := qs) (same_mut (sm3.trans s38) hDa) ?_ upd_same (fun p hp => ?_) ?_
          · rw [upd_ne nDc]
            exact s38 _ _ ec3
          · have z : H8 p.1 = some (.tup p.2.vs) := by
              rcases eq3 p hp with z | z
              · exact hb8 p z
              · rw [z]
                exact up7
            rw [upd_ne (ne_of z eD8 (by intro z; cases z))]
            exact z
          · rw [eq2, hv3]
            show _ = addB (gathC L W fi se pl n (i * n + j)) (brickC L W fi se pl (cellAt n (i * n + j)))
            rw [ecell, hbk]
        · rintro _ H3 @⟨_, ps, _, _, _, _, _, sm3, ec3, eD3, hb3, hv3⟩
          refine .mk sm3 ec3 eD3 hb3 ?_
          rw [hv3, Nat.succ_mul, show W.toNat = n by omega]
      · rintro _ H2 @⟨_, ps, _, _, _, _, _, _, sm2, ec2, eD2, hb2, hv2⟩
        have hv : vals ps = gathC L W fi se pl n (m * n) := by rw [hv2, show L.toNat = m by omega]
        have hln : (ents ps).length = ps.length := by unfold ents; rw [List.length_map]
        have npD : ∀ p ∈ ps, p.1 ≠ D ∧ p.1 ≠ lc := fun p hp => by
          have z := hb2 p hp
          exact ⟨ne_of z eD2 (by intro z; cases z), ne_of z ec2 (by intro z; cases z)⟩
        refine ⟨D, _, eD2, trivial, fun od => ?_⟩
        generalize hH3 : upd H2 D _ = H3
        have eD3 : H3 D = some (.frz od (DN P w D (ents ps))) := by rw [← hH3]; exact upd_same
        have kp3 : ∀ b o, b ≠ D → H2 b = some o → H3 b = some o := fun b o hb h => by rw [← hH3, upd_ne hb]; exact h
        clear hH3
        refine ⟨_, rfl, D, od, ents ps, rfl, eD3, for_keysN (P := P) (w := w) (d := D) (o := od) (ns := ents ps) (fun i σ H' => LyC P w far lf lc D L W fi se ps od H2 i σ H') (.mk (fun b o h1 _ h => kp3 b o h1 h) (kp3 _ _ nDc ec2) eD3) ?_ ?_ ?_⟩
        · rintro i _ H' _ ⟨_, _, e⟩
          exact e
        · rintro i e _ H4 he @⟨_, _, _, _, _, _, _, kp, ec, eD⟩
          obtain ⟨pb, hpb, hpm, rfl⟩ : ∃ pb, ps[i]? = some pb ∧ pb ∈ ps ∧ e = (kN pb.2, pb.1, V.bl true) := by
            unfold ents at he
            rw [List.getElem?_map] at he
            cases h : ps[i]? with
            | none => rw [h] at he; cases he
            | some pb =>
              rw [h] at he
              exact ⟨pb, rfl, List.mem_of_getElem? h, (Option.some.inj he).symm⟩
          obtain ⟨a, b⟩ := pb
          have hb4 : H4 a = some (.tup b.vs) := kp _ _ (npD _ hpm).1 (npD _ hpm).2 (hb2 _ hpm)
          have htk : (vals ps).take (i + 1) = (vals ps).take i ++ [b] := take_snoc (by unfold vals; rw [List.getElem?_map, hpb]; rfl)
          have hsn := stand_snoc ((vals ps).take i) b
          rw [← htk] at hsn
          refine ⟨a, _, rfl, sqT hb4, rfl, ?_⟩
          walk_at "rd"
          have kpu : ∀ (xs : List V), ∀ b o, b ≠ D → b ≠ lc → H2 b = some o → (upd H4 lc (.lst xs)) b = some o := fun xs b o h1 h2 h => by rw [upd_ne h2]; exact kp b o h1 h2 h
          have eDu : ∀ (xs : List V), (upd H4 lc (.lst xs)) D = some (.frz od (DN P w D (ents ps))) := fun xs => by rw [upd_ne (Ne.symm nDc)]; exact eD
          obtain ⟨bx, by', bl⟩ := b
          cases bl with
          | false =>
            refine .inr ⟨false, rfl, lc, _, 0, _, rfl, rfl, sqL ec, rfl, ?_⟩
            walk_at "rd"
            refine .inr ⟨false, rfl, lc, _, 0, 0, rfl, rfl, ec, rfl, .mk (kpu _) ?_ (eDu _)⟩
            rw [upd_same, hsn.1, hsn.2]
            rfl
          | true =>
            refine .inr ⟨true, rfl, lc, _, 1, _, rfl, rfl, sqL ec, rfl, ?_⟩
            walk_at "rd"
            refine .inr ⟨true, rfl, lc, _, 1, 1, rfl, rfl, ec, rfl, .mk (kpu _) ?_ (eDu _)⟩
            rw [upd_same, hsn.1, hsn.2]
            rfl
        · rintro _ H4 @⟨_, _, _, _, _, _, _, kp, ec, eD⟩
          refine ⟨eD, ?_⟩
          rw [hln, ← vals_len, List.take_length, hv] at ec
          generalize hH5 : upd H4 D _ = H5
          have eD5 : H5 D = some (DN P w D (ents ps)) := by rw [← hH5]; exact upd_same
          have ec5 : H5 lc = some (.lst ([(standN (gathC L W fi se pl n (m * n)) : Int), (lieN (gathC L W fi se pl n (m * n)) : Int)].map V.int)) := by rw [← hH5, upd_ne nDc]; exact ec
          have hb5 : BrT H5 ps := fun p hp => by rw [← hH5, upd_ne (npD p hp).1]; exact kp _ _ (npD p hp).1 (npD p hp).2 (hb2 p hp)
          have sm5 : Same Ha H5 := fun b o h => by
            have h2 := sm2 _ _ h
            have n1 : b ≠ D := fun z => by rw [z, hDa] at h; cases h
            have n2 : b ≠ lc := ne_of_none h hlc
            rw [← hH5, upd_ne n1]
            exact kp _ _ n1 n2 h2
          clear hH5
          dsimp only
          walk_at "rd"
          refine ⟨D, _, rfl, eD5, fun l6 hl6 => ?_⟩
          rw [ents_refs]
          generalize hH6 : upd H5 l6 _ = H6
          obtain ⟨sm6, up6⟩ : Same H5 H6 ∧ H6 l6 = some (.lst (refs ps)) := newH hH6 hl6
          clear hH6
          have hpl : ps.length ≤ 1000 := by
            rw [← vals_len, hv]
            have := fo.le
            exact Nat.le_trans (gathC_le _ _ _ _ _ _ _) (by omega)
          have hLW : L * W ≤ 400 := by
            have := fo.le
            rw [eL, eW]
            exact_mod_cast this
          refine .mk (by omega) (by omega) hLW (by omega) (by omega) up6 (hb5.mono sm6) hpl fun pj H7 d sm7 at5 ij => ?_
          have efl := ij.full (by omega) (by omega)
          rw [hv, ffull] at efl
          obtain ⟨an, haj, ecl⟩ := at5.ans
          walk_at "rd"
          refine ⟨_, _, _, _, _, rfl, .own _, tyA G haj, kitA G an .full, ?_⟩
          rw [ecl, of_decide_eq_true efl]
          refine ⟨_, rfl, iteF (tn ?_)⟩
          dsimp only
          walk_at "rd"
          refine .mk zL zW zf zs fo.free fun H8 sm8 => ?_
          walk_at "rd"
          refine .mk zL zW zf zs fo.free fun H9 sm9 => ?_
          rw [fst, fli]
          have ec9 := (sm6.trans (sm7.trans (sm8.trans sm9))) _ _ ec5
          walk_at "rd"
          intro lz hlz
          generalize hHz : upd H9 lz _ = Hz
          obtain ⟨smz, upz⟩ : Same H9 Hz ∧ Hz lz = some (.lst ([(standN (gathC L W fi se pl n (m * n)) : Int), (lieN (gathC L W fi se pl n (m * n)) : Int)].map V.int)) := newH hHz hlz
          clear hHz
          walk_at "rd"
          refine ⟨_, _, .lst (sqL upz) (dp_ints _), .lst (sqL (smz _ _ ec9)) (dp_ints _), shp_ints _, shp_ints _, ?_⟩
          rw [SeqAt.eqv_refl _ rfl]
          walk_at "rd"
          refine iteF ?_
          exact .mk (sma.trans (sm5.trans (sm6.trans (sm7.trans (sm8.trans (sm9.trans smz))))))
    · rintro _ Ha @⟨_, y2, y3, y4, y5, y6, y7, y8, y9, y10, y11, y12, y13, sma⟩
      walk_at "rd"
      exact q _ (hT.ext (s0.trans sma))
end
end BF

/-! ### k11: a far laying -/
namespace BF
open PySem PySem.Spec PyProof.Rows L2 LamX NdefX
theorem cov_mem {f s : Int} (hf : 0 < f) (hs : 0 < s) {b : Brick} {c : Int × Int} (h : covB f s c b = true) : c ∈ cellsL f s b := by
  have z := cells_count hf hs b c
  rw [h, if_pos rfl] at z
  exact List.count_pos_iff.mp (by rw [z]; decide)
theorem far_plan {far : Int} (h : 1000000 < far) : planP (6 * far + 5) 6 2 3 = (2, 6) := plan_c (m := 1) (n := 2 * far + 1) (by omega) (by omega) (by omega) (by decide) ⟨⟨(show (0 : Int) ≤ 1 by decide), by show 0 ≤ 2 * far + 1; omega, by show 1 * 2 + (2 * far + 1) * 3 = 6 * far + 5; omega⟩, fun m n r => by obtain ⟨r1, r2, r3⟩ := r; show 1 ≤ m; omega⟩
theorem far_free {far : Int} (h : 1000000 < far) : Free (6 * far + 5) 6 2 3 := free_of (m := 1) (n := 2 * far + 1) (u := 3) (v := 0) (by decide) (by decide) (.inr (by decide)) (.inr (by decide)) ⟨by decide, by omega, by omega⟩ ⟨by decide, by decide, by decide⟩
theorem far_free2 {far : Int} (h : 1000000 < far) : Free 6 (6 * far + 5) 2 3 := free_of (m := 3) (n := 0) (u := 1) (v := 2 * far + 1) (by decide) (by decide) (.inl (by decide)) (.inl (by decide)) ⟨by decide, by decide, by decide⟩ ⟨by decide, by omega, by omega⟩
abbrev farB (far : Int) (c : Int × Int) : Brick := brickC (6 * far + 5) 6 2 3 (2, 6) c
theorem farB_lie {far x y : Int} (hx : x < 2) (hy : y < 6) : farB far (x, y) = ⟨x / 2 * 2, y / 3 * 3, true⟩ := by
  unfold farB brickC
  rw [if_pos ⟨hx, hy⟩]
theorem farB_stand {far x y : Int} (h : 1000000 < far) (hx : ¬ x < 2) : farB far (x, y) = ⟨2 + (x - 2) / 3 * 3, y / 2 * 2, false⟩ := by
  unfold farB brickC
  rw [if_neg (fun z => hx z.1)]
  dsimp only
  rw [if_pos rfl, if_neg (show ¬ (2 : Int) = 6 * far + 5 by omega), Int.sub_zero, Int.zero_add]
  rfl
theorem far_cell {far : Int} (h : 1000000 < far) {c : Int × Int} (hc : cellB (6 * far + 5) 6 c = true) : c ∈ cellsL 2 3 (farB far c) ∧ ∀ d ∈ cellsL 2 3 (farB far c), cellB (6 * far + 5) 6 d = true ∧ farB far d = farB far c := by
  obtain ⟨x, y⟩ := c
  unfold cellB at hc
  simp only [Bool.and_eq_true, decide_eq_true_eq] at hc
  by_cases hx : x < 2
  · have e := farB_lie (far := far) hx hc.2.2
    rw [e]
    refine ⟨cov_mem (by decide) (by decide) ?_, fun d hd => ?_⟩
    · unfold covB Brick.lo Brick.hi
      simp only [if_true, Bool.and_eq_true, decide_eq_true_eq]
      omega
    · obtain ⟨u, v⟩ := d
      have z := mem_cells (by decide) (by decide) hd
      unfold covB Brick.lo Brick.hi at z
      simp only [if_true, Bool.and_eq_true, decide_eq_true_eq] at z
      refine ⟨?_, ?_⟩
      · unfold cellB
        simp only [Bool.and_eq_true, decide_eq_true_eq]
        omega
      · rw [farB_lie (by omega) (by omega)]
        rw [show u / 2 * 2 = x / 2 * 2 by omega, show v / 3 * 3 = y / 3 * 3 by omega]
  · have e := farB_stand h (y := y) hx
    rw [e]
    refine ⟨cov_mem (by decide) (by decide) ?_, fun d hd => ?_⟩
    · unfold covB Brick.lo Brick.hi
      simp only [Bool.false_eq_true, if_false, Bool.and_eq_true, decide_eq_true_eq]
      omega
    · obtain ⟨u, v⟩ := d
      have z := mem_cells (by decide) (by decide) hd
      unfold covB Brick.lo Brick.hi at z
      simp only [Bool.false_eq_true, if_false, Bool.and_eq_true, decide_eq_true_eq] at z
      refine ⟨?_, ?_⟩
      · unfold cellB
        simp only [Bool.and_eq_true, decide_eq_true_eq]
        omega
      · rw [farB_stand h (by omega)]
        rw [show (u - 2) / 3 * 3 = (x - 2) / 3 * 3 by omega, show v / 2 * 2 = y / 2 * 2 by omega]
def bkD (b : Brick) : PyData := .tuple [cellD (b.x, b.y), .bool b.l]
theorem dp_bk {K : PySem.W.Frag} {H : Hp} {t c : Addr} {b : Brick} (h : H t = some (.tup [.ref c, .bl b.l])) (hc : H c = some (.tup (cellV (b.x, b.y)))) : Dp K H (.ref t) (bkD b) := .tup (sqT h) (.cons (dp_cell hc) (.cons (.bl _) .nil))
theorem shp_bk (b : Brick) : Shp 3 (bkD b) := shp_tuple (n := 2) fun e he => by
  have z : e = cellD (b.x, b.y) ∨ e = .bool b.l := by simpa using he
  rcases z with rfl | rfl
  · exact shp_cell _
  · exact ⟨(shp_bool _).c, Nat.le_trans (shp_bool _).h (by decide)⟩
def CellAt (L : Int) (H : Hp) (x : V) : Prop := ∃ t c, x = V.ref t ∧ H t = some (.tup (cellV c)) ∧ cellB L 6 c = true
inductive FaI (far L : Int) (H0 : Hp) : L2.St → Hp → Prop where
  | mk {H : Hp} {y3 y4 y5 y6 : Option V} (sm : Same H0 H) : FaI far L H0 [some (.int far), some (.int L), some (.int 6), y3, y4, y5, y6, none, none, none] H
theorem cell_yes {L x y : Int} (h : (0 ≤ x ∧ x < L) ∧ 0 ≤ y ∧ y < 6) : cellB L 6 (x, y) = true := by
  unfold cellB
  simp only [Bool.and_eq_true, decide_eq_true_eq]
  exact h
section
variable {P : Program} {w : World} {K : PySem.W.Frag} {mg : Str → Option Value} {base : Heap}
theorem H__law_far_laying {T : List (Addr × Str)} (p : Pl K mg "_law_far_laying" s__law_far_laying) (B : Bi mg) (h_brick_on : Has P w K mg base CX0 5 "brick_on" ["length", "width", "first", "second", "cell"] SpBrickOn) (h__law_cells_of : Has P w K mg base CX0 1 "_law_cells_of" ["_law_first", "_law_second", "_law_corner", "_law_lies"] SpLCells)
    (h_lying : Has P w K mg base CX0 5 "lying" ["length", "width", "first", "second"] SpLying) (h_standing : Has P w K mg base CX0 6 "standing" ["length", "width", "first", "second"] SpStanding) :
    Has P w K mg base CX0 7 "_law_far_laying" ["_law_far"] (SpFar T) := by
  refine p.mk0 sc__law_far_laying (fun _ _ _ _ _ _ us hl => match us, hl with | [_], _ => rfl) (fun vs H Q E h => ?_) (fun f cdv A outer s H vs Q E hr h => ?_)
  · cases h; rfl
  · obtain @⟨far, _, _, _, hf, hT, q⟩ := h
    have flo := hf.lo
    have cm6 : CMulX 6 far := Bn.mulOk (n := 10) (bnl (by decide)) hf.bn (by decide)
    have cm3 : CMulX 3 far := Bn.mulOk (n := 10) (bnl (by decide)) hf.bn (by decide)
    have zL : Sz (6 * far + 5) := ⟨by omega, ((Bn.mul (n := 10) (bnl (by decide)) hf.bn).add (m := 10) (bnl (by decide))).mono (by decide)⟩
    have z6 : Sz 6 := sz_lit (by decide) (by decide)
    have s2 : Ss 2 := ss_lit (by decide) (by decide)
    have s3 : Ss 3 := ss_lit (by decide) (by decide)
    have fpl := far_plan flo
    have fcl : ∀ c, cellB (6 * far + 5) 6 c = true → c ∈ cellsL 2 3 (farB far c) ∧ ∀ d ∈ cellsL 2 3 (farB far c), cellB (6 * far + 5) 6 d = true ∧ farB far d = farB far c := fun c hc => far_cell flo hc
    have fbr : ∀ c, brickP (6 * far + 5) 6 2 3 c = farB far c := fun c => brick_C fpl c
    have ffr := far_free flo
    have ffr2 := far_free2 flo
    have one1 : lieP (6 * far + 5) 6 2 3 + ((6 * far + 5) * 6 / (2 * 3) - lieP (6 * far + 5) 6 2 3) = 6 * far + 5 := by
      generalize lieP (6 * far + 5) 6 2 3 = l
      omega
    have one2 : lieP 6 (6 * far + 5) 2 3 + (6 * (6 * far + 5) / (2 * 3) - lieP 6 (6 * far + 5) 2 3) = 6 * far + 5 := by
      generalize lieP 6 (6 * far + 5) 2 3 = l
      omega
    have hcl : ∀ c ∈ [((0, 0) : Int × Int), (6 * far + 5 - 1, 5), (6 * far + 5 - 2, 0), (far, 3), (3 * far, 2), (6 * far + 5 - 5, 4), (6 * far + 5 - 6, 1)], cellB (6 * far + 5) 6 c = true := by
      refine allc ?_ <| allc ?_ <| allc ?_ <| allc ?_ <| allc ?_ <| allc ?_ <| allc ?_ alln
      all_goals exact cell_yes (by omega)
    refine ⟨_, (pss_cons (ps_asg (pe_tup (pa_cons (pe_op op_add (pe_op op_mulX pe_int (pv 0)) pe_int) (pa_cons pe_int pa_nil))) (pg_tup (by rfl) (pgs_cons (pg_name (i := 1) sc__law_far_laying.nd rfl (Or.inr rfl)) (pgs_cons (pg_name (i := 2) sc__law_far_laying.nd rfl (Or.inr rfl)) pgs_nil))))
      (pss_cons (ps_if (pt_cmpR op_ne (pe_op op_add (pe_fn h_lying (hr.mono (by decide)) pass0 (pa_cons (pv 1) (pa_cons (pv 2) (pa_cons pe_int (pa_cons pe_int pa_nil))))) (pe_fn h_standing (hr.mono (by decide)) pass0 (pa_cons (pv 1) (pa_cons (pv 2) (pa_cons pe_int (pa_cons pe_int pa_nil)))))) (pv 1) (nomark _)) (pss_one (ps_ret pe_bl)) pss_nil)
      (pss_cons (ps_if (pt_cmpR op_ne (pe_op op_add (pe_fn h_lying (hr.mono (by decide)) pass0 (pa_cons (pv 2) (pa_cons (pv 1) (pa_cons pe_int (pa_cons pe_int pa_nil))))) (pe_fn h_standing (hr.mono (by decide)) pass0 (pa_cons (pv 2) (pa_cons (pv 1) (pa_cons pe_int (pa_cons pe_int pa_nil)))))) (pv 1) (nomark _)) (pss_one (ps_ret pe_bl)) pss_nil)
      (pss_cons (ps_for PassesOwn.never (by rfl) (pi_tup (pe_tup (pa_cons (pe_tup (pa_cons pe_int (pa_cons pe_int pa_nil))) (pa_cons (pe_tup (pa_cons (pe_op op_sub (pv 1) pe_int) (pa_cons pe_int pa_nil))) (pa_cons (pe_tup (pa_cons (pe_op op_sub (pv 1) pe_int) (pa_cons pe_int pa_nil))) (pa_cons (pe_tup (pa_cons (pv 0) (pa_cons pe_int pa_nil))) (pa_cons (pe_tup (pa_cons (pe_op op_mulX pe_int (pv 0)) (pa_cons pe_int pa_nil))) (pa_cons (pe_tup (pa_cons (pe_op op_sub (pv 1) pe_int) (pa_cons pe_int pa_nil))) (pa_cons (pe_tup (pa_cons (pe_op op_sub (pv 1) pe_int) (pa_cons pe_int pa_nil))) pa_nil))))))))) (pg_name (i := 3) sc__law_far_laying.nd rfl (Or.inl rfl)) (pss_cons (ps_asg (pe_fn h_brick_on (hr.mono (by decide)) pass0 (pa_cons (pv 1) (pa_cons (pv 2) (pa_cons pe_int (pa_cons pe_int (pa_cons (pv 3) pa_nil)))))) (pg_tup (by rfl) (pgs_cons (pg_name (i := 4) sc__law_far_laying.nd rfl (Or.inr rfl)) (pgs_cons (pg_name (i := 5) sc__law_far_laying.nd rfl (Or.inr rfl)) pgs_nil))))
      (pss_cons (ps_set (i := 6) sc__law_far_laying.nd rfl (Or.inl rfl) (pe_fn h__law_cells_of (hr.mono (by decide)) pass0 (pa_cons pe_int (pa_cons pe_int (pa_cons (pv 4) (pa_cons (pv 5) pa_nil))))))
      (pss_cons (ps_if (pt_cmpR (r := rNotInD K) (op_notInD (u65 hr)) (pv 3) (pv 6) (by rfl)) (pss_one (ps_ret pe_bl)) pss_nil)
      (pss_cons (ps_if (pt_val (pe_callB (cr_any rfl) (by rfl) B.any (by decide +kernel) (pa_cons (pe_lc (own := [("_law_one", 7)]) (by rfl) sc__law_far_laying.nd (pi_list (pv 6)) (blkOk_by (own := [("_law_one", 7)]) (N := ["_law_far", "_law_length", "_law_width", "_law_cell", "_law_corner", "_law_lies", "_law_cells", "_law_one", "_law_along", "_law_up"]) (sc := defScope s__law_far_laying) (by decide +kernel)) (fun _ _ _ _ _ => (pg_name (i := 7) sc__law_far_laying.nd rfl (Or.inl rfl))) (fun _ _ _ _ _ => pts_nil) (fun _ _ _ _ _ => (pe_cmpR (r := rNeD K) (op_neD hr.units) (pe_fn h_brick_on (hr.mono (by decide)) pass0 (pa_cons (pv 1) (pa_cons (pv 2) (pa_cons pe_int (pa_cons pe_int (pa_cons (pv 7) pa_nil)))))) (pe_tup (pa_cons (pv 4) (pa_cons (pv 5) pa_nil))) (nomark _)))) pa_nil))) (pss_one (ps_ret pe_bl)) pss_nil)
      (pss_one (ps_if (pt_not (pt_val (pe_callB (cr_all rfl) (by rfl) B.all (by decide +kernel) (pa_cons (pe_lc (own := [("_law_along", 8), ("_law_up", 9)]) (g := (gTup K 2 (gCons (gName 8) (gCons (gName 9) gNil)))) (by rfl) sc__law_far_laying.nd (pi_list (pv 6)) (blkOk_by (own := [("_law_along", 8), ("_law_up", 9)]) (N := ["_law_far", "_law_length", "_law_width", "_law_cell", "_law_corner", "_law_lies", "_law_cells", "_law_one", "_law_along", "_law_up"]) (sc := defScope s__law_far_laying) (by decide +kernel)) (fun _ _ _ _ _ => (pg_tup (by rfl) (pgs_cons (pg_name (i := 8) sc__law_far_laying.nd rfl (Or.inl rfl)) (pgs_cons (pg_name (i := 9) sc__law_far_laying.nd rfl (Or.inl rfl)) pgs_nil)))) (fun _ _ _ _ _ => pts_nil) (fun _ _ _ _ _ => (pe_and (pe_chain op_le op_lt pe_int (pv 8) (pv 1)) (pe_one (pe_chain op_le op_lt pe_int (pv 9) (pv 2)))))) pa_nil)))) (pss_one (ps_ret pe_bl)) pss_nil)))))))
      (pss_one (ps_ret pe_bl)))))), ?_⟩
    walk_at "rd"
    intro t0 h_t0
    generalize hH1 : upd H t0 _ = H1
    obtain ⟨sm1, up_t0⟩ : Same H H1 ∧ H1 t0 = some (.tup [.int (6 * far + 5), .int 6]) := newH hH1 h_t0
    clear hH1
    refine ⟨t0, _, rfl, sqT up_t0, rfl, ?_⟩
    generalize 6 * far + 5 = L at *
    walk_at "rd"
    refine .mk zL z6 s2 s3 ffr fun H2 sm2 => ?_
    walk_at "rd"
    refine .mk zL z6 s2 s3 ffr fun H3 sm3 => ?_
    walk_at "rd"
    refine iteNe (fun z => absurd one1 z) (fun _ => ?_)
    walk_at "rd"
    refine .mk z6 zL s2 s3 ffr2 fun H4 sm4 => ?_
    walk_at "rd"
    refine .mk z6 zL s2 s3 ffr2 fun H5 sm5 => ?_
    walk_at "rd"
    refine iteNe (fun z => absurd one2 z) (fun _ => ?_)
    walk_at "rd"
    intro a1 h_a1
    generalize hH6 : upd H5 a1 _ = H6
    obtain ⟨sm6, up_a1⟩ : Same H5 H6 ∧ H6 a1 = some (.tup (cellV (0, 0))) := newH hH6 h_a1
    clear hH6
    walk_at "rd"
    intro a2 h_a2
    generalize hH7 : upd H6 a2 _ = H7
    obtain ⟨sm7, up_a2⟩ : Same H6 H7 ∧ H7 a2 = some (.tup (cellV (L - 1, 5))) := newH hH7 h_a2
    clear hH7
    walk_at "rd"
    intro a3 h_a3
    generalize hH8 : upd H7 a3 _ = H8
    obtain ⟨sm8, up_a3⟩ : Same H7 H8 ∧ H8 a3 = some (.tup (cellV (L - 2, 0))) := newH hH8 h_a3
    clear hH8
    walk_at "rd"
    intro a4 h_a4
    generalize hH9 : upd H8 a4 _ = H9
    obtain ⟨sm9, up_a4⟩ : Same H8 H9 ∧ H9 a4 = some (.tup (cellV (far, 3))) := newH hH9 h_a4
    clear hH9
    walk_at "rd"
    intro a5 h_a5
    generalize hH10 : upd H9 a5 _ = H10
    obtain ⟨sm10, up_a5⟩ : Same H9 H10 ∧ H10 a5 = some (.tup (cellV (3 * far, 2))) := newH hH10 h_a5
    clear hH10
    walk_at "rd"
    intro a6 h_a6
    generalize hH11 : upd H10 a6 _ = H11
    obtain ⟨sm11, up_a6⟩ : Same H10 H11 ∧ H11 a6 = some (.tup (cellV (L - 5, 4))) := newH hH11 h_a6
    clear hH11
    walk_at "rd"
    intro a7 h_a7
    generalize hH12 : upd H11 a7 _ = H12
    obtain ⟨sm12, up_a7⟩ : Same H11 H12 ∧ H12 a7 = some (.tup (cellV (L - 6, 1))) := newH hH12 h_a7
    clear hH12
    walk_at "rd"
    intro T h_T
    generalize hH13 : upd H12 T _ = H13
    obtain ⟨sm13, up_T⟩ : Same H12 H13 ∧ H13 T = some (.tup [.ref a1, .ref a2, .ref a3, .ref a4, .ref a5, .ref a6, .ref a7]) := newH hH13 h_T
    clear hH13
    have hcs : ∀ x ∈ [V.ref a1, .ref a2, .ref a3, .ref a4, .ref a5, .ref a6, .ref a7], CellAt L H13 x := by
      refine allc ?_ <| allc ?_ <| allc ?_ <| allc ?_ <| allc ?_ <| allc ?_ <| allc ?_ alln
      · exact ⟨a1, _, rfl, ((sm7.trans (sm8.trans (sm9.trans (sm10.trans (sm11.trans (sm12.trans sm13)))))) _ _ up_a1), hcl _ (.head _)⟩
      · exact ⟨a2, _, rfl, ((sm8.trans (sm9.trans (sm10.trans (sm11.trans (sm12.trans sm13))))) _ _ up_a2), hcl _ (.tail _ (.head _))⟩
      · exact ⟨a3, _, rfl, ((sm9.trans (sm10.trans (sm11.trans (sm12.trans sm13)))) _ _ up_a3), hcl _ (.tail _ (.tail _ (.head _)))⟩
      · exact ⟨a4, _, rfl, ((sm10.trans (sm11.trans (sm12.trans sm13))) _ _ up_a4), hcl _ (.tail _ (.tail _ (.tail _ (.head _))))⟩
      · exact ⟨a5, _, rfl, ((sm11.trans (sm12.trans sm13)) _ _ up_a5), hcl _ (.tail _ (.tail _ (.tail _ (.tail _ (.head _)))))⟩
      · exact ⟨a6, _, rfl, ((sm12.trans sm13) _ _ up_a6), hcl _ (.tail _ (.tail _ (.tail _ (.tail _ (.tail _ (.head _))))))⟩
      · exact ⟨a7, _, rfl, (sm13 _ _ up_a7), hcl _ (.tail _ (.tail _ (.tail _ (.tail _ (.tail _ (.tail _ (.head _)))))))⟩
    have eT := up_T
    have s0 : Same H H13 := (sm1.trans (sm2.trans (sm3.trans (sm4.trans (sm5.trans (sm6.trans (sm7.trans (sm8.trans (sm9.trans (sm10.trans (sm11.trans (sm12.trans sm13))))))))))))
    generalize [V.ref a1, .ref a2, .ref a3, .ref a4, .ref a5, .ref a6, .ref a7] = xs at hcs eT
    refine ⟨T, rfl, ⟨_, sqT eT⟩, for_tup (K := K) (a := T) (xs := xs) (fun i σ H' => FaI far L H13 σ H') (.mk fun _ _ z => z) ?_ ?_ ?_⟩
    · rintro i _ H' _ ⟨sm⟩
      exact sqT (sm _ _ eT)
    · rintro i x _ H100 hi @⟨_, y3, y4, y5, y6, sm100⟩
      obtain ⟨t, c, rfl, ht, hc⟩ := hcs x (List.mem_of_getElem? hi)
      have ht1 := sm100 _ _ ht
      obtain ⟨cin, call⟩ := fcl c hc
      walk_at "rd"
      refine .mk zL z6 s2 s3 ffr ht1 hc fun p5 c5 H101 sm101 hp5 hc5 => ?_
      rw [fbr] at hp5 hc5
      generalize hbk : farB far c = bk at hp5 hc5 cin call
      refine ⟨p5, _, rfl, sqT hp5, rfl, ?_⟩
      walk_at "rd"
      refine .mk (x := bk.x) (y := bk.y) hc5 ⟨by decide, by decide⟩ ⟨by decide, by decide⟩ fun lc H102 cs sm102 elc hce hvc => ?_
      walk_at "rd"
      have s02 := sm101.trans sm102
      refine ⟨_, _, dp_cell (s02 _ _ ht1), .lst (sqL elc) (dp_cells hce), (shp_cell _).ok (by decide), (shp_cells _).ok (by decide), ?_⟩
      rw [hvc, cell_in cin]
      have hc2 := sm102 _ _ hc5
      have lcs : cs.length ≤ 1000 := by
        rw [← vals_len, hvc]
        unfold cellsL
        rw [cols_len]
        unfold Brick.lo Brick.hi
        split <;> decide
      have hdc : ∀ q ∈ cs, cellB L 6 q.2 = true ∧ farB far q.2 = bk := fun q hq => call _ (by rw [← hvc]; exact List.mem_map.mpr ⟨q, hq, rfl⟩)
      have elb : ∀ {j : Nat} {x : V}, (refs cs)[j]? = some x → ∃ q, q ∈ cs ∧ x = .ref q.1 ∧ j < 1000 := fun {j x} hj => by
        have lt := (List.getElem?_eq_some_iff.mp hj).1
        rw [refs_len] at lt
        obtain ⟨q, hq, e, hm⟩ := refs_at hj
        exact ⟨q, hm, e, by omega⟩
      walk_at "rd"
      refine ⟨⟨_, sqL elc⟩, fun D hD => ?_⟩
      refine lc_list (K := K) (a := lc) (xs := refs cs) (fun j H' => Same H102 H' ∧ H' D = some (.lst ((List.replicate j false).map V.bl)) ∧ j ≤ 1000) ⟨same_upd hD, upd_same, Nat.zero_le _⟩ (fun j H' _ ⟨sm, _⟩ => sqL (sm _ _ elc)) ?_ ?_
      · rintro j x H103 hj ⟨sm103, eD, hjl⟩
        obtain ⟨q1, hq1, rfl, hj2⟩ := elb hj
        refine ⟨rfl, lc_yes ?_⟩
        walk_at "rd"
        refine .mk zL z6 s2 s3 ffr (sm103 _ _ (hce _ hq1)) (hdc _ hq1).1 fun p6 c6 H104 sm104 hp6 hc6 => ?_
        rw [fbr, (hdc _ hq1).2] at hp6 hc6
        walk_at "rd"
        intro t7 ht7
        generalize hH5 : upd H104 t7 _ = H105
        obtain ⟨sm105, up7⟩ : Same H104 H105 ∧ H105 t7 = some (.tup [.ref c5, .bl bk.l]) := newH hH5 ht7
        clear hH5
        refine ⟨_, _, dp_bk (sm105 _ _ hp6) (sm105 _ _ hc6), dp_bk up7 ((sm103.trans (sm104.trans sm105)) _ _ hc2), (shp_bk _).ok (by decide), (shp_bk _).ok (by decide), ?_⟩
        rw [SeqAt.eqv_refl _ (shp_bk bk).c]
        refine ⟨_, (sm104.trans sm105) _ _ eD, size3 (by rw [List.length_map, List.length_replicate]; exact hjl), same_mut2 (sm103.trans (sm104.trans sm105)) hD, ?_, by omega⟩
        rw [upd_same, List.replicate_succ', List.map_append]
        rfl
      rintro H103 ⟨sm103, eD, _⟩
      refine ⟨D, _, rfl, sqL eD, ?_⟩
      rw [all_false]
      have elc3 := sm103 _ _ elc
      walk_at "rd"
      refine ⟨⟨_, sqL elc3⟩, fun D2 hD2 => ?_⟩
      refine lc_list (K := K) (a := lc) (xs := refs cs) (fun j H' => Same H103 H' ∧ H' D2 = some (.lst ((List.replicate j true).map V.bl)) ∧ j ≤ 1000) ⟨same_upd hD2, upd_same, Nat.zero_le _⟩ (fun j H' _ ⟨sm, _⟩ => sqL (sm _ _ elc3)) ?_ ?_
      · rintro j x H104 hj ⟨sm104, eD2, hjl⟩
        obtain ⟨⟨a, u, v⟩, hq1, rfl, hj2⟩ := elb hj
        have hcc := (hdc _ hq1).1
        unfold cellB at hcc
        simp only [Bool.and_eq_true, decide_eq_true_eq] at hcc
        refine ⟨a, _, rfl, sqT ((sm103.trans sm104) _ _ (hce _ hq1)), rfl, ?_⟩
        walk_at "rd"
        refine iteP hcc.1.1 ?_
        walk_at "rd"
        refine iteP hcc.1.2 ?_
        walk_at "rd"
        refine iteP hcc.2.1 ?_
        walk_at "rd"
        dsimp only
        rw [decide_eq_true hcc.2.2]
        refine ⟨_, eD2, size3 (by rw [List.length_map, List.length_replicate]; exact hjl), same_mut2 sm104 hD2, ?_, by omega⟩
        rw [upd_same, List.replicate_succ', List.map_append]
        rfl
      rintro H104 ⟨sm104, eD2, _⟩
      refine ⟨D2, _, rfl, sqL eD2, ?_⟩
      rw [all_true]
      refine ⟨_, rfl, iteF ?_⟩
      exact .mk (sm100.trans (s02.trans (sm103.trans sm104)))
    · rintro _ Ha @⟨_, y3, y4, y5, y6, sma⟩
      walk_at "rd"
      exact q _ (hT.ext (s0.trans sma))
end
end BF

/-! ### the law k11 -/
namespace BF
open PySem PySem.Spec PyProof.Rows L2 LamX NdefX
theorem sum_le {N : Nat} : ∀ {ms : List Int}, (∀ z ∈ ms, z.natAbs < 2 ^ N) → ms.sum.natAbs ≤ ms.length * 2 ^ N
  | [], _ => Nat.zero_le _
  | z :: ms, h => by
    have a := h z (by simp)
    have b := sum_le (ms := ms) fun y hy => h y (List.mem_cons_of_mem _ hy)
    rw [List.sum_cons, List.length_cons, Nat.succ_mul]
    have c := Int.natAbs_add_le z ms.sum
    generalize 2 ^ N = X at a b ⊢
    generalize ms.length * X = Y at b ⊢
    omega
theorem sum_bn {N : Nat} {ms : List Int} (h : ∀ z ∈ ms, Bn N z) (hl : ms.length ≤ 63) : Bn (N + 6) ms.sum := by
  refine ⟨Nat.lt_of_le_of_lt (sum_le fun z hz => (h z hz).lt) ?_⟩
  rw [Nat.pow_add, Nat.mul_comm (2 ^ N)]
  exact Nat.mul_lt_mul_of_lt_of_le (Nat.lt_of_le_of_lt hl (by decide)) (Nat.le_refl _) (Nat.two_pow_pos _)
theorem far_of {x : Int} (h : Bn 1048600 x) : Far (10 ^ Int.toNat 30 + (if x < 0 then -x else x)) := by
  have e : (10 : Int) ^ Int.toNat 30 = 1000000000000000000000000000000 := by decide
  rw [e]
  have b : Bn 1048600 (if x < 0 then -x else x) := h.le (by split <;> omega)
  have n : 0 ≤ (if x < 0 then -x else x) := by split <;> omega
  generalize (if x < 0 then -x else x) = y at b n
  exact ⟨by omega, (Bn.add (n := 100) (bnl (by decide)) b).mono (by decide)⟩
inductive SpLaw11 (K : PySem.W.Frag) : Sp where
  | mk {a : Addr} {ns : List Int} {H : Hp} {Q : VK} {E : XK} (hl : ns.length ≤ 63) (hb : ∀ z ∈ ns, Builtin.Int.intBits z ≤ 1048576) (hS : SqL K H a (ns.map V.int)) (hT : Tabs (tabs K) H) (q : ∀ H', Q (.bl true) H') : SpLaw11 K [.ref a] H Q E
section
variable {P : Program} {w : World} {K : PySem.W.Frag} {mg : Str → Option Value} {base : Heap}
theorem H_law (p : Pl K mg "law" s_law) (B : Bi mg) (h__law_told_right : Has P w K mg base CX0 5 "_law_told_right" ["_law_far"] (SpFar (tabs K))) (h__law_laying_right : Has P w K mg base CX0 7 "_law_laying_right" ["_law_far"] (SpFar (tabs K))) (h__law_far_laying : Has P w K mg base CX0 7 "_law_far_laying" ["_law_far"] (SpFar (tabs K)))
    (h__law_laying_refused : Has P w K mg base CX0 10 "_law_laying_refused" [] (SpNil (tabs K))) (h__law_colours_right : Has P w K mg base CX0 10 "_law_colours_right" ["_law_far"] (SpFar (tabs K))) (h__law_judged_right : Has P w K mg base CX0 5 "_law_judged_right" ["_law_far"] (SpFar (tabs K)))
    (h__law_judges_right : Has P w K mg base CX0 10 "_law_judges_right" [] (SpNil (tabs K))) : Has P w K mg base CX0 11 "law" ["_law_script"] (SpLaw11 K) := by
  refine p.mk0 sc_law (fun _ _ _ _ _ _ us hl => match us, hl with | [_], _ => rfl) (fun vs H Q E h => ?_) (fun f cdv A outer s H vs Q E hr h => ?_)
  · cases h; rfl
  · obtain @⟨a, ns, _, _, _, hl, hbits, hS, hT, q⟩ := h
    refine ⟨_, (pss_cons (ps_set (i := 1) sc_law.nd rfl (Or.inl rfl) (pe_op op_add (pe_op op_pow pe_int pe_int) (pe_callB call_abs (by rfl) B.abs (by decide +kernel) (pa_cons (pe_callB (cr_sum rfl) (by rfl) B.sum (by decide +kernel) (pa_cons (pe_slice (r := rSlL K) sl_list (pv 0) po_none (po_some pe_int)) pa_nil)) pa_nil))))
      (pss_cons (ps_if (PW.pt (pw_or (pt_not (pt_val (pe_fn h__law_told_right (hr.mono (by decide)) pass0 (pa_cons (pv 1) pa_nil)))) (pw_or (pt_not (pt_val (pe_fn h__law_laying_right (hr.mono (by decide)) pass0 (pa_cons (pv 1) pa_nil)))) (pw_or1 (pt_not (pt_val (pe_fn h__law_far_laying (hr.mono (by decide)) pass0 (pa_cons (pv 1) pa_nil)))))))) (pss_one (ps_ret pe_bl)) pss_nil)
      (pss_cons (ps_if (pt_not (pt_val (pe_fn0 h__law_laying_refused (hr.mono (by decide)) pass0))) (pss_one (ps_ret pe_bl)) pss_nil)
      (pss_one (ps_ret (pe_and (pe_fn h__law_colours_right (hr.mono (by decide)) pass0 (pa_cons (pv 1) pa_nil)) (pe_and (pe_fn h__law_judged_right (hr.mono (by decide)) pass0 (pa_cons (pv 1) pa_nil)) (pe_one (pe_fn0 h__law_judges_right (hr.mono (by decide)) pass0))))))))), ?_⟩
    walk_at "rd"
    obtain ⟨ms, ems, hms, hml⟩ := cut_ints2 ns none (some 2)
    refine ⟨a, _, rfl, hS, fun l1 hl1 => ?_⟩
    generalize hH1 : upd H l1 _ = H1
    obtain ⟨sm1, up1⟩ : Same H H1 ∧ H1 l1 = some (.lst (ms.map V.int)) := by rw [← ems]; exact newH hH1 hl1
    clear hH1
    have bs : Bn 1048600 ms.sum := (sum_bn (N := 1048577) (fun z hz => bn_bits (hbits z (hms z hz))) (by omega)).mono (by decide)
    have fo := far_of bs
    refine ⟨l1, ms, rfl, sqL up1, ?_⟩
    walk_at "rd"
    dsimp only
    generalize 10 ^ Int.toNat 30 + (if ms.sum < 0 then -ms.sum else ms.sum) = far at fo ⊢
    refine .mk fo (hT.ext sm1) fun H2 hT2 => ?_
    walk_at "rd"
    refine .mk fo hT2 fun H3 hT3 => ?_
    walk_at "rd"
    refine .mk fo hT3 fun H4 hT4 => ?_
    walk_at "rd"
    refine .mk hT4 fun H5 hT5 => ?_
    walk_at "rd"
    refine .mk fo hT5 fun H6 hT6 => ?_
    walk_at "rd"
    refine .mk fo hT6 fun H7 hT7 => ?_
    walk_at "rd"
    refine .mk hT7 fun H8 hT8 => ?_
    exact q _
end
end BF

/-! ### what the top leaves of the classes -/
namespace BF
open PySem PySem.Spec PyProof.Rows L2
def Cl.one : Cl → Bool
  | .striped => true
  | .short => true
  | .beyond => true
  | .twice => true
  | .bare => true
  | _ => false
def Cl.zero : Cl → Bool
  | .laid => true
  | .full => true
  | _ => false
def shB (K : PySem.W.Frag) (x : Cl) : Bool := x == .answer || (He.Fa.meth x.nm "shows").ok K
def oneB (K : PySem.W.Frag) (x : Cl) : Bool := !x.one || ((He.Fa.mkr x.nm).ok K && (He.Fa.meth x.nm "__init__").ok K)
def zeroB (K : PySem.W.Frag) (x : Cl) : Bool := !x.zero || decide (PySem.W.findIn K (.ref (cl K x)) "__init__" = some (some (.builtin "object.__init__")))
def exB (K : PySem.W.Frag) : Bool := Cl.has.all (clB K) && ((Cl.has.all fun x => shB K x && (oneB K x && zeroB K x)) && (ersB K && (decide ((cR K).2 ≠ (cC K).2) && (decide ((cR K).2 ≠ (cJ K).2) && decide ((cC K).2 ≠ (cJ K).2)))))
section
variable {K : PySem.W.Frag} {x : Cl}
theorem exB_cl (c : exB K = true) : Cl.has.all (clB K) = true := (He.ba c).1
theorem exB_all (c : exB K = true) (hx : x ∈ Cl.has) : shB K x = true ∧ oneB K x = true ∧ zeroB K x = true := by
  have a := List.all_eq_true.mp (He.ba (He.ba c).2).1 x hx
  exact ⟨(He.ba a).1, (He.ba (He.ba a).2).1, (He.ba (He.ba a).2).2⟩
theorem exB_shows (c : exB K = true) (hx : x ∈ Cl.has) (hn : (x == .answer) = false) : Meth K (cl K x) "shows" (He.ma K (cl K x) "shows") := by
  have a := (exB_all c hx).1
  unfold shB at a
  rw [hn] at a
  exact He.meth_ok a
theorem exB_one (c : exB K = true) (hx : x ∈ Cl.has) (h1 : x.one = true) : Mk K (cl K x) (He.ma K (cl K x) "__init__") ∧ Meth K (cl K x) "__init__" (He.ma K (cl K x) "__init__") := by
  have a := (exB_all c hx).2.1
  unfold oneB at a
  rw [h1] at a
  exact ⟨He.mkr_ok (He.ba a).1, He.meth_ok (He.ba a).2⟩
theorem exB_zero (c : exB K = true) (hx : x ∈ Cl.has) (h1 : x.zero = true) : PySem.W.findIn K (.ref (cl K x)) "__init__" = some (some (.builtin "object.__init__")) := by
  have a := (exB_all c hx).2.2
  unfold zeroB at a
  rw [h1] at a
  exact of_decide_eq_true a
end
end BF

namespace BF
open PySem PySem.Spec PyProof.Rows L2
/-! ### what the top leaves: each def by name -/
def d_is_number : He.DefD := ⟨("is_number", none), "is_number", "is_number", defArgs s_is_number, defBody s_is_number, defScope s_is_number, [], []⟩
def d_check_sizes : He.DefD := ⟨("check_sizes", none), "check_sizes", "check_sizes", defArgs s_check_sizes, defBody s_check_sizes, defScope s_check_sizes, [], []⟩
def d_shared : He.DefD := ⟨("shared", none), "shared", "shared", defArgs s_shared, defBody s_shared, defScope s_shared, [], []⟩
def d_parts_of : He.DefD := ⟨("parts_of", none), "parts_of", "parts_of", defArgs s_parts_of, defBody s_parts_of, defScope s_parts_of, [], []⟩
def d_sum_of : He.DefD := ⟨("sum_of", none), "sum_of", "sum_of", defArgs s_sum_of, defBody s_sum_of, defScope s_sum_of, [], []⟩
def d_is_striped : He.DefD := ⟨("is_striped", none), "is_striped", "is_striped", defArgs s_is_striped, defBody s_is_striped, defScope s_is_striped, [], []⟩
def d_what_bars : He.DefD := ⟨("what_bars", none), "what_bars", "what_bars", defArgs s_what_bars, defBody s_what_bars, defScope s_what_bars, [], []⟩
def d_Laid_shows : He.DefD := ⟨("Laid", some "shows"), "shows", "Laid.shows", defArgs s_Laid_shows, defBody s_Laid_shows, defScope s_Laid_shows, [], []⟩
def d_Striped___init__ : He.DefD := ⟨("Striped", some "__init__"), "__init__", "Striped.__init__", defArgs s_Striped___init__, defBody s_Striped___init__, defScope s_Striped___init__, [], []⟩
def d_Striped_shows : He.DefD := ⟨("Striped", some "shows"), "shows", "Striped.shows", defArgs s_Striped_shows, defBody s_Striped_shows, defScope s_Striped_shows, [], []⟩
def d_Short___init__ : He.DefD := ⟨("Short", some "__init__"), "__init__", "Short.__init__", defArgs s_Short___init__, defBody s_Short___init__, defScope s_Short___init__, [], []⟩
def d_Short_shows : He.DefD := ⟨("Short", some "shows"), "shows", "Short.shows", defArgs s_Short_shows, defBody s_Short_shows, defScope s_Short_shows, [], []⟩
def d_cells_of : He.DefD := ⟨("cells_of", none), "cells_of", "cells_of", defArgs s_cells_of, defBody s_cells_of, defScope s_cells_of, [], []⟩
def d_is_beyond : He.DefD := ⟨("is_beyond", none), "is_beyond", "is_beyond", defArgs s_is_beyond, defBody s_is_beyond, defScope s_is_beyond, [], []⟩
def d_covers : He.DefD := ⟨("covers", none), "covers", "covers", defArgs s_covers, defBody s_covers, defScope s_covers, [], []⟩
def d_is_cell : He.DefD := ⟨("is_cell", none), "is_cell", "is_cell", defArgs s_is_cell, defBody s_is_cell, defScope s_is_cell, [], []⟩
def d_often : He.DefD := ⟨("often", none), "often", "often", defArgs s_often, defBody s_often, defScope s_often, [], []⟩
def d_Full_shows : He.DefD := ⟨("Full", some "shows"), "shows", "Full.shows", defArgs s_Full_shows, defBody s_Full_shows, defScope s_Full_shows, [], []⟩
def d_Beyond___init__ : He.DefD := ⟨("Beyond", some "__init__"), "__init__", "Beyond.__init__", defArgs s_Beyond___init__, defBody s_Beyond___init__, defScope s_Beyond___init__, [], []⟩
def d_Beyond_shows : He.DefD := ⟨("Beyond", some "shows"), "shows", "Beyond.shows", defArgs s_Beyond_shows, defBody s_Beyond_shows, defScope s_Beyond_shows, [], []⟩
def d_Twice___init__ : He.DefD := ⟨("Twice", some "__init__"), "__init__", "Twice.__init__", defArgs s_Twice___init__, defBody s_Twice___init__, defScope s_Twice___init__, [], []⟩
def d_Twice_shows : He.DefD := ⟨("Twice", some "shows"), "shows", "Twice.shows", defArgs s_Twice_shows, defBody s_Twice_shows, defScope s_Twice_shows, [], []⟩
def d_Bare___init__ : He.DefD := ⟨("Bare", some "__init__"), "__init__", "Bare.__init__", defArgs s_Bare___init__, defBody s_Bare___init__, defScope s_Bare___init__, [], []⟩
def d_Bare_shows : He.DefD := ⟨("Bare", some "shows"), "shows", "Bare.shows", defArgs s_Bare_shows, defBody s_Bare_shows, defScope s_Bare_shows, [], []⟩
def d_told : He.DefD := ⟨("told", none), "told", "told", defArgs s_told, defBody s_told, defScope s_told, [], []⟩
def d_check_laid : He.DefD := ⟨("check_laid", none), "check_laid", "check_laid", defArgs s_check_laid, defBody s_check_laid, defScope s_check_laid, [], []⟩
def d_plan : He.DefD := ⟨("plan", none), "plan", "plan", defArgs s_plan, defBody s_plan, defScope s_plan, [], []⟩
def d_brick_on : He.DefD := ⟨("brick_on", none), "brick_on", "brick_on", defArgs s_brick_on, defBody s_brick_on, defScope s_brick_on, [], []⟩
def d_lying : He.DefD := ⟨("lying", none), "lying", "lying", defArgs s_lying, defBody s_lying, defScope s_lying, [], []⟩
def d_standing : He.DefD := ⟨("standing", none), "standing", "standing", defArgs s_standing, defBody s_standing, defScope s_standing, [], []⟩
def d_is_brick : He.DefD := ⟨("is_brick", none), "is_brick", "is_brick", defArgs s_is_brick, defBody s_is_brick, defScope s_is_brick, [], []⟩
def d_judged : He.DefD := ⟨("judged", none), "judged", "judged", defArgs s_judged, defBody s_judged, defScope s_judged, [], []⟩
def d_pairs_to : He.DefD := ⟨("pairs_to", none), "pairs_to", "pairs_to", defArgs s_pairs_to, defBody s_pairs_to, defScope s_pairs_to, [], []⟩
def d_alike : He.DefD := ⟨("alike", none), "alike", "alike", defArgs s_alike, defBody s_alike, defScope s_alike, [], []⟩
def d__law_word : He.DefD := ⟨("_law_word", none), "_law_word", "_law_word", defArgs s__law_word, defBody s__law_word, defScope s__law_word, [], []⟩
def d__law_told_right : He.DefD := ⟨("_law_told_right", none), "_law_told_right", "_law_told_right", defArgs s__law_told_right, defBody s__law_told_right, defScope s__law_told_right, [], []⟩
def d__law_cells_of : He.DefD := ⟨("_law_cells_of", none), "_law_cells_of", "_law_cells_of", defArgs s__law_cells_of, defBody s__law_cells_of, defScope s__law_cells_of, [], []⟩
def d__law_laying_right : He.DefD := ⟨("_law_laying_right", none), "_law_laying_right", "_law_laying_right", defArgs s__law_laying_right, defBody s__law_laying_right, defScope s__law_laying_right, [], []⟩
def d__law_far_laying : He.DefD := ⟨("_law_far_laying", none), "_law_far_laying", "_law_far_laying", defArgs s__law_far_laying, defBody s__law_far_laying, defScope s__law_far_laying, [], []⟩
def d__law_laying_refused : He.DefD := ⟨("_law_laying_refused", none), "_law_laying_refused", "_law_laying_refused", defArgs s__law_laying_refused, defBody s__law_laying_refused, defScope s__law_laying_refused, [], []⟩
def d__law_colours_right : He.DefD := ⟨("_law_colours_right", none), "_law_colours_right", "_law_colours_right", defArgs s__law_colours_right, defBody s__law_colours_right, defScope s__law_colours_right, [], []⟩
def d__law_judged_right : He.DefD := ⟨("_law_judged_right", none), "_law_judged_right", "_law_judged_right", defArgs s__law_judged_right, defBody s__law_judged_right, defScope s__law_judged_right, [], []⟩
def d__law_judges_right : He.DefD := ⟨("_law_judges_right", none), "_law_judges_right", "_law_judges_right", defArgs s__law_judges_right, defBody s__law_judges_right, defScope s__law_judges_right, [], []⟩
def d_law : He.DefD := ⟨("law", none), "law", "law", defArgs s_law, defBody s_law, defScope s_law, [], []⟩
def fns : List He.DefD := [d_is_number, d_check_sizes, d_shared, d_parts_of, d_sum_of, d_is_striped, d_what_bars, d_Laid_shows, d_Striped___init__, d_Striped_shows, d_Short___init__, d_Short_shows, d_cells_of, d_is_beyond, d_covers, d_is_cell, d_often, d_Full_shows, d_Beyond___init__, d_Beyond_shows, d_Twice___init__, d_Twice_shows, d_Bare___init__, d_Bare_shows, d_told, d_check_laid, d_plan, d_brick_on, d_lying, d_standing, d_is_brick, d_judged, d_pairs_to, d_alike, d__law_word, d__law_told_right, d__law_cells_of, d__law_laying_right, d__law_far_laying, d__law_laying_refused, d__law_colours_right, d__law_judged_right, d__law_judges_right, d_law]
def fas : List He.Fa := [.glo "is_number", .glo "check_sizes", .glo "shared", .glo "parts_of", .glo "sum_of", .glo "is_striped", .glo "what_bars", .glo "cells_of", .glo "is_beyond", .glo "covers", .glo "is_cell", .glo "often", .glo "told", .glo "check_laid", .glo "plan", .glo "brick_on", .glo "lying", .glo "standing", .glo "is_brick", .glo "judged", .glo "pairs_to", .glo "alike", .glo "_law_word", .glo "_law_told_right", .glo "_law_cells_of", .glo "_law_laying_right", .glo "_law_far_laying", .glo "_law_laying_refused", .glo "_law_colours_right", .glo "_law_judged_right", .glo "_law_judges_right", .glo "law", .free "ValueError", .free "abs", .free "all", .free "any", .free "bool", .free "enumerate", .free "int", .free "isinstance", .free "len", .free "list", .free "max", .free "min", .free "range", .free "sum", .free "tuple", .int "MOST" 400]
def loose0 : List PySem.Str := ["FloorError", "BadSize", "BadCell", "BadColour", "BadBricks", "Barred", "TooGreat", "is_number", "check_sizes", "shared", "parts_of", "sum_of", "Answer", "is_striped", "what_bars", "Laid", "Striped", "Short", "cells_of", "is_beyond", "covers", "is_cell", "often", "Full", "Beyond", "Twice", "Bare", "told", "check_laid", "plan"]
def loose1 : List PySem.Str := ["brick_on", "lying", "standing", "is_brick", "judged", "pairs_to", "alike", "_law_word", "_law_told_right", "_law_cells_of", "_law_laying_right", "_law_far_laying", "_law_laying_refused", "_law_colours_right", "_law_judged_right", "_law_judges_right", "MOST"]
def looseN : List PySem.Str := loose0 ++ loose1
def tfs : List He.Defn := [("_law_laying_refused", none), ("_law_colours_right", none), ("_law_judges_right", none)]
abbrev R : PySem.W.OpenRow := PySem.W.OpenLaw.row PySem.Challenge.rw_brickfloor_k11_promises_by_hand
abbrev hk : PySem.W.Hook := He.hookX 7 fas fns [] tfs exB
def ob (s : PySem.W.SharedT) : He.AlX := He.obsX 7 fas fns [] tfs exB (HandSHeadRun.getT s)
theorem ob_eq (s : PySem.W.SharedT) : ob s = hk.obs s.abs := He.obsX_eq (HandSHeadRun.getT_eq s)
theorem run (w : World) : HandSHeadRun.RunEq R (PySem.W.view R.prog [54]) hk ob 8000 looseN w := by
  intro os
  kernel_rfl
abbrev Says (w : World) (h : Heap) (K : PySem.W.Frag) : Prop := He.SaysX fas fns [] tfs exB w h K
section
variable {w : World} {K : PySem.W.Frag} {h : Heap} {mg : Str → Option Value}
theorem pl_is_number (X : K.In h) (G : h.Ns mainGlobals mg) (c : Says w h K) : Pl K mg "is_number" s_is_number := by
  obtain ⟨fd, F⟩ := c.t.d.def_ 0 (d := d_is_number) rfl
  exact ⟨_, fd, F, He.glo_ok X G (c.t.d.fact 0 (f := .glo "is_number") rfl)⟩
theorem pl_check_sizes (X : K.In h) (G : h.Ns mainGlobals mg) (c : Says w h K) : Pl K mg "check_sizes" s_check_sizes := by
  obtain ⟨fd, F⟩ := c.t.d.def_ 1 (d := d_check_sizes) rfl
  exact ⟨_, fd, F, He.glo_ok X G (c.t.d.fact 1 (f := .glo "check_sizes") rfl)⟩
theorem pl_shared (X : K.In h) (G : h.Ns mainGlobals mg) (c : Says w h K) : Pl K mg "shared" s_shared := by
  obtain ⟨fd, F⟩ := c.t.d.def_ 2 (d := d_shared) rfl
  exact ⟨_, fd, F, He.glo_ok X G (c.t.d.fact 2 (f := .glo "shared") rfl)⟩
theorem pl_parts_of (X : K.In h) (G : h.Ns mainGlobals mg) (c : Says w h K) : Pl K mg "parts_of" s_parts_of := by
  obtain ⟨fd, F⟩ := c.t.d.def_ 3 (d := d_parts_of) rfl
  exact ⟨_, fd, F, He.glo_ok X G (c.t.d.fact 3 (f := .glo "parts_of") rfl)⟩
theorem pl_sum_of (X : K.In h) (G : h.Ns mainGlobals mg) (c : Says w h K) : Pl K mg "sum_of" s_sum_of := by
  obtain ⟨fd, F⟩ := c.t.d.def_ 4 (d := d_sum_of) rfl
  exact ⟨_, fd, F, He.glo_ok X G (c.t.d.fact 4 (f := .glo "sum_of") rfl)⟩
theorem pl_is_striped (X : K.In h) (G : h.Ns mainGlobals mg) (c : Says w h K) : Pl K mg "is_striped" s_is_striped := by
  obtain ⟨fd, F⟩ := c.t.d.def_ 5 (d := d_is_striped) rfl
  exact ⟨_, fd, F, He.glo_ok X G (c.t.d.fact 5 (f := .glo "is_striped") rfl)⟩
theorem pl_what_bars (X : K.In h) (G : h.Ns mainGlobals mg) (c : Says w h K) : Pl K mg "what_bars" s_what_bars := by
  obtain ⟨fd, F⟩ := c.t.d.def_ 6 (d := d_what_bars) rfl
  exact ⟨_, fd, F, He.glo_ok X G (c.t.d.fact 6 (f := .glo "what_bars") rfl)⟩
theorem pl_cells_of (X : K.In h) (G : h.Ns mainGlobals mg) (c : Says w h K) : Pl K mg "cells_of" s_cells_of := by
  obtain ⟨fd, F⟩ := c.t.d.def_ 12 (d := d_cells_of) rfl
  exact ⟨_, fd, F, He.glo_ok X G (c.t.d.fact 7 (f := .glo "cells_of") rfl)⟩
theorem pl_is_beyond (X : K.In h) (G : h.Ns mainGlobals mg) (c : Says w h K) : Pl K mg "is_beyond" s_is_beyond := by
  obtain ⟨fd, F⟩ := c.t.d.def_ 13 (d := d_is_beyond) rfl
  exact ⟨_, fd, F, He.glo_ok X G (c.t.d.fact 8 (f := .glo "is_beyond") rfl)⟩
theorem pl_covers (X : K.In h) (G : h.Ns mainGlobals mg) (c : Says w h K) : Pl K mg "covers" s_covers := by
  obtain ⟨fd, F⟩ := c.t.d.def_ 14 (d := d_covers) rfl
  exact ⟨_, fd, F, He.glo_ok X G (c.t.d.fact 9 (f := .glo "covers") rfl)⟩
theorem pl_is_cell (X : K.In h) (G : h.Ns mainGlobals mg) (c : Says w h K) : Pl K mg "is_cell" s_is_cell := by
  obtain ⟨fd, F⟩ := c.t.d.def_ 15 (d := d_is_cell) rfl
  exact ⟨_, fd, F, He.glo_ok X G (c.t.d.fact 10 (f := .glo "is_cell") rfl)⟩
theorem pl_often (X : K.In h) (G : h.Ns mainGlobals mg) (c : Says w h K) : Pl K mg "often" s_often := by
  obtain ⟨fd, F⟩ := c.t.d.def_ 16 (d := d_often) rfl
  exact ⟨_, fd, F, He.glo_ok X G (c.t.d.fact 11 (f := .glo "often") rfl)⟩
theorem pl_told (X : K.In h) (G : h.Ns mainGlobals mg) (c : Says w h K) : Pl K mg "told" s_told := by
  obtain ⟨fd, F⟩ := c.t.d.def_ 24 (d := d_told) rfl
  exact ⟨_, fd, F, He.glo_ok X G (c.t.d.fact 12 (f := .glo "told") rfl)⟩
theorem pl_check_laid (X : K.In h) (G : h.Ns mainGlobals mg) (c : Says w h K) : Pl K mg "check_laid" s_check_laid := by
  obtain ⟨fd, F⟩ := c.t.d.def_ 25 (d := d_check_laid) rfl
  exact ⟨_, fd, F, He.glo_ok X G (c.t.d.fact 13 (f := .glo "check_laid") rfl)⟩
theorem pl_plan (X : K.In h) (G : h.Ns mainGlobals mg) (c : Says w h K) : Pl K mg "plan" s_plan := by
  obtain ⟨fd, F⟩ := c.t.d.def_ 26 (d := d_plan) rfl
  exact ⟨_, fd, F, He.glo_ok X G (c.t.d.fact 14 (f := .glo "plan") rfl)⟩
theorem pl_brick_on (X : K.In h) (G : h.Ns mainGlobals mg) (c : Says w h K) : Pl K mg "brick_on" s_brick_on := by
  obtain ⟨fd, F⟩ := c.t.d.def_ 27 (d := d_brick_on) rfl
  exact ⟨_, fd, F, He.glo_ok X G (c.t.d.fact 15 (f := .glo "brick_on") rfl)⟩
theorem pl_lying (X : K.In h) (G : h.Ns mainGlobals mg) (c : Says w h K) : Pl K mg "lying" s_lying := by
  obtain ⟨fd, F⟩ := c.t.d.def_ 28 (d := d_lying) rfl
  exact ⟨_, fd, F, He.glo_ok X G (c.t.d.fact 16 (f := .glo "lying") rfl)⟩
theorem pl_standing (X : K.In h) (G : h.Ns mainGlobals mg) (c : Says w h K) : Pl K mg "standing" s_standing := by
  obtain ⟨fd, F⟩ := c.t.d.def_ 29 (d := d_standing) rfl
  exact ⟨_, fd, F, He.glo_ok X G (c.t.d.fact 17 (f := .glo "standing") rfl)⟩
theorem pl_is_brick (X : K.In h) (G : h.Ns mainGlobals mg) (c : Says w h K) : Pl K mg "is_brick" s_is_brick := by
  obtain ⟨fd, F⟩ := c.t.d.def_ 30 (d := d_is_brick) rfl
  exact ⟨_, fd, F, He.glo_ok X G (c.t.d.fact 18 (f := .glo "is_brick") rfl)⟩
theorem pl_judged (X : K.In h) (G : h.Ns mainGlobals mg) (c : Says w h K) : Pl K mg "judged" s_judged := by
  obtain ⟨fd, F⟩ := c.t.d.def_ 31 (d := d_judged) rfl
  exact ⟨_, fd, F, He.glo_ok X G (c.t.d.fact 19 (f := .glo "judged") rfl)⟩
theorem pl_pairs_to (X : K.In h) (G : h.Ns mainGlobals mg) (c : Says w h K) : Pl K mg "pairs_to" s_pairs_to := by
  obtain ⟨fd, F⟩ := c.t.d.def_ 32 (d := d_pairs_to) rfl
  exact ⟨_, fd, F, He.glo_ok X G (c.t.d.fact 20 (f := .glo "pairs_to") rfl)⟩
theorem pl_alike (X : K.In h) (G : h.Ns mainGlobals mg) (c : Says w h K) : Pl K mg "alike" s_alike := by
  obtain ⟨fd, F⟩ := c.t.d.def_ 33 (d := d_alike) rfl
  exact ⟨_, fd, F, He.glo_ok X G (c.t.d.fact 21 (f := .glo "alike") rfl)⟩
theorem pl__law_word (X : K.In h) (G : h.Ns mainGlobals mg) (c : Says w h K) : Pl K mg "_law_word" s__law_word := by
  obtain ⟨fd, F⟩ := c.t.d.def_ 34 (d := d__law_word) rfl
  exact ⟨_, fd, F, He.glo_ok X G (c.t.d.fact 22 (f := .glo "_law_word") rfl)⟩
theorem pl__law_told_right (X : K.In h) (G : h.Ns mainGlobals mg) (c : Says w h K) : Pl K mg "_law_told_right" s__law_told_right := by
  obtain ⟨fd, F⟩ := c.t.d.def_ 35 (d := d__law_told_right) rfl
  exact ⟨_, fd, F, He.glo_ok X G (c.t.d.fact 23 (f := .glo "_law_told_right") rfl)⟩
theorem pl__law_cells_of (X : K.In h) (G : h.Ns mainGlobals mg) (c : Says w h K) : Pl K mg "_law_cells_of" s__law_cells_of := by
  obtain ⟨fd, F⟩ := c.t.d.def_ 36 (d := d__law_cells_of) rfl
  exact ⟨_, fd, F, He.glo_ok X G (c.t.d.fact 24 (f := .glo "_law_cells_of") rfl)⟩
theorem pl__law_laying_right (X : K.In h) (G : h.Ns mainGlobals mg) (c : Says w h K) : Pl K mg "_law_laying_right" s__law_laying_right := by
  obtain ⟨fd, F⟩ := c.t.d.def_ 37 (d := d__law_laying_right) rfl
  exact ⟨_, fd, F, He.glo_ok X G (c.t.d.fact 25 (f := .glo "_law_laying_right") rfl)⟩
theorem pl__law_far_laying (X : K.In h) (G : h.Ns mainGlobals mg) (c : Says w h K) : Pl K mg "_law_far_laying" s__law_far_laying := by
  obtain ⟨fd, F⟩ := c.t.d.def_ 38 (d := d__law_far_laying) rfl
  exact ⟨_, fd, F, He.glo_ok X G (c.t.d.fact 26 (f := .glo "_law_far_laying") rfl)⟩
theorem pl__law_laying_refused (X : K.In h) (G : h.Ns mainGlobals mg) (c : Says w h K) : Pl K mg "_law_laying_refused" s__law_laying_refused := by
  obtain ⟨fd, F⟩ := c.t.d.def_ 39 (d := d__law_laying_refused) rfl
  exact ⟨_, fd, F, He.glo_ok X G (c.t.d.fact 27 (f := .glo "_law_laying_refused") rfl)⟩
theorem pl__law_colours_right (X : K.In h) (G : h.Ns mainGlobals mg) (c : Says w h K) : Pl K mg "_law_colours_right" s__law_colours_right := by
  obtain ⟨fd, F⟩ := c.t.d.def_ 40 (d := d__law_colours_right) rfl
  exact ⟨_, fd, F, He.glo_ok X G (c.t.d.fact 28 (f := .glo "_law_colours_right") rfl)⟩
theorem pl__law_judged_right (X : K.In h) (G : h.Ns mainGlobals mg) (c : Says w h K) : Pl K mg "_law_judged_right" s__law_judged_right := by
  obtain ⟨fd, F⟩ := c.t.d.def_ 41 (d := d__law_judged_right) rfl
  exact ⟨_, fd, F, He.glo_ok X G (c.t.d.fact 29 (f := .glo "_law_judged_right") rfl)⟩
theorem pl__law_judges_right (X : K.In h) (G : h.Ns mainGlobals mg) (c : Says w h K) : Pl K mg "_law_judges_right" s__law_judges_right := by
  obtain ⟨fd, F⟩ := c.t.d.def_ 42 (d := d__law_judges_right) rfl
  exact ⟨_, fd, F, He.glo_ok X G (c.t.d.fact 30 (f := .glo "_law_judges_right") rfl)⟩
theorem pl_law (X : K.In h) (G : h.Ns mainGlobals mg) (c : Says w h K) : Pl K mg "law" s_law := by
  obtain ⟨fd, F⟩ := c.t.d.def_ 43 (d := d_law) rfl
  exact ⟨_, fd, F, He.glo_ok X G (c.t.d.fact 31 (f := .glo "law") rfl)⟩
theorem plm_Laid_shows (c : Says w h K) : PlM K .laid "shows" "Laid.shows" s_Laid_shows := by
  obtain ⟨fd, F⟩ := c.t.d.def_ 7 (d := d_Laid_shows) rfl
  exact ⟨_, fd, F, exB_shows c.more (by decide) (by decide)⟩
theorem plm_Striped___init__ (c : Says w h K) : PlM K .striped "__init__" "Striped.__init__" s_Striped___init__ := by
  obtain ⟨fd, F⟩ := c.t.d.def_ 8 (d := d_Striped___init__) rfl
  exact ⟨_, fd, F, (exB_one c.more (by decide) (by decide)).2⟩
theorem plm_Striped_shows (c : Says w h K) : PlM K .striped "shows" "Striped.shows" s_Striped_shows := by
  obtain ⟨fd, F⟩ := c.t.d.def_ 9 (d := d_Striped_shows) rfl
  exact ⟨_, fd, F, exB_shows c.more (by decide) (by decide)⟩
theorem plm_Short___init__ (c : Says w h K) : PlM K .short "__init__" "Short.__init__" s_Short___init__ := by
  obtain ⟨fd, F⟩ := c.t.d.def_ 10 (d := d_Short___init__) rfl
  exact ⟨_, fd, F, (exB_one c.more (by decide) (by decide)).2⟩
theorem plm_Short_shows (c : Says w h K) : PlM K .short "shows" "Short.shows" s_Short_shows := by
  obtain ⟨fd, F⟩ := c.t.d.def_ 11 (d := d_Short_shows) rfl
  exact ⟨_, fd, F, exB_shows c.more (by decide) (by decide)⟩
theorem plm_Full_shows (c : Says w h K) : PlM K .full "shows" "Full.shows" s_Full_shows := by
  obtain ⟨fd, F⟩ := c.t.d.def_ 17 (d := d_Full_shows) rfl
  exact ⟨_, fd, F, exB_shows c.more (by decide) (by decide)⟩
theorem plm_Beyond___init__ (c : Says w h K) : PlM K .beyond "__init__" "Beyond.__init__" s_Beyond___init__ := by
  obtain ⟨fd, F⟩ := c.t.d.def_ 18 (d := d_Beyond___init__) rfl
  exact ⟨_, fd, F, (exB_one c.more (by decide) (by decide)).2⟩
theorem plm_Beyond_shows (c : Says w h K) : PlM K .beyond "shows" "Beyond.shows" s_Beyond_shows := by
  obtain ⟨fd, F⟩ := c.t.d.def_ 19 (d := d_Beyond_shows) rfl
  exact ⟨_, fd, F, exB_shows c.more (by decide) (by decide)⟩
theorem plm_Twice___init__ (c : Says w h K) : PlM K .twice "__init__" "Twice.__init__" s_Twice___init__ := by
  obtain ⟨fd, F⟩ := c.t.d.def_ 20 (d := d_Twice___init__) rfl
  exact ⟨_, fd, F, (exB_one c.more (by decide) (by decide)).2⟩
theorem plm_Twice_shows (c : Says w h K) : PlM K .twice "shows" "Twice.shows" s_Twice_shows := by
  obtain ⟨fd, F⟩ := c.t.d.def_ 21 (d := d_Twice_shows) rfl
  exact ⟨_, fd, F, exB_shows c.more (by decide) (by decide)⟩
theorem plm_Bare___init__ (c : Says w h K) : PlM K .bare "__init__" "Bare.__init__" s_Bare___init__ := by
  obtain ⟨fd, F⟩ := c.t.d.def_ 22 (d := d_Bare___init__) rfl
  exact ⟨_, fd, F, (exB_one c.more (by decide) (by decide)).2⟩
theorem plm_Bare_shows (c : Says w h K) : PlM K .bare "shows" "Bare.shows" s_Bare_shows := by
  obtain ⟨fd, F⟩ := c.t.d.def_ 23 (d := d_Bare_shows) rfl
  exact ⟨_, fd, F, exB_shows c.more (by decide) (by decide)⟩
theorem const_MOST (X : K.In h) (G : h.Ns mainGlobals mg) (c : Says w h K) : ∃ t, mg "MOST" = some (.int 400 t) := He.int_ok X G (c.t.d.fact 47 (f := .int "MOST" 400) rfl)
theorem bi_ok (X : K.In h) (G : h.Ns mainGlobals mg) (c : Says w h K) : Bi mg := ⟨He.free_ok X G (c.t.d.fact 32 (f := .free "ValueError") rfl), He.free_ok X G (c.t.d.fact 33 (f := .free "abs") rfl), He.free_ok X G (c.t.d.fact 34 (f := .free "all") rfl), He.free_ok X G (c.t.d.fact 35 (f := .free "any") rfl), He.free_ok X G (c.t.d.fact 36 (f := .free "bool") rfl), He.free_ok X G (c.t.d.fact 37 (f := .free "enumerate") rfl), He.free_ok X G (c.t.d.fact 38 (f := .free "int") rfl), He.free_ok X G (c.t.d.fact 39 (f := .free "isinstance") rfl), He.free_ok X G (c.t.d.fact 40 (f := .free "len") rfl), He.free_ok X G (c.t.d.fact 41 (f := .free "list") rfl), He.free_ok X G (c.t.d.fact 42 (f := .free "max") rfl), He.free_ok X G (c.t.d.fact 43 (f := .free "min") rfl), He.free_ok X G (c.t.d.fact 44 (f := .free "range") rfl), He.free_ok X G (c.t.d.fact 45 (f := .free "sum") rfl), He.free_ok X G (c.t.d.fact 46 (f := .free "tuple") rfl)⟩
end
end BF

namespace BF
open PySem PySem.Spec PyProof.Rows L2
theorem ci_ok {w : World} {K : PySem.W.Frag} {h : Heap} {mg : Str → Option Value} {P : Program} {base : Heap} (X : K.In h) (G : h.Ns mainGlobals mg) (c : Says w h K) (GC : ClG K mg) : ClI P w K mg base := by
  refine ⟨fun x hx h1 => (exB_one c.more hx (by cases x <;> first | rfl | exact h1.elim)).1, fun x hx h1 => ?_, fun x hx h0 => exB_zero c.more hx (by rcases h0 with rfl | rfl <;> rfl)⟩
  cases x with
  | striped => exact H_Striped___init__ (plm_Striped___init__ c) GC
  | short => exact H_Short___init__ (plm_Short___init__ c) GC
  | beyond => exact H_Beyond___init__ (plm_Beyond___init__ c) GC
  | twice => exact H_Twice___init__ (plm_Twice___init__ c) GC
  | bare => exact H_Bare___init__ (plm_Bare___init__ c) GC
  | _ => first | exact h1.elim | exact absurd hx (by decide)
end BF

namespace BF
open PySem PySem.Spec PyProof.Rows L2 LamX NdefX
def lawLevel : Nat := 11
section
variable {w : World} {K : PySem.W.Frag} {h : Heap} {mg : Str → Option Value} {P : Program} {base : Heap}
theorem plC_cR (X : K.In h) (G : h.Ns mainGlobals mg) (c : Says w h K) : PlC K mg "_law_laying_refused" s__law_laying_refused (cR K).1 := by
  obtain ⟨fd, F⟩ := c.t.d.def_ 39 (d := d__law_laying_refused) rfl
  refine ⟨_, fd, F, He.glo_ok X G (c.t.d.fact 27 (f := .glo "_law_laying_refused") rfl), ?_⟩
  obtain ⟨oc, od, dV, kV, doc, pm, an, cdv, ct, osl, rfl, lk, hcd, _, _⟩ := F.ex
  obtain ⟨c', rfl⟩ := He.codeIn_ref hcd
  exact congrArg Value.ref (He.codeOf_eq (p := ("_law_laying_refused", none)) lk rfl).symm
theorem plC_cC (X : K.In h) (G : h.Ns mainGlobals mg) (c : Says w h K) : PlC K mg "_law_colours_right" s__law_colours_right (cC K).1 := by
  obtain ⟨fd, F⟩ := c.t.d.def_ 40 (d := d__law_colours_right) rfl
  refine ⟨_, fd, F, He.glo_ok X G (c.t.d.fact 28 (f := .glo "_law_colours_right") rfl), ?_⟩
  obtain ⟨oc, od, dV, kV, doc, pm, an, cdv, ct, osl, rfl, lk, hcd, _, _⟩ := F.ex
  obtain ⟨c', rfl⟩ := He.codeIn_ref hcd
  exact congrArg Value.ref (He.codeOf_eq (p := ("_law_colours_right", none)) lk rfl).symm
theorem plC_cJ (X : K.In h) (G : h.Ns mainGlobals mg) (c : Says w h K) : PlC K mg "_law_judges_right" s__law_judges_right (cJ K).1 := by
  obtain ⟨fd, F⟩ := c.t.d.def_ 42 (d := d__law_judges_right) rfl
  refine ⟨_, fd, F, He.glo_ok X G (c.t.d.fact 30 (f := .glo "_law_judges_right") rfl), ?_⟩
  obtain ⟨oc, od, dV, kV, doc, pm, an, cdv, ct, osl, rfl, lk, hcd, _, _⟩ := F.ex
  obtain ⟨c', rfl⟩ := He.codeIn_ref hcd
  exact congrArg Value.ref (He.codeOf_eq (p := ("_law_judges_right", none)) lk rfl).symm
theorem has_law (X : K.In h) (G : h.Ns mainGlobals mg) (c : Says w h K) (TR : TabB base mg (cR K).1 (cR K).2) (TC : TabB base mg (cC K).1 (cC K).2) (TJ : TabB base mg (cJ K).1 (cJ K).2) : Has P w K mg base CX0 11 "law" ["_law_script"] (SpLaw11 K) := by
  have B := bi_ok X G c
  have GC := clB_ok X G (exB_cl c.more)
  have CI := ci_ok (P := P) (base := base) X G c GC
  have M := const_MOST X G c
  have more : (ersB K && (decide ((cR K).2 ≠ (cC K).2) && (decide ((cR K).2 ≠ (cJ K).2) && decide ((cC K).2 ≠ (cJ K).2)))) = true := (He.ba (He.ba c.more).2).2
  have GE := ersB_ok X G (He.ba more).1
  have ne : NeT K := ⟨of_decide_eq_true (He.ba (He.ba more).2).1, of_decide_eq_true (He.ba (He.ba (He.ba more).2).2).1, of_decide_eq_true (He.ba (He.ba (He.ba more).2).2).2⟩
  have h1 := H_is_number (P := P) (w := w) (base := base) (pl_is_number X G c) B
  have h2 := H_check_sizes (pl_check_sizes X G c) h1
  have h3 := H_shared (P := P) (w := w) (base := base) (pl_shared X G c)
  have h4 := H_parts_of (pl_parts_of X G c) h3
  have h5 := H_is_striped (P := P) (w := w) (base := base) (pl_is_striped X G c)
  have h6 := H_what_bars (pl_what_bars X G c) B h5 h4
  have h7 := H_shows4 GC (plm_Laid_shows c) (plm_Striped_shows c) (plm_Short_shows c) h6 h5 h4
  have h8 := H_told (pl_told X G c) GC CI h2 h6
  have g1 := H_is_beyond (P := P) (w := w) (base := base) (pl_is_beyond X G c)
  have g2 := H_covers (P := P) (w := w) (base := base) (pl_covers X G c)
  have g3 := H_often (pl_often X G c) B g2
  have g4 := H_is_cell (pl_is_cell X G c) B h1
  have g5 := H_cells_of (P := P) (w := w) (base := base) (pl_cells_of X G c) B
  have g6 := H_shows5 B GC (plm_Full_shows c) (plm_Beyond_shows c) (plm_Twice_shows c) (plm_Bare_shows c) g1 g5 g4 g3
  have g7 := H_is_brick (pl_is_brick X G c) B h1
  have g8 := H_judged (pl_judged X G c) B GC CI M h2 g7 g1 g3
  have k1 := H_check_laid (pl_check_laid X G c) h2 h6
  have k2 := H_plan (pl_plan X G c) h4
  have k3 := H_brick_on (pl_brick_on X G c) k1 g4 k2
  have k4 := H_lying (pl_lying X G c) k1 k2
  have k5 := H_standing (pl_standing X G c) k4
  have k6 := H_sum_of (pl_sum_of X G c) h2 h4
  have s1 := H_pairs_to (P := P) (w := w) (base := base) (pl_pairs_to X G c) B
  have s2 := H_alike (pl_alike X G c) h2 h1 s1
  have x1 := HX_check_sizes (pl_check_sizes X G c) GE h1
  have x2 := HX_told (pl_told X G c) x1
  have x3 := HXS_check_laid (pl_check_laid X G c) x1
  have x4 := HXS_judged (pl_judged X G c) x1
  have x6 := HXS_alike (pl_alike X G c) x1
  have x9 := HXS_brick_on (pl_brick_on X G c) x3
  have y1 := HN_is_cell (pl_is_cell X G c) B h1
  have y2 := HC_brick_on (pl_brick_on X G c) GE k1 y1
  have y3 := HC_alike (pl_alike X G c) GE h2 h1
  have y4 := HG_is_brick (pl_is_brick X G c) B h1
  have y5 := HB_judged (pl_judged X G c) B GE M h2 y4
  have y6 := HG_judged (pl_judged X G c) GE M h2
  have z1 := HX_check_laid (pl_check_laid X G c) GE h2 h6
  have z2 := HX_brick_on (pl_brick_on X G c) GE z1 g4 k2
  have z3 := HX_lying (pl_lying X G c) z1 k2
  have z4 := HX_standing (pl_standing X G c) z3
  have w1 := H__law_word (P := P) (w := w) (base := base) (pl__law_word X G c) B GE
  have l1 := H__law_told_right (T := tabs K) (pl__law_told_right X G c) B GC CI h8 h7 k6
  have l2 := H__law_cells_of (P := P) (w := w) (base := base) (pl__law_cells_of X G c) B
  have l3 := H__law_laying_right (T := tabs K) (pl__law_laying_right X G c) B GC g8 k3 l2 k4 k5
  have l4 := H__law_far_laying (T := tabs K) (pl__law_far_laying X G c) B k3 l2 k4 k5
  have l5 := H__law_laying_refused (plC_cR X G c) ne TR B w1 z2 x9 y2 z3 z4 x2
  have l6 := H__law_colours_right (plC_cC X G c) ne TC B w1 s2 y3 x6
  have l7 := H__law_judged_right (T := tabs K) (pl__law_judged_right X G c) B GC CI g8 g6
  have l8 := H__law_judges_right (plC_cJ X G c) ne TJ B GC w1 g8 g6 y6 y5 x4
  exact H_law (pl_law X G c) B l1 l3 l4 l5 l6 l7 l8
theorem law_at {f : Addr} (X : K.In h) (G : h.Ns mainGlobals mg) (c : Says w h K) (g : mg ("law" : Str) = some (.ref f)) : LamX.LawAtS PySem.Challenge.rw_brickfloor_k11_promises_by_hand w K CX0 lawLevel 63 "_law_script" mg f h := by
  obtain ⟨f', fd, F, g'⟩ := pl_law X G c
  have e := g.symm.trans g'
  cases e
  have mem : ∀ p ∈ [cR K, cC K, cJ K], p = cR K ∨ p = cC K ∨ p = cJ K := fun p hp => by simpa using hp
  have m1 : (("_law_laying_refused", none) : He.Defn) ∈ tfs := .head _
  have m2 : (("_law_colours_right", none) : He.Defn) ∈ tfs := .tail _ (.head _)
  have m3 : (("_law_judges_right", none) : He.Defn) ∈ tfs := .tail _ (.tail _ (.head _))
  refine ⟨fd, [cR K, cC K, cJ K], SpLaw11 K, fun p hp => ?_, fun p hp => ?_, fun p hp => ?_, fun s u => FunD.bindsA (ps := ["_law_script"]) F (fun _ _ _ _ _ _ us hl => match us, hl with | [_], _ => rfl) s [u] rfl, fun H a ns hl hb hT hS => .mk hl hb hS ?_ fun _ => rfl,
    fun base hK hG hTB => (has_law X G c (hTB _ (.head _)) (hTB _ (.tail _ (.head _))) (hTB _ (.tail _ (.tail _ (.head _))))).at F g'⟩
  · rcases mem p hp with rfl | rfl | rfl
    · exact c.empty _ m1
    · exact c.empty _ m2
    · exact c.empty _ m3
  · rcases mem p hp with rfl | rfl | rfl
    · exact c.out _ m1
    · exact c.out _ m2
    · exact c.out _ m3
  · rcases mem p hp with rfl | rfl | rfl
    · exact PySem.W.codeHd_of_K X (c.hd _ m1)
    · exact PySem.W.codeHd_of_K X (c.hd _ m2)
    · exact PySem.W.codeHd_of_K X (c.hd _ m3)
  · intro p hp
    rcases tabs_cases hp with rfl | rfl | rfl
    · exact TabS.nil (hT _ (.head _))
    · exact TabS.nil (hT _ (.tail _ (.head _)))
    · exact TabS.nil (hT _ (.tail _ (.tail _ (.head _))))
end
end BF

open PySem PySem.W PySem.Calls PyProof.Rows
set_option maxRecDepth 100000 in
set_option maxHeartbeats 8000000 in
theorem PySem.Challenge.cw_brickfloor_k11_promises_by_hand_holds : PySem.Challenge.rw_brickfloor_k11_promises_by_hand.Holds := by
  w_on; o_law
  refine HandSHeadRun.head_any (r := OpenLaw.row PySem.Challenge.rw_brickfloor_k11_promises_by_hand) (q := view (OpenLaw.row PySem.Challenge.rw_brickfloor_k11_promises_by_hand).prog [54]) (H := BF.hk) (ob := BF.ob) (loose := BF.looseN) (d := HandSHeadRun.topDef (OpenLaw.row PySem.Challenge.rw_brickfloor_k11_promises_by_hand).prog 54) (kwd := []) BF.ob_eq
    (by kernel_rfl) (fun s => by kernel_rfl) BF.run (by kernel_rfl) (by kernel_rfl) (by kernel_rfl) (by rfl) (by first | assumption | decide +kernel) (by decide +kernel) ⟨rfl, rfl, rfl, rfl, rfl, by decide +kernel⟩ ?hw ?hc
  case hw => w_witness2
  case hc =>
    refine LamX.walk_ofTsE (l := PySem.Challenge.rw_brickfloor_k11_promises_by_hand) (n := 63) (k := BF.lawLevel) (x := "_law_script") (CX := fun _ => L2.CX0) rfl (by decide) (by kernel_rfl) ⟨rfl, by decide, by decide⟩ ?F (fun _ _ _ _ _ z => z)
    intro w mg fa h Y G hmg0
    obtain ⟨K, KX, c⟩ := Y
    have hmg : mg ("law" : PySem.Str) = some (.ref fa) := by
      have e : (HandSHeadRun.topDef (OpenLaw.row PySem.Challenge.rw_brickfloor_k11_promises_by_hand).prog 54).name = ("law" : PySem.Str) := by kernel_rfl
      rw [← e]
      exact hmg0
    exact ⟨K, KX, BF.law_at KX G c hmg⟩
