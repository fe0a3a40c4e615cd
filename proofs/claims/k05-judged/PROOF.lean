import PyProof.Rows.All
import Wide.All
import OpenK.AllK
import Wide.FinOn
import KE.KStateDown
import HandS.ForMost
import HandS.ForExc
import HandS.More
import HandS.Wide
import HandS.WideBits
import HandS.Style
import HandS.Flow
import HandS.Zip
import HandS.TupLen
import HandS.Deep
import HandS.IsInst
import HandS.Defaults
import HandS.Head0
import HandS.Head1
import HandS.Head2
import HandS.HeadEnd
import HandS.HeadHook1
import HandS.HeadHook2
import HandS.HeadHook3
import HandS.HeadHook4
import HandS.HeadWalk
import HandS.Evl
import KE.DataMinMax
import KE.GoesMore
import PySem.Challenge.RW_brickfloor_k05_whole_judged
set_option pp.maxSteps 700
set_option Elab.async false
set_option linter.all false
set_option maxRecDepth 100000
set_option maxHeartbeats 4000000
/-! ### a def of the top, where it stands, and its promise -/
namespace BF
open PySem PySem.Spec PyProof.Rows L2
abbrev FnP (K : PySem.W.Frag) (x q : Str) (st : Stmt) (f : Addr) (fd : FuncData) : Prop := FunD K x q (defArgs st) (defBody st) (defScope st) [] [] f fd
/-- the def x of the top stands where the module's name says -/
def Pl (K : PySem.W.Frag) (mg : Str → Option Value) (x : Str) (st : Stmt) : Prop := ∃ f fd, FnP K x x st f fd ∧ mg x = some (.ref f)
/-- the def x keeps its promise, by calls at most k deep -/
def Has (P : Program) (w : World) (K : PySem.W.Frag) (mg : Str → Option Value) (base : Heap) (C : CXT) (k : Nat) (x : Str) (ps : List Str) (sp : Sp) : Prop :=
  ∃ f fd, FnOk P w K mg base C k f fd ps sp ∧ mg x = some (.ref f) ∧ PySem.W.keepIn K (.ref f) = true ∧ Binds K fd ps [] ∧ ∃ oc od osl, K.lookup f = some ⟨oc, od, .func fd, osl⟩
section
variable {P : Program} {w : World} {K : PySem.W.Frag} {mg : Str → Option Value} {base : Heap} {x : Str} {st : Stmt} {N ps : List Str} {k : Nat} {sp : Sp}
theorem Pl.mkX {C : CXT} (p : Pl K mg x st) (S : FnScope N ps (defScope st))
    (hb : ∀ (kV doc pm : Value) (an : Option Addr) (cdv ct : Value) (us : List Value), us.length = ps.length → bindArgs (PySem.W.fnOf x x (defArgs st) (defBody st) (defScope st) .none kV doc pm an cdv ct) ⟨us, []⟩ = pure (ps.zip us))
    (len : ∀ vs H Q E, sp vs H Q E → vs.length = ps.length)
    (body : ∀ (f : Addr) (cdv : Value) (A : Around) (outer : List Env) (s : Shared) (H : Hp) (vs : List V) (Q : VK) (E : XK), Room k (A.deeper (envOfC x (defScope st) s.heap.objs.size f cdv)) → sp vs H Q E →
      ∃ t, PSs (cxOf C P w K mg base N x (defScope st) f cdv A outer s H E) (defBody st) t ∧ t { nx := fun _ H' => Q .non H', rt := Q } (start N vs) H) : Has P w K mg base C (k + 1) x ps sp := by
  obtain ⟨f, fd, F, g⟩ := p
  obtain ⟨oc, od, _, _, _, _, _, _, _, osl, _, lk, _⟩ := F.ex
  exact ⟨f, fd, F.ok S len (body f), g, F.kp, F.bindsN hb, oc, od, osl, lk⟩
/-- of the def at f (the law) -/
theorem Has.at {C : CXT} {f : Addr} {fd : FuncData} (h : Has P w K mg base C k x ps sp) (F : FnP K x x st f fd) (g : mg x = some (.ref f)) : FnOk P w K mg base C k f fd ps sp := by
  obtain ⟨f', fd', G, g', _, _, oc, od, osl, lk⟩ := h
  obtain ⟨oc2, od2, _, _, _, _, _, _, _, osl2, _, lk2, _⟩ := F.ex
  have e : f' = f := by
    have z := g'.symm.trans g
    cases z
    rfl
  subst e
  have z := lk.symm.trans lk2
  cases z
  exact G
theorem Pl.mk0 (p : Pl K mg x st) (S : FnScope N ps (defScope st))
    (hb : ∀ (kV doc pm : Value) (an : Option Addr) (cdv ct : Value) (us : List Value), us.length = ps.length → bindArgs (PySem.W.fnOf x x (defArgs st) (defBody st) (defScope st) .none kV doc pm an cdv ct) ⟨us, []⟩ = pure (ps.zip us))
    (len : ∀ vs H Q E, sp vs H Q E → vs.length = ps.length)
    (body : ∀ (f : Addr) (cdv : Value) (A : Around) (outer : List Env) (s : Shared) (H : Hp) (vs : List V) (Q : VK) (E : XK), Room k (A.deeper (envOfC x (defScope st) s.heap.objs.size f cdv)) → sp vs H Q E →
      ∃ t, PSs (cxOf CX0 P w K mg base N x (defScope st) f cdv A outer s H E).nox (defBody st) t ∧ t { nx := fun _ H' => Q .non H', rt := Q } (start N vs) H) : Has P w K mg base CX0 (k + 1) x ps sp :=
  p.mkX S hb len fun f cdv A outer s H vs Q E hr h => by
    obtain ⟨t, a, b⟩ := body f cdv A outer s H vs Q E hr h
    exact ⟨t, a.nox, b⟩
end
section
variable {X : Cx} {C : CXT} {k : Nat} {ps : List Str} {sp : Sp} {E : XK} {x : Str} {p pos : Pos} {e : Expr} {es : List Expr} {t : TA}
theorem pe_fn (h : Has X.prog X.w X.K X.mg X.base C k x ps sp) (hr : Room k X.A) (hx : Passes C X E) (ha : PA X (e :: es) t) (hg : Gl X x := by rfl) (hdb : (x == ("__debug__" : Str)) = false := by decide)
    (he : starEach (e :: es) X.env = (false, eval e X.env) :: starEach es X.env := by rfl) (hpl : (backTo pos (starEach es X.env)).any (·.1) = false := by rfl) : PE X (.Call (.Name x p) (e :: es) [] pos) (tCall sp [] E t) := by
  obtain ⟨f, fd, F, hm, hk, hb, _⟩ := h
  exact pe_call F hr hg hm hk hb .nil hx ha hdb he hpl
theorem pe_fn0 (h : Has X.prog X.w X.K X.mg X.base C k x ps sp) (hr : Room k X.A) (hx : Passes C X E) (hg : Gl X x := by rfl) (hdb : (x == ("__debug__" : Str)) = false := by decide) : PE X (.Call (.Name x p) [] [] pos) (tCall sp [] E tNil) := by
  obtain ⟨f, fd, F, hm, hk, hb, _⟩ := h
  exact pe_call0 F hr hg hm hk hb .nil hx hdb
end
theorem pe_const {X : Cx} {x : Str} {i : Int} {pos : Pos} (hg : Gl X x) (h : ∃ t, X.mg x = some (.int i t)) (hd : (x == ("__debug__" : Str)) = false := by decide) : PE X (.Name x pos) (tC (.int i)) := by
  obtain ⟨t, e⟩ := h
  exact pe_glob hg e ⟨_, rfl⟩ hd
/-! ### sizes of ints -/
/-- of less than n bits -/
structure Bn (n : Nat) (x : Int) : Prop where
  lt : x.natAbs < 2 ^ n
theorem Bn.mono {n m : Nat} {x : Int} (h : Bn n x) (l : n ≤ m) : Bn m x := ⟨Nat.lt_of_lt_of_le h.lt (Nat.pow_le_pow_right (by decide) l)⟩
theorem bnl {n : Nat} {x : Int} (h : x.natAbs < 2 ^ n) : Bn n x := ⟨h⟩
theorem bn0 {n : Nat} : Bn n 0 := ⟨Nat.two_pow_pos _⟩
theorem Bn.mul {n m : Nat} {x y : Int} (h : Bn n x) (k : Bn m y) : Bn (n + m) (x * y) := ⟨wide_lt h.lt k.lt⟩
theorem Bn.add {n m : Nat} {x y : Int} (h : Bn n x) (k : Bn m y) : Bn (n + m + 1) (x + y) := by
  have h1 : x.natAbs < 2 ^ n := h.lt
  have h2 : y.natAbs < 2 ^ m := k.lt
  have a : 2 ^ n ≤ 2 ^ (n + m) := Nat.pow_le_pow_right (by decide) (by omega)
  have b : 2 ^ m ≤ 2 ^ (n + m) := Nat.pow_le_pow_right (by decide) (by omega)
  have c : 2 ^ (n + m + 1) = 2 ^ (n + m) * 2 := Nat.pow_succ 2 (n + m)
  have d := Int.natAbs_add_le x y
  refine ⟨?_⟩
  omega
theorem Bn.le {n : Nat} {x y : Int} (h : Bn n y) (l : x.natAbs ≤ y.natAbs) : Bn n x := ⟨Nat.lt_of_le_of_lt l h.lt⟩
theorem Bn.of_le {n : Nat} {x y : Int} (h : Bn n y) (h0 : 0 ≤ x) (l : x ≤ y) : Bn n x := h.le (by omega)
theorem Bn.neg {n : Nat} {x : Int} (h : Bn n x) : Bn n (-x) := h.le (by omega)
theorem Bn.sub {n m : Nat} {x y : Int} (h : Bn n x) (k : Bn m y) : Bn (n + m + 1) (x - y) := by
  rw [Int.sub_eq_add_neg]
  exact h.add k.neg
theorem Bn.mulOk {n m : Nat} {x y : Int} (h : Bn n x) (k : Bn m y) (l : n + m ≤ 134217728) : CMulX x y := mulx_ok h.lt k.lt l
theorem Bn.divOk {n : Nat} {x y : Int} (k : Bn n y) (p : 0 < y) (h0 : 0 < n) (l : n ≤ 9000) : CDivW x y := wide_div p k.lt h0 l
theorem divOk_lit {x : Int} {y : Int} (p : 0 < y) (l : y < 4294967296) : CDivW x y := wide_div (b := 32) p (by omega) (by decide) (by decide)
theorem Bn.div {n : Nat} {x y : Int} (h : Bn n x) (p : 0 < y) : Bn n (x / y) := by
  refine h.le ?_
  have a := Int.emod_add_mul_ediv x y
  have b := Int.emod_nonneg x (Int.ne_of_gt p)
  have c := Int.emod_lt_of_pos x p
  rcases Int.lt_or_le x 0 with hx | hx
  · -- x < 0: x / y ≥ x
    have d : x / y < 0 := Int.ediv_neg_of_neg_of_pos hx p
    have e : y * (x / y) ≤ 1 * (x / y) := Int.mul_le_mul_of_nonpos_right (by omega) (by omega)
    rcases Int.lt_or_le (x / y) x with f | f
    · have q1 : y * (x / y) ≤ y * (x - 1) := Int.mul_le_mul_of_nonneg_left (by omega) (by omega)
      have q2 : y * (x - 1) = y * x - y := by rw [Int.mul_sub, Int.mul_one]
      have q3 : y * x ≤ 1 * x := Int.mul_le_mul_of_nonpos_right (by omega) (by omega)
      omega
    · omega
  · have d : 0 ≤ x / y := Int.ediv_nonneg hx (Int.le_of_lt p)
    have e : 1 * (x / y) ≤ y * (x / y) := Int.mul_le_mul_of_nonneg_right (by omega) d
    omega
theorem Bn.mod {n : Nat} {x y : Int} (h : Bn n y) (p : 0 < y) : Bn n (x % y) := h.of_le (Int.emod_nonneg x (Int.ne_of_gt p)) (Int.le_of_lt (Int.emod_lt_of_pos x p))
theorem bn_bits {n : Nat} {x : Int} (h : Builtin.Int.intBits x ≤ n) : Bn (n + 1) x := by
  unfold Builtin.Int.intBits at h
  refine ⟨?_⟩
  split at h
  · rename_i z
    have e : x = 0 := by simpa using z
    rw [e]
    exact Nat.two_pow_pos _
  · have a : x.natAbs < 2 ^ (x.natAbs.log2 + 1) := Nat.lt_log2_self
    exact Nat.lt_of_lt_of_le a (Nat.pow_le_pow_right (by decide) (by omega))
theorem mulOk_left {x y : Int} (h : x.natAbs < 4294967296) (k : Bn 100000000 y) : CMulX x y := mulx_ok (a := 32) h k.lt (by decide)
/-- a size of the program: from 1 on, of less than 2000 bits -/
structure Sz (x : Int) : Prop where
  pos : 0 < x
  bn : Bn 2000 x
/-! ### heaps that grow -/
theorem same_upd {H : Hp} {p : Addr} {o : HO} (h : H p = none) : Same H (upd H p o) := fun b x e => by
  rw [upd_ne (ne_of_none e h)]
  exact e
theorem newH {H H2 : Hp} {p : Addr} {o : HO} (e : upd H p o = H2) (hp : H p = none) : Same H H2 ∧ H2 p = some o := by
  rw [← e]
  exact ⟨same_upd hp, upd_same⟩
theorem Same.tup {K : PySem.W.Frag} {H H' : Hp} {a : Addr} {xs : List V} (e : Same H H') (h : SqT K H a xs) : SqT K H' a xs := by
  rcases h with (h | ⟨o, h⟩) | h
  · exact .inl (.inl (e _ _ h))
  · exact .inl (.inr ⟨o, e _ _ h⟩)
  · exact .inr h
theorem sqL {K : PySem.W.Frag} {H : Hp} {a : Addr} {xs : List V} (h : H a = some (.lst xs)) : SqL K H a xs := .inl (.inl h)
theorem sqT {K : PySem.W.Frag} {H : Hp} {a : Addr} {xs : List V} (h : H a = some (.tup xs)) : SqT K H a xs := .inl (.inl h)
/-- the int that a slot holds, as a measure -/
def slotN (σ : L2.St) (i : Nat) : Nat := match σ[i]? with
  | some (some (.int n)) => n.toNat
  | _ => 0
section
variable {A B : Prop} {i j : Int}
theorem iteD {p : Prop} [Decidable p] (h1 : p → A) (h2 : ¬ p → B) : if decide p = true then A else B := ite2 (fun c => h1 (of_decide_eq_true c)) fun c => h2 fun z => c (decide_eq_true z)
theorem iteEq (h1 : i = j → A) (h2 : i ≠ j → B) : if decide (V.int i = V.int j) = true then A else B := iteD (fun c => h1 (V.int.inj c)) fun c => h2 fun z => c (by rw [z])
theorem iteNe (h1 : i ≠ j → A) (h2 : i = j → B) : if (!decide (V.int i = V.int j)) = true then A else B := by
  by_cases c : i = j
  · rw [decide_eq_true (show V.int i = V.int j by rw [c])]
    exact iteF (h2 c)
  · rw [decide_eq_false (show ¬ V.int i = V.int j from fun z => c (V.int.inj z))]
    exact iteT (h1 c)
theorem iteP {p : Prop} [Decidable p] (hp : p) (h : A) : if decide p = true then A else B := by
  rw [decide_eq_true hp]
  exact iteT h
theorem iteN {p : Prop} [Decidable p] (hp : ¬ p) (h : B) : if decide p = true then A else B := by
  rw [decide_eq_false hp]
  exact iteF h
theorem iteNP {p : Prop} [Decidable p] (hp : p) (h : B) : if (!decide p) = true then A else B := by
  rw [decide_eq_true hp]
  exact iteF h
theorem iteNN {p : Prop} [Decidable p] (hp : ¬ p) (h : A) : if (!decide p) = true then A else B := by
  rw [decide_eq_false hp]
  exact iteT h
theorem iteB {b : Bool} (h1 : b = true → A) (h2 : b = false → B) : if b = true then A else B := by
  cases b with
  | true => exact iteT (h1 rfl)
  | false => exact iteF (h2 rfl)
end
def rLen2 (K : PySem.W.Frag) : List V → Hp → VK → Prop := fun xs H Q => ∃ p ys, xs = [.ref p] ∧ (SqL K H p ys ∨ SqT K H p ys) ∧ Q (.int ys.length) H
theorem lc_yes {σ : L2.St} {H : Hp} {A B : Hp → Prop} (h : A H) : tYes σ H fun b H3 => if b = true then A H3 else B H3 := by
  show if true = true then A H else B H
  rw [if_pos rfl]
  exact h
/-- if t: .. where t is not so, in whatever way it is told -/
theorem if_no {T : TT} {R U : TS} {D : Ends} {σ : L2.St} {H H' : Hp} (hT : ∀ r : Bool → Hp → Prop, r false H' → T σ H r) (hU : U D σ H') : tSeq (tIfS T R tNext) U D σ H :=
  hT _ (by
    show if false = true then _ else _
    exact iteF hU)
theorem tn {D : Ends} {σ : L2.St} {H : Hp} (h : D.nx σ H) : tNext D σ H := h
theorem mul_in {x y A B : Int} (hx : 0 ≤ x) (ha : x ≤ A) (hy : 0 ≤ y) (hb : y ≤ B) : 0 ≤ x * y ∧ x * y ≤ A * B :=
  ⟨Int.mul_nonneg hx hy, Int.le_trans (Int.mul_le_mul_of_nonneg_left hb hx) (Int.mul_le_mul_of_nonneg_right ha (Int.le_trans hy hb))⟩
/-- go on from a word -/
theorem enter {t : TS} {D : Ends} {σ : L2.St} {H : Hp} (M : L2.St → Hp → Prop) (h : M σ H) (k : ∀ σ H, M σ H → t D σ H) : t D σ H := k σ H h
theorem size4 {n : Nat} (h : n ≤ 1000000) : n ≤ sizeLine := Nat.le_trans h (by decide)
end BF

namespace BF
open PySem PySem.Spec PyProof.Rows L2
def topS (i : Nat) : Stmt := PySem.Challenge.pw_brickfloor_k05_whole_judged.main.body.getD i (.Pass ⟨0, 0, 0, 0⟩)
abbrev s_is_number : Stmt := topS 6
abbrev s_check_sizes : Stmt := topS 7
abbrev s_shared : Stmt := topS 8
abbrev s_parts_of : Stmt := topS 9
abbrev s_is_striped : Stmt := topS 12
abbrev s_what_bars : Stmt := topS 13
abbrev s_Laid_shows : Stmt := inClass (topS 14) 0
abbrev s_Striped___init__ : Stmt := inClass (topS 15) 0
abbrev s_Striped_shows : Stmt := inClass (topS 15) 1
abbrev s_Short___init__ : Stmt := inClass (topS 16) 0
abbrev s_Short_shows : Stmt := inClass (topS 16) 1
abbrev s_cells_of : Stmt := topS 17
abbrev s_is_beyond : Stmt := topS 18
abbrev s_covers : Stmt := topS 19
abbrev s_is_cell : Stmt := topS 20
abbrev s_often : Stmt := topS 21
abbrev s_Full_shows : Stmt := inClass (topS 22) 0
abbrev s_Beyond___init__ : Stmt := inClass (topS 23) 0
abbrev s_Beyond_shows : Stmt := inClass (topS 23) 1
abbrev s_Twice___init__ : Stmt := inClass (topS 24) 0
abbrev s_Twice_shows : Stmt := inClass (topS 24) 1
abbrev s_Bare___init__ : Stmt := inClass (topS 25) 0
abbrev s_Bare_shows : Stmt := inClass (topS 25) 1
abbrev s_is_brick : Stmt := topS 28
abbrev s_judged : Stmt := topS 29
abbrev s__law_number : Stmt := topS 31
abbrev s__law_whole : Stmt := topS 32
abbrev s__law_sides : Stmt := topS 33
abbrev s__law_over : Stmt := topS 34
abbrev s__law_out : Stmt := topS 35
abbrev s__law_full : Stmt := topS 36
abbrev s__law_bricks : Stmt := topS 37
abbrev s__law_is_cell : Stmt := topS 38
abbrev s__law_due : Stmt := topS 39
abbrev s__law_right : Stmt := topS 40
abbrev s_law : Stmt := topS 41
theorem sc_is_number : FnScope ["thing"] ["thing"] (defScope s_is_number) := ⟨rfl, rfl, rfl, by decide +kernel, rfl, by decide +kernel, by decide +kernel⟩
theorem sc_check_sizes : FnScope ["some", "one"] ["some"] (defScope s_check_sizes) := ⟨rfl, rfl, rfl, by decide +kernel, rfl, by decide +kernel, by decide +kernel⟩
theorem sc_shared : FnScope ["one", "other", "mine", "theirs", "by", "often"] ["one", "other"] (defScope s_shared) := ⟨rfl, rfl, rfl, by decide +kernel, rfl, by decide +kernel, by decide +kernel⟩
theorem sc_parts_of : FnScope ["size", "first", "second", "by", "turned", "few"] ["size", "first", "second"] (defScope s_parts_of) := ⟨rfl, rfl, rfl, by decide +kernel, rfl, by decide +kernel, by decide +kernel⟩
theorem sc_is_striped : FnScope ["length", "width", "side"] ["length", "width", "side"] (defScope s_is_striped) := ⟨rfl, rfl, rfl, by decide +kernel, rfl, by decide +kernel, by decide +kernel⟩
theorem sc_what_bars : FnScope ["length", "width", "first", "second", "striped", "short", "which", "side"] ["length", "width", "first", "second"] (defScope s_what_bars) := ⟨rfl, rfl, rfl, by decide +kernel, rfl, by decide +kernel, by decide +kernel⟩
theorem sc_Laid_shows : FnScope ["self", "length", "width", "first", "second"] ["self", "length", "width", "first", "second"] (defScope s_Laid_shows) := ⟨rfl, rfl, rfl, by decide +kernel, rfl, by decide +kernel, by decide +kernel⟩
theorem sc_Striped___init__ : FnScope ["self", "which"] ["self", "which"] (defScope s_Striped___init__) := ⟨rfl, rfl, rfl, by decide +kernel, rfl, by decide +kernel, by decide +kernel⟩
theorem sc_Striped_shows : FnScope ["self", "length", "width", "first", "second"] ["self", "length", "width", "first", "second"] (defScope s_Striped_shows) := ⟨rfl, rfl, rfl, by decide +kernel, rfl, by decide +kernel, by decide +kernel⟩
theorem sc_Short___init__ : FnScope ["self", "which"] ["self", "which"] (defScope s_Short___init__) := ⟨rfl, rfl, rfl, by decide +kernel, rfl, by decide +kernel, by decide +kernel⟩
theorem sc_Short_shows : FnScope ["self", "length", "width", "first", "second"] ["self", "length", "width", "first", "second"] (defScope s_Short_shows) := ⟨rfl, rfl, rfl, by decide +kernel, rfl, by decide +kernel, by decide +kernel⟩
theorem sc_cells_of : FnScope ["first", "second", "brick", "long", "high", "found", "along", "up"] ["first", "second", "brick"] (defScope s_cells_of) := ⟨rfl, rfl, rfl, by decide +kernel, rfl, by decide +kernel, by decide +kernel⟩
theorem sc_is_beyond : FnScope ["length", "width", "first", "second", "brick", "long", "high"] ["length", "width", "first", "second", "brick"] (defScope s_is_beyond) := ⟨rfl, rfl, rfl, by decide +kernel, rfl, by decide +kernel, by decide +kernel⟩
theorem sc_covers : FnScope ["first", "second", "brick", "cell", "long", "high"] ["first", "second", "brick", "cell"] (defScope s_covers) := ⟨rfl, rfl, rfl, by decide +kernel, rfl, by decide +kernel, by decide +kernel⟩
theorem sc_is_cell : FnScope ["length", "width", "thing"] ["length", "width", "thing"] (defScope s_is_cell) := ⟨rfl, rfl, rfl, by decide +kernel, rfl, by decide +kernel, by decide +kernel⟩
theorem sc_often : FnScope ["first", "second", "bricks", "cell", "brick"] ["first", "second", "bricks", "cell"] (defScope s_often) := ⟨rfl, rfl, rfl, by decide +kernel, rfl, by decide +kernel, by decide +kernel⟩
theorem sc_Full_shows : FnScope ["self", "length", "width", "first", "second", "bricks", "seen", "brick", "cell"] ["self", "length", "width", "first", "second", "bricks"] (defScope s_Full_shows) := ⟨rfl, rfl, rfl, by decide +kernel, rfl, by decide +kernel, by decide +kernel⟩
theorem sc_Beyond___init__ : FnScope ["self", "count"] ["self", "count"] (defScope s_Beyond___init__) := ⟨rfl, rfl, rfl, by decide +kernel, rfl, by decide +kernel, by decide +kernel⟩
theorem sc_Beyond_shows : FnScope ["self", "length", "width", "first", "second", "bricks"] ["self", "length", "width", "first", "second", "bricks"] (defScope s_Beyond_shows) := ⟨rfl, rfl, rfl, by decide +kernel, rfl, by decide +kernel, by decide +kernel⟩
theorem sc_Twice___init__ : FnScope ["self", "cell"] ["self", "cell"] (defScope s_Twice___init__) := ⟨rfl, rfl, rfl, by decide +kernel, rfl, by decide +kernel, by decide +kernel⟩
theorem sc_Twice_shows : FnScope ["self", "length", "width", "first", "second", "bricks"] ["self", "length", "width", "first", "second", "bricks"] (defScope s_Twice_shows) := ⟨rfl, rfl, rfl, by decide +kernel, rfl, by decide +kernel, by decide +kernel⟩
theorem sc_Bare___init__ : FnScope ["self", "cell"] ["self", "cell"] (defScope s_Bare___init__) := ⟨rfl, rfl, rfl, by decide +kernel, rfl, by decide +kernel, by decide +kernel⟩
theorem sc_Bare_shows : FnScope ["self", "length", "width", "first", "second", "bricks"] ["self", "length", "width", "first", "second", "bricks"] (defScope s_Bare_shows) := ⟨rfl, rfl, rfl, by decide +kernel, rfl, by decide +kernel, by decide +kernel⟩
theorem sc_is_brick : FnScope ["thing"] ["thing"] (defScope s_is_brick) := ⟨rfl, rfl, rfl, by decide +kernel, rfl, by decide +kernel, by decide +kernel⟩
theorem sc_judged : FnScope ["length", "width", "first", "second", "bricks", "count", "brick", "along", "up", "many"] ["length", "width", "first", "second", "bricks"] (defScope s_judged) := ⟨rfl, rfl, rfl, by decide +kernel, rfl, by decide +kernel, by decide +kernel⟩
theorem sc__law_number : FnScope ["_law_cell", "_law_at", "_law_whole_here", "_law_mixed", "_law_more"] ["_law_cell", "_law_at", "_law_whole_here"] (defScope s__law_number) := ⟨rfl, rfl, rfl, by decide +kernel, rfl, by decide +kernel, by decide +kernel⟩
theorem sc__law_whole : FnScope ["_law_found"] ["_law_found"] (defScope s__law_whole) := ⟨rfl, rfl, rfl, by decide +kernel, rfl, by decide +kernel, by decide +kernel⟩
theorem sc__law_sides : FnScope ["_law_first", "_law_second", "_law_lies"] ["_law_first", "_law_second", "_law_lies"] (defScope s__law_sides) := ⟨rfl, rfl, rfl, by decide +kernel, rfl, by decide +kernel, by decide +kernel⟩
theorem sc__law_over : FnScope ["_law_first", "_law_second", "_law_bricks_here", "_law_cell", "_law_found", "_law_along", "_law_up", "_law_lies", "_law_long", "_law_high"] ["_law_first", "_law_second", "_law_bricks_here", "_law_cell"] (defScope s__law_over) := ⟨rfl, rfl, rfl, by decide +kernel, rfl, by decide +kernel, by decide +kernel⟩
theorem sc__law_out : FnScope ["_law_floor", "_law_first", "_law_second", "_law_brick", "_law_long", "_law_high"] ["_law_floor", "_law_first", "_law_second", "_law_brick"] (defScope s__law_out) := ⟨rfl, rfl, rfl, by decide +kernel, rfl, by decide +kernel, by decide +kernel⟩
theorem sc__law_full : FnScope ["_law_floor", "_law_first", "_law_second", "_law_bricks_here", "_law_along", "_law_brick", "_law_up"] ["_law_floor", "_law_first", "_law_second", "_law_bricks_here"] (defScope s__law_full) := ⟨rfl, rfl, rfl, by decide +kernel, rfl, by decide +kernel, by decide +kernel⟩
theorem sc__law_bricks : FnScope ["_law_script", "_law_cells", "_law_whole_here", "_law_first", "_law_second", "_law_few", "_law_less", "_law_floor", "_law_found", "_law_along", "_law_at", "_law_cell", "_law_number_here", "_law_place", "_law_kind", "_law_brick", "_law_far", "_law_strange", "_law_up", "_law_lies"] ["_law_script"] (defScope s__law_bricks) := ⟨rfl, rfl, rfl, by decide +kernel, rfl, by decide +kernel, by decide +kernel⟩
theorem sc__law_is_cell : FnScope ["_law_floor", "_law_cell"] ["_law_floor", "_law_cell"] (defScope s__law_is_cell) := ⟨rfl, rfl, rfl, by decide +kernel, rfl, by decide +kernel, by decide +kernel⟩
theorem sc__law_due : FnScope ["_law_floor", "_law_first", "_law_second", "_law_bricks_here", "_law_found", "_law_many"] ["_law_floor", "_law_first", "_law_second", "_law_bricks_here", "_law_found"] (defScope s__law_due) := ⟨rfl, rfl, rfl, by decide +kernel, rfl, by decide +kernel, by decide +kernel⟩
theorem sc__law_right : FnScope ["_law_floor", "_law_first", "_law_second", "_law_bricks_here", "_law_others", "_law_kept", "_law_full_here", "_law_found", "_law_kinds", "_law_wrong", "_law_again", "_law_other"] ["_law_floor", "_law_first", "_law_second", "_law_bricks_here", "_law_others"] (defScope s__law_right) := ⟨rfl, rfl, rfl, by decide +kernel, rfl, by decide +kernel, by decide +kernel⟩
theorem sc_law : FnScope ["_law_script", "_law_whole_here", "_law_floor", "_law_first", "_law_second", "_law_bricks_here", "_law_some", "_law_bent", "_law_brick"] ["_law_script"] (defScope s_law) := ⟨rfl, rfl, rfl, by decide +kernel, rfl, by decide +kernel, by decide +kernel⟩
/-- the built-ins that the text names are free -/
structure Bi (mg : Str → Option Value) : Prop where
  all : mg "all" = none
  any : mg "any" = none
  bool : mg "bool" = none
  enumerate : mg "enumerate" = none
  int : mg "int" = none
  isinstance : mg "isinstance" = none
  len : mg "len" = none
  list : mg "list" = none
  min : mg "min" = none
  range : mg "range" = none
  sum : mg "sum" = none
  tuple : mg "tuple" = none
end BF

/-! ### small helpers for the laws: the script's cells, picks out of four, sizes of drawn numbers -/
namespace BF
open PySem PySem.Spec PyProof.Rows L2
inductive SpLaw (K : PySem.W.Frag) : Sp where
  | mk {a : Addr} {ns : List Int} {H : Hp} {Q : VK} {E : XK} (hl : ns.length ≤ 63) (hb : ∀ z ∈ ns, Builtin.Int.intBits z ≤ 1048576) (hS : SqL K H a (ns.map V.int)) (q : ∀ H', Q (.bl true) H') : SpLaw K [.ref a] H Q E
theorem bn_of_lt {x : Int} (h0 : 0 ≤ x) (h : x < 10 ^ 60) : Bn 200 x := by
  refine ⟨?_⟩
  have e : (10 : Int) ^ 60 = ((10 ^ 60 : Nat) : Int) := by decide
  have l : (10 : Nat) ^ 60 < 2 ^ 200 := by decide
  rw [e] at h
  omega
theorem sz_of_lt {x : Int} (h0 : 0 < x) (h : x < 10 ^ 60) : Sz x := ⟨h0, (bn_of_lt (by omega) h).mono (by decide)⟩
theorem cut_map {α β : Type} (f : α → β) (xs : List α) (lo hi : Nat) : ((xs.map f).drop lo).take hi = ((xs.drop lo).take hi).map f := by
  rw [← List.map_drop, ← List.map_take]
theorem cut_ints (ns : List Int) (lo hi : Option Int) : ∃ ms : List Int, cutV (ns.map V.int) lo hi = ms.map V.int := by
  unfold cutV
  exact ⟨_, cut_map V.int ns _ _⟩
theorem at_cell {ns : List Int} {k : Int} (h0 : -(ns.length : Int) ≤ k) (h1 : k < ns.length) : ∃ c, c ∈ ns ∧ atI (ns.map V.int) k = some (.int c) := by
  rcases Int.lt_or_le k 0 with hk | hk
  · have hj : (k + ns.length).toNat < ns.length := by omega
    refine ⟨ns[(k + ns.length).toNat], List.getElem_mem _, ?_⟩
    have e : ixN (ns.map V.int).length k = some (k + ns.length).toNat := by
      unfold ixN
      rw [List.length_map, if_neg (by omega), if_pos (by omega)]
    unfold atI
    rw [e]
    show (ns.map V.int)[(k + ns.length).toNat]? = _
    rw [List.getElem?_map, List.getElem?_eq_getElem hj]
    rfl
  · have hj : k.toNat < ns.length := by omega
    refine ⟨ns[k.toNat], List.getElem_mem _, ?_⟩
    obtain ⟨j, rfl⟩ := Int.eq_ofNat_of_zero_le hk
    refine atI_nat ?_
    rw [List.getElem?_map]
    have hj2 : j < ns.length := by omega
    rw [List.getElem?_eq_getElem hj2]
    rfl
theorem pick4 {x0 x1 x2 x3 : V} {k : Int} (h0 : 0 ≤ k) (h4 : k < 4) : ∃ v, atI [x0, x1, x2, x3] k = some v ∧ (v = x0 ∨ v = x1 ∨ v = x2 ∨ v = x3) := by
  have e : k = 0 ∨ k = 1 ∨ k = 2 ∨ k = 3 := by omega
  rcases e with rfl | rfl | rfl | rfl
  · exact ⟨x0, rfl, .inl rfl⟩
  · exact ⟨x1, rfl, .inr (.inl rfl)⟩
  · exact ⟨x2, rfl, .inr (.inr (.inl rfl))⟩
  · exact ⟨x3, rfl, .inr (.inr (.inr rfl))⟩
end BF

/-! ### bricks and cells, in plain words -/
namespace BF
open PySem L2
structure Brick where
  x : Int
  y : Int
  l : Bool
def Brick.vs (b : Brick) : List V := [.int b.x, .int b.y, .bl b.l]
/-- along, up -/
def Brick.lo (f s : Int) (b : Brick) : Int := if b.l then f else s
def Brick.hi (f s : Int) (b : Brick) : Int := if b.l then s else f
def beyB (L W f s : Int) (b : Brick) : Bool := decide (b.x < 0) || (decide (b.y < 0) || (decide (L < b.x + b.lo f s) || decide (W < b.y + b.hi f s)))
def covB (f s : Int) (c : Int × Int) (b : Brick) : Bool := (decide (b.x ≤ c.1) && decide (c.1 < b.x + b.lo f s)) && (decide (b.y ≤ c.2) && decide (c.2 < b.y + b.hi f s))
def oftN (f s : Int) (bs : List Brick) (c : Int × Int) : Nat := (bs.filter (covB f s c)).length
def cellB (L W : Int) (c : Int × Int) : Bool := (decide (0 ≤ c.1) && decide (c.1 < L)) && (decide (0 ≤ c.2) && decide (c.2 < W))
/-- a column of cells, columns of cells -/
def colL (x y : Int) (n : Nat) : List (Int × Int) := (List.range n).map fun j : Nat => (x, y + (j : Int))
def colsL (x y : Int) (m n : Nat) : List (Int × Int) := (List.range m).flatMap fun i : Nat => colL (x + (i : Int)) y n
def cellsL (f s : Int) (b : Brick) : List (Int × Int) := colsL b.x b.y (b.lo f s).toNat (b.hi f s).toNat
theorem col_succ (x y : Int) (n : Nat) : colL x y (n + 1) = colL x y n ++ [(x, y + (n : Int))] := by
  unfold colL
  rw [List.range_succ, List.map_append]
  rfl
theorem col_len (x y : Int) (n : Nat) : (colL x y n).length = n := by
  unfold colL
  rw [List.length_map, List.length_range]
theorem cols_succ (x y : Int) (m n : Nat) : colsL x y (m + 1) n = colsL x y m n ++ colL (x + (m : Int)) y n := by
  unfold colsL
  rw [List.range_succ, List.flatMap_append]
  simp
theorem cols_len (x y : Int) (n : Nat) : ∀ m, (colsL x y m n).length = m * n
  | 0 => by simp [colsL]
  | m + 1 => by
    rw [cols_succ, List.length_append, cols_len x y n m, col_len, Nat.succ_mul]
theorem col_count (x y : Int) (c : Int × Int) : ∀ n : Nat, (colL x y n).count c = if c.1 = x ∧ y ≤ c.2 ∧ c.2 < y + (n : Int) then 1 else 0
  | 0 => by
    rw [if_neg (by omega)]
    rfl
  | n + 1 => by
    rw [col_succ, List.count_append, col_count x y c n]
    obtain ⟨a, b⟩ := c
    by_cases h : (a, b) = (x, y + (n : Int))
    · have h1 : a = x := congrArg Prod.fst h
      have h2 : b = y + (n : Int) := congrArg Prod.snd h
      rw [h, List.count_singleton_self]
      show (if x = x ∧ y ≤ y + (n : Int) ∧ y + (n : Int) < y + (n : Int) then 1 else 0) + 1 = if x = x ∧ y ≤ y + (n : Int) ∧ y + (n : Int) < y + ((n + 1 : Nat) : Int) then 1 else 0
      rw [if_neg (show ¬ (x = x ∧ y ≤ y + (n : Int) ∧ y + (n : Int) < y + (n : Int)) by omega), if_pos (show x = x ∧ y ≤ y + (n : Int) ∧ y + (n : Int) < y + ((n + 1 : Nat) : Int) by omega)]
    · have e : [(x, y + (n : Int))].count (a, b) = 0 := List.count_eq_zero_of_not_mem (by
        intro z
        exact h (List.mem_singleton.mp z))
      rw [e]
      have ne : ¬ (a = x ∧ b = y + (n : Int)) := fun z => h (by rw [z.1, z.2])
      simp only
      by_cases g : a = x ∧ y ≤ b ∧ b < y + (n : Int)
      · rw [if_pos g, if_pos (by omega)]
      · rw [if_neg g, if_neg (by omega)]
theorem cols_count (x y : Int) (n : Nat) (c : Int × Int) : ∀ m : Nat, (colsL x y m n).count c = if (x ≤ c.1 ∧ c.1 < x + (m : Int)) ∧ y ≤ c.2 ∧ c.2 < y + (n : Int) then 1 else 0
  | 0 => by
    rw [if_neg (by omega)]
    rfl
  | m + 1 => by
    rw [cols_succ, List.count_append, cols_count x y n c m, col_count]
    by_cases h : c.1 = x + (m : Int)
    · rw [if_neg (by omega)]
      by_cases g : y ≤ c.2 ∧ c.2 < y + (n : Int)
      · rw [if_pos (by omega), if_pos (by omega)]
      · rw [if_neg (by omega), if_neg (by omega)]
    · rw [if_neg (c := c.1 = x + (m : Int) ∧ y ≤ c.2 ∧ c.2 < y + (n : Int)) (by omega)]
      by_cases g : (x ≤ c.1 ∧ c.1 < x + (m : Int)) ∧ y ≤ c.2 ∧ c.2 < y + (n : Int)
      · rw [if_pos g, if_pos (by omega)]
      · rw [if_neg g, if_neg (by omega)]
theorem cells_count {f s : Int} (hf : 0 < f) (hs : 0 < s) (b : Brick) (c : Int × Int) : (cellsL f s b).count c = if covB f s c b then 1 else 0 := by
  unfold cellsL
  rw [cols_count]
  have h1 : 0 < b.lo f s := by unfold Brick.lo; split <;> omega
  have h2 : 0 < b.hi f s := by unfold Brick.hi; split <;> omega
  have e1 : ((b.lo f s).toNat : Int) = b.lo f s := Int.toNat_of_nonneg (by omega)
  have e2 : ((b.hi f s).toNat : Int) = b.hi f s := Int.toNat_of_nonneg (by omega)
  rw [e1, e2]
  unfold covB
  by_cases g : (b.x ≤ c.1 ∧ c.1 < b.x + b.lo f s) ∧ b.y ≤ c.2 ∧ c.2 < b.y + b.hi f s
  · rw [if_pos g, decide_eq_true g.1.1, decide_eq_true g.1.2, decide_eq_true g.2.1, decide_eq_true g.2.2]
    rfl
  · rw [if_neg g]
    have e : ((decide (b.x ≤ c.1) && decide (c.1 < b.x + b.lo f s)) && (decide (b.y ≤ c.2) && decide (c.2 < b.y + b.hi f s))) = false := by
      apply Bool.eq_false_iff.mpr
      intro z
      simp only [Bool.and_eq_true, decide_eq_true_eq] at z
      exact g ⟨⟨z.1.1, z.1.2⟩, z.2.1, z.2.2⟩
    rw [e]
    rfl
/-- all cells of all bricks -/
def allL (f s : Int) (bs : List Brick) : List (Int × Int) := bs.flatMap (cellsL f s)
theorem all_count {f s : Int} (hf : 0 < f) (hs : 0 < s) (c : Int × Int) : ∀ bs : List Brick, (allL f s bs).count c = oftN f s bs c
  | [] => rfl
  | b :: bs => by
    have ih := all_count hf hs c bs
    unfold allL at ih ⊢
    rw [List.flatMap_cons, List.count_append, ih, cells_count hf hs]
    unfold oftN
    rw [List.filter_cons]
    split <;> simp <;> omega
/-- the floor's cells -/
def gridL (L W : Int) : List (Int × Int) := colsL 0 0 L.toNat W.toNat
theorem grid_count {L W : Int} (hL : 0 ≤ L) (hW : 0 ≤ W) (c : Int × Int) : (gridL L W).count c = if cellB L W c then 1 else 0 := by
  unfold gridL
  rw [cols_count, Int.toNat_of_nonneg hL, Int.toNat_of_nonneg hW]
  unfold cellB
  by_cases g : (0 ≤ c.1 ∧ c.1 < 0 + L) ∧ 0 ≤ c.2 ∧ c.2 < 0 + W
  · rw [if_pos g, decide_eq_true g.1.1, decide_eq_true (show c.1 < L by omega), decide_eq_true g.2.1, decide_eq_true (show c.2 < W by omega)]
    rfl
  · rw [if_neg g]
    have e : ((decide (0 ≤ c.1) && decide (c.1 < L)) && (decide (0 ≤ c.2) && decide (c.2 < W))) = false := by
      apply Bool.eq_false_iff.mpr
      intro z
      simp only [Bool.and_eq_true, decide_eq_true_eq] at z
      omega
    rw [e]
    rfl
/-- a sum of counts over a list without doubles -/
theorem sum_counts {all : List (Int × Int)} : ∀ {g : List (Int × Int)}, (∀ c, g.count c ≤ 1) → (∀ c ∈ all, c ∈ g) → (g.map fun c => all.count c).sum = all.length := by
  induction all with
  | nil =>
    intro g k1 k2
    clear k1 k2
    show (g.map fun c => ([] : List (Int × Int)).count c).sum = 0
    induction g with
    | nil => rfl
    | cons a g ih =>
      rw [List.map_cons, List.sum_cons, ih]
      rfl
  | cons x all ih =>
    intro g h1 h2
    have hx : g.count x = 1 := by
      have := h1 x
      have := List.count_pos_iff.mpr (h2 x (by simp))
      omega
    have e : ∀ g : List (Int × Int), (g.map fun c => (x :: all).count c).sum = (g.map fun c => all.count c).sum + g.count x := by
      intro g
      induction g with
      | nil => rfl
      | cons a g ihg =>
        rw [List.map_cons, List.sum_cons, ihg, List.map_cons, List.sum_cons, List.count_cons, List.count_cons]
        by_cases z : a = x
        · subst z; simp; omega
        · have z1 : (x == a) = false := by simpa using fun h => z h.symm
          have z2 : (a == x) = false := by simpa using z
          rw [z1, z2]; simp; omega
    rw [e, ih h1 (fun c hc => h2 c (List.mem_cons_of_mem _ hc)), hx, List.length_cons]
theorem sum_ones {h : Int × Int → Nat} : ∀ {g : List (Int × Int)}, (∀ c ∈ g, h c ≤ 1) → (g.map h).sum = g.length → ∀ c ∈ g, h c = 1
  | [], _, _, c, hc => by cases hc
  | a :: g, h1, e, c, hc => by
    have le : ∀ g : List (Int × Int), (∀ c ∈ g, h c ≤ 1) → (g.map h).sum ≤ g.length := by
      intro g hg
      induction g with
      | nil => exact Nat.le_refl _
      | cons b g ih =>
        rw [List.map_cons, List.sum_cons, List.length_cons]
        have := hg b (by simp)
        have := ih fun c hc => hg c (List.mem_cons_of_mem _ hc)
        omega
    rw [List.map_cons, List.sum_cons, List.length_cons] at e
    have a1 := h1 a (by simp)
    have g1 := le g fun c hc => h1 c (List.mem_cons_of_mem _ hc)
    rcases List.mem_cons.mp hc with rfl | hc
    · omega
    · exact sum_ones (fun c hc => h1 c (List.mem_cons_of_mem _ hc)) (by omega) c hc
theorem all_ones {h : Int × Int → Nat} : ∀ {g : List (Int × Int)}, (∀ c ∈ g, h c = 1) → (g.map h).sum = g.length
  | [], _ => rfl
  | a :: g, e => by
    rw [List.map_cons, List.sum_cons, List.length_cons, e a (by simp), all_ones fun c hc => e c (List.mem_cons_of_mem _ hc)]
    omega
theorem cov_cell {L W f s : Int} {b : Brick} {c : Int × Int} (h : beyB L W f s b = false) (g : covB f s c b = true) : cellB L W c = true := by
  unfold beyB at h
  unfold covB at g
  unfold cellB
  simp only [Bool.or_eq_false_iff, decide_eq_false_iff_not] at h
  simp only [Bool.and_eq_true, decide_eq_true_eq] at g ⊢
  omega
theorem mem_cells {f s : Int} (hf : 0 < f) (hs : 0 < s) {b : Brick} {c : Int × Int} (h : c ∈ cellsL f s b) : covB f s c b = true := by
  have := List.count_pos_iff.mpr h
  rw [cells_count hf hs] at this
  by_cases g : covB f s c b = true
  · exact g
  · rw [if_neg g] at this; omega
theorem mem_grid {L W : Int} (hL : 0 ≤ L) (hW : 0 ≤ W) {c : Int × Int} : c ∈ gridL L W ↔ cellB L W c = true := by
  constructor
  · intro h
    have := List.count_pos_iff.mpr h
    rw [grid_count hL hW] at this
    by_cases g : cellB L W c = true
    · exact g
    · rw [if_neg g] at this; omega
  · intro h
    refine List.count_pos_iff.mp ?_
    rw [grid_count hL hW, if_pos h]
    omega
/-- laid: as the program reckons it, and cell by cell -/
theorem full_iff {L W f s : Int} (hL : 0 < L) (hW : 0 < W) (hf : 0 < f) (hs : 0 < s) {bs : List Brick} (hb : ∀ b ∈ bs, beyB L W f s b = false) :
    ((allL f s bs).Nodup ∧ ((allL f s bs).length : Int) = L * W) ↔ ∀ c, cellB L W c = true → oftN f s bs c = 1 := by
  have sub : ∀ c ∈ allL f s bs, c ∈ gridL L W := by
    intro c hc
    obtain ⟨b, hbm, hcb⟩ := List.mem_flatMap.mp hc
    exact (mem_grid (by omega) (by omega)).mpr (cov_cell (hb b hbm) (mem_cells hf hs hcb))
  have g1 : ∀ c, (gridL L W).count c ≤ 1 := fun c => by
    rw [grid_count (by omega) (by omega)]
    split <;> omega
  have gl : ((gridL L W).length : Int) = L * W := by
    unfold gridL
    rw [cols_len, Int.natCast_mul, Int.toNat_of_nonneg (by omega), Int.toNat_of_nonneg (by omega)]
  have sm := sum_counts g1 sub
  constructor
  · rintro ⟨nd, len⟩ c hc
    have e : ((gridL L W).map fun c => (allL f s bs).count c).sum = (gridL L W).length := by omega
    have := sum_ones (h := fun c => (allL f s bs).count c) (fun c _ => List.nodup_iff_count.mp nd c) e c ((mem_grid (by omega) (by omega)).mpr hc)
    rw [← all_count hf hs]
    exact this
  · intro h
    have e := all_ones (h := fun c => (allL f s bs).count c) (g := gridL L W) fun c hc => by
      show (allL f s bs).count c = 1
      rw [all_count hf hs]
      exact h c ((mem_grid (by omega) (by omega)).mp hc)
    refine ⟨List.nodup_iff_count.mpr fun c => ?_, by omega⟩
    by_cases hc : c ∈ allL f s bs
    · rw [all_count hf hs, h c ((mem_grid (by omega) (by omega)).mp (sub c hc))]
      exact Nat.le_refl _
    · rw [List.count_eq_zero_of_not_mem hc]
      omega
end BF

/-! ### the answers' classes -/
namespace BF
open PySem PySem.Spec PyProof.Rows L2
inductive Cl where
  | answer | laid | striped | short | full | beyond | twice | bare
deriving DecidableEq
def Cl.nm : Cl → Str
  | .answer => "Answer"
  | .laid => "Laid"
  | .striped => "Striped"
  | .short => "Short"
  | .full => "Full"
  | .beyond => "Beyond"
  | .twice => "Twice"
  | .bare => "Bare"
/-- its field -/
def Cl.fld : Cl → Str
  | .beyond => "count"
  | .twice => "cell"
  | .bare => "cell"
  | _ => "which"
def Cl.has : List Cl := [.answer, .laid, .striped, .short, .full, .beyond, .twice, .bare]
abbrev cl (K : PySem.W.Frag) (x : Cl) : Addr := He.ga K x.nm
structure ClF (K : PySem.W.Frag) (x : Cl) : Prop where
  c : Cls K (cl K x)
  ha : PySem.W.findIn K (.ref (cl K x)) "__class__" = some (some (.builtin "object.__class__"))
  hn : PySem.W.specialIn K (.builtin "object.__class__") "__get__" = some (some (.builtin "getset_descriptor.__get__"))
  tk : PySem.W.takesIn K (.builtin "object.__class__") = some true
  mr : PySem.W.mroIn K (cl K x) (.type "object") = some true
  kp : PySem.W.keepIn K (.ref (cl K x)) = true
  made : PySem.W.makesIn K (cl K x) = true
  no : NoAttr K (cl K x) x.fld
  kit : ∀ y ∈ Cl.has, PySem.W.kitOne K (.ref (cl K x)) (.ref (cl K y)) = some (decide (y = x) || decide (y = .answer))
  tyk : ∀ T ∈ ["int", "bool", "tuple", "list"], PySem.W.kitOne K (.ref (cl K x)) (.type T) = some false
structure ClG (K : PySem.W.Frag) (mg : Str → Option Value) : Prop where
  g : ∀ x ∈ Cl.has, mg x.nm = some (.ref (cl K x))
  f : ∀ x ∈ Cl.has, ClF K x
def clB (K : PySem.W.Frag) (x : Cl) : Bool := (He.Fa.glo x.nm).ok K && ((He.Fa.cls x.nm).ok K && (decide (PySem.W.findIn K (.ref (cl K x)) "__class__" = some (some (.builtin "object.__class__"))) &&
  (decide (PySem.W.specialIn K (.builtin "object.__class__") "__get__" = some (some (.builtin "getset_descriptor.__get__"))) && (decide (PySem.W.takesIn K (.builtin "object.__class__") = some true) &&
  (decide (PySem.W.mroIn K (cl K x) (.type "object") = some true) && (PySem.W.keepIn K (.ref (cl K x)) && (PySem.W.makesIn K (cl K x) && ((He.Fa.noat x.nm x.fld).ok K &&
  ((Cl.has.all fun y => decide (PySem.W.kitOne K (.ref (cl K x)) (.ref (cl K y)) = some (decide (y = x) || decide (y = .answer)))) && (["int", "bool", "tuple", "list"].all fun T => decide (PySem.W.kitOne K (.ref (cl K x)) (.type T) = some false)))))))))))
theorem clB_ok {K : PySem.W.Frag} {h : Heap} {mg : Str → Option Value} (X : K.In h) (G : h.Ns mainGlobals mg) (c : (Cl.has.all (clB K)) = true) : ClG K mg := by
  have a := List.all_eq_true.mp c
  refine ⟨fun x hx => ?_, fun x hx => ?_⟩
  · have b := a x hx
    unfold clB at b
    exact He.glo_ok X G (He.ba b).1
  · have b := a x hx
    unfold clB at b
    obtain ⟨_, b⟩ := He.ba b
    obtain ⟨b1, b⟩ := He.ba b
    obtain ⟨b2, b⟩ := He.ba b
    obtain ⟨b3, b⟩ := He.ba b
    obtain ⟨b4, b⟩ := He.ba b
    obtain ⟨b5, b⟩ := He.ba b
    obtain ⟨b6, b⟩ := He.ba b
    obtain ⟨b7, b⟩ := He.ba b
    obtain ⟨b8, b⟩ := He.ba b
    obtain ⟨b9, b10⟩ := He.ba b
    exact ⟨He.cls_ok b1, of_decide_eq_true b2, of_decide_eq_true b3, of_decide_eq_true b4, of_decide_eq_true b5, b6, b7, He.noat_ok b8, fun y hy => of_decide_eq_true (List.all_eq_true.mp b9 y hy), fun T hT => of_decide_eq_true (List.all_eq_true.mp b10 T hT)⟩
/-- an answer: its class, its field -/
inductive Ans where
  | laid | full
  | striped (v : V) | short (v : V) | beyond (v : V) | twice (v : V) | bare (v : V)
def Ans.cl : Ans → Cl
  | .laid => .laid
  | .full => .full
  | .striped _ => .striped
  | .short _ => .short
  | .beyond _ => .beyond
  | .twice _ => .twice
  | .bare _ => .bare
def Ans.fs : Ans → List (Str × V)
  | .laid => []
  | .full => []
  | .striped v => [("which", v)]
  | .short v => [("which", v)]
  | .beyond v => [("count", v)]
  | .twice v => [("cell", v)]
  | .bare v => [("cell", v)]
def AnsAt (K : PySem.W.Frag) (H : Hp) (p : Addr) (a : Ans) : Prop := ∃ dx, H p = some (.ins (cl K a.cl) dx a.fs)
theorem AnsAt.mono {K : PySem.W.Frag} {H H' : Hp} {p : Addr} {a : Ans} (h : AnsAt K H p a) (sm : Same H H') : AnsAt K H' p a := let ⟨dx, e⟩ := h; ⟨dx, sm _ _ e⟩
theorem AnsAt.ty {K : PySem.W.Frag} {H : Hp} {p : Addr} {a : Ans} (h : AnsAt K H p a) (F : ClF K a.cl) : TyX K H (.ref p) (.ref (BF.cl K a.cl)) := let ⟨_, e⟩ := h; .base (.ins e F.c F.ha F.hn F.tk F.mr)
theorem mem_has (a : Ans) : a.cl ∈ Cl.has := by
  generalize a.cl = x
  cases x <;> decide
/-- isinstance(answer, Class) -/
theorem tyA {K : PySem.W.Frag} {mg : Str → Option Value} {H : Hp} {p : Addr} {a : Ans} (G : ClG K mg) (h : AnsAt K H p a) (ha : a.cl ∈ Cl.has := by exact mem_has _) : TyX K H (.ref p) (.ref (BF.cl K a.cl)) := h.ty (G.f _ ha)
theorem kitA {K : PySem.W.Frag} {mg : Str → Option Value} (G : ClG K mg) (a : Ans) (y : Cl) (ha : a.cl ∈ Cl.has := by exact mem_has _) (hy : y ∈ Cl.has := by decide) : PySem.W.kitOne K (.ref (BF.cl K a.cl)) (.ref (BF.cl K y)) = some (decide (y = a.cl) || decide (y = .answer)) := (G.f _ ha).kit y hy
/-- a method of a class -/
def PlM (K : PySem.W.Frag) (x : Cl) (m q : Str) (st : Stmt) : Prop := ∃ f fd, FnP K m q st f fd ∧ Meth K (cl K x) m f
def HasM (P : Program) (w : World) (K : PySem.W.Frag) (mg : Str → Option Value) (base : Heap) (C : CXT) (k : Nat) (x : Cl) (m : Str) (ps : List Str) (sp : Sp) : Prop :=
  ∃ f fd, FnOk P w K mg base C k f fd ps sp ∧ Meth K (cl K x) m f ∧ Binds K fd ps []
section
variable {P : Program} {w : World} {K : PySem.W.Frag} {mg : Str → Option Value} {base : Heap} {x : Cl} {m q : Str} {st : Stmt} {N ps : List Str} {k : Nat} {sp : Sp}
theorem PlM.mk0 (p : PlM K x m q st) (S : FnScope N ps (defScope st))
    (hb : ∀ (kV doc pm : Value) (an : Option Addr) (cdv ct : Value) (us : List Value), us.length = ps.length → bindArgs (PySem.W.fnOf m q (defArgs st) (defBody st) (defScope st) .none kV doc pm an cdv ct) ⟨us, []⟩ = pure (ps.zip us))
    (len : ∀ vs H Q E, sp vs H Q E → vs.length = ps.length)
    (body : ∀ (f : Addr) (cdv : Value) (A : Around) (outer : List Env) (s : Shared) (H : Hp) (vs : List V) (Q : VK) (E : XK), Room k (A.deeper (envOfC q (defScope st) s.heap.objs.size f cdv)) → sp vs H Q E →
      ∃ t, PSs (cxOf CX0 P w K mg base N q (defScope st) f cdv A outer s H E).nox (defBody st) t ∧ t { nx := fun _ H' => Q .non H', rt := Q } (start N vs) H) : HasM P w K mg base CX0 (k + 1) x m ps sp := by
  obtain ⟨f, fd, F, g⟩ := p
  exact ⟨f, fd, F.ok S len (fun cdv A outer s H vs Q E hr h => by
    obtain ⟨t, a, b⟩ := body f cdv A outer s H vs Q E hr h
    exact ⟨t, a.nox, b⟩), g, F.bindsN hb⟩
end
section
variable {X : Cx} {CX : CXT} {k : Nat} {C : Addr} {ps : List Str} {E : XK} {m : Str} {pos apos : Pos} {e o : Expr} {es : List Expr} {ta : TE} {t : TA} {x : Cl}
theorem pe_any {ι : Type} {e : Expr} {Ok : ι → Prop} {t : ι → TE} (h : ∀ i, Ok i → PE X e (t i)) : PE X e (fun σ H Q => ∃ i, Ok i ∧ t i σ H Q) := ⟨fun pins s σ H Q I ⟨i, hi, q⟩ => (h i hi).run pins s σ H Q I q⟩
/-- o.m(..), o an answer of one of several classes -/
def tMethA (K : PySem.W.Frag) (Ok : Cl → Prop) (m : Str) (sp : Cl → Sp) (E : XK) (ta : TE) (t : TA) : TE := fun σ H Q => ∃ x, Ok x ∧ tMeth (cl K x) m (sp x) [] E ta t σ H Q
theorem pe_methA {pl : Sem Bool} {Ok : Cl → Prop} {sp : Cl → Sp} (h : ∀ x, Ok x → HasM X.prog X.w X.K X.mg X.base CX k x m ps (sp x)) (c : ∀ x, Ok x → Cls X.K (cl X.K x)) (hr : Room k X.A) (hx : Passes CX X E) (he : PE X o ta) (ha : PA X (e :: es) t)
    (hst : starEach (e :: es) X.env = (false, eval e X.env) :: starEach es X.env := by rfl) (hpl : (backTo pos (starEach es X.env)).any (·.1) = false := by rfl)
    (ht : eval (.Call (.Attribute o m apos) (e :: es) [] pos) X.env = (do
      let ov ← eval o X.env
      standAt apos.atName
      let (f, first) ← holding [ov] (getMethod ov m pl)
      callWith pos f first (backTo pos (starEach (e :: es) X.env)) (backToKw pos (keywordEach [] X.env))) := by rfl) :
    PE X (.Call (.Attribute o m apos) (e :: es) [] pos) (tMethA X.K Ok m sp E ta t) :=
  pe_any (Ok := Ok) (t := fun x => tMeth (cl X.K x) m (sp x) [] E ta t) fun x hx' => by
    obtain ⟨f, fd, F, M, b⟩ := h x hx'
    exact pe_meth (pl := pl) he (c x hx') M F hr b .nil hx ha hst hpl ht
/-- __init__(self, v): self.f = v -/
inductive SpInit (K : PySem.W.Frag) (x : Cl) : Sp where
  | mk {p dx : Addr} {v : V} {H : Hp} {Q : VK} {E : XK} (h : H p = some (.ins (cl K x) dx [])) (q : Q .non (upd H p (.ins (cl K x) dx [(x.fld, v)]))) : SpInit K x [.ref p, v] H Q E
def Cl.of : Cl → V → Ans
  | .striped, v => .striped v
  | .short, v => .short v
  | .beyond, v => .beyond v
  | .twice, v => .twice v
  | .bare, v => .bare v
  | .full, _ => .full
  | _, _ => .laid
def Cl.has1 : Cl → Prop
  | .striped => True
  | .short => True
  | .beyond => True
  | .twice => True
  | .bare => True
  | _ => False
theorem Cl.of_cl {x : Cl} (h : x.has1) (v : V) : (x.of v).cl = x ∧ (x.of v).fs = [(x.fld, v)] := by
  cases x <;> first | exact ⟨rfl, rfl⟩ | exact h.elim
/-- Class(e) -/
def tMk1 (K : PySem.W.Frag) (x : Cl) (t : TA) : TE := fun σ H Q => t σ H fun vs H1 => ∃ v, vs = [v] ∧ ∀ p H2, H1 p = none → Same H1 H2 → AnsAt K H2 p (x.of v) → Q (.ref p) H2
theorem pe_mk1 (M : Mk X.K (cl X.K x) (He.ma X.K (cl X.K x) "__init__")) (h : HasM X.prog X.w X.K X.mg X.base CX0 k x "__init__" ps (SpInit X.K x)) (h1 : x.has1) (hr : Room (k + 1) X.A) {y : Str} {p : Pos} (hm : X.mg y = some (.ref (cl X.K x))) (ha : PA X (e :: es) t)
    (hg : Gl X y := by rfl) (hdb : (y == ("__debug__" : Str)) = false := by decide) (he : starEach (e :: es) X.env = (false, eval e X.env) :: starEach es X.env := by rfl) (hpl : (backTo pos (starEach es X.env)).any (·.1) = false := by rfl) :
    PE X (.Call (.Name y p) (e :: es) [] pos) (tMk1 X.K x t) := by
  obtain ⟨f, fd, F, m, b⟩ := h
  refine ⟨fun pins s σ H Q I hh => wpAny_Call_Name_kw (ld_glob I hg hm ?_ hdb)⟩
  refine PySem.W.callWith_K (h₀ := X.base) I.ok.mod.kin M.kp (thn (ha.run pos pins s σ H _ I hh) fun us s1 ⟨vs, H1, J, r, v, ev, z⟩ => ⟨J.kIn, ?_⟩) he hpl
  subst ev
  have M2 : Mk X.K (cl X.K x) f := ⟨M.makes, m.at_, m.fn, M.kp⟩
  refine run_make (dvs := []) (E := E0) M2 F hr b .nil pass0 J r fun q dx nq nd ne => .mk (dx := dx) upd_same ⟨rfl, z q _ nq (fun b o eb => ?_) ?_⟩
  · have b1 := ne_of_none eb nq
    have b2 := ne_of_none eb nd
    rw [upd_ne b1, upd_ne b1, upd_ne b2]
    exact eb
  · refine ⟨dx, ?_⟩
    rw [(Cl.of_cl h1 v).1, (Cl.of_cl h1 v).2]
    exact upd_same
/-- Class(), without an __init__ -/
def tMk0 (K : PySem.W.Frag) (x : Cl) : TE := fun σ H Q => ∀ p H2, H p = none → Same H H2 → (∃ dx, H2 p = some (.ins (cl K x) dx [])) → Q (.ref p) H2
theorem run_plain {pins : List (Addr × Obj)} {σ : L2.St} {H : Hp} {s : Shared} {Q : VK} (hm : PySem.W.makesIn X.K C = true) (hi : PySem.W.findIn X.K (.ref C) "__init__" = some (some (.builtin "object.__init__"))) (I : Inv X pins σ H s)
    (h : ∀ x dx, H x = none → H dx = none → dx ≠ x → Q (.ref x) (upd (upd H dx (.own x)) x (.ins C dx []))) : wpAny (model X.prog X.w) X.A (call (.ref C) []) (EP X pins σ Q) X.xe s := by
  have J := Inv.made (C := C) I
  have z := h (s.heap.objs.size + 1) s.heap.objs.size (I.hok.fresh (Nat.le_succ _)) (I.hok.fresh (Nat.le_refl _)) (Nat.ne_of_lt (Nat.lt_succ_self _))
  have Y := PySem.W.makes_of (M := model X.prog X.w) I.kIn hm
  refine wpAny_call (make_map0 (K := X.K) I.kIn hm hi (fun self => PySem.W.Looks.of_pure (PySem.W.oi_bind self)) ?_)
  have e2 : ((s.heap.push PySem.W.emptyDict).push (PySem.W.instObj C s.heap.objs.size)).get? (s.heap.objs.size + 1) = some (PySem.W.instObj C s.heap.objs.size) := by
    have := Heap.get?_push_size (s.heap.push PySem.W.emptyDict) (o := PySem.W.instObj C s.heap.objs.size) rfl
    rwa [Heap.size_push] at this
  have u1 : PySem.W.Looks (model X.prog X.w) ((s.heap.push PySem.W.emptyDict).push (PySem.W.instObj C s.heap.objs.size)) (typeOf (.ref (s.heap.objs.size + 1))) (.ref C) := (PySem.W.Looks.ld e2).andThen .now
  have u2 : PySem.W.Looks (model X.prog X.w) ((s.heap.push PySem.W.emptyDict).push (PySem.W.instObj C s.heap.objs.size)) (isInstance (.ref (s.heap.objs.size + 1)) (.type "object")) true :=
    u1.andThen (Y.top.keeps fun b o e => Heap.get?_push_of_some _ (Heap.get?_push_of_some _ e))
  refine codeAny_call_builtin PySem.W.oi_plain PySem.W.entry_oi (@PySem.W.check_slot (model X.prog X.w) _ _ _ "object.__init__" "object" "__init__" (.ref (s.heap.objs.size + 1)) [] [] _ PySem.W.oi_kind PySem.W.oi_split u2 (PySem.W.oi_args (.ref (s.heap.objs.size + 1))) ?_)
  rw [PySem.W.oi_run]
  exact wpAny_pure (And.intro rfl ⟨.ref (s.heap.objs.size + 1), _, J, rfl, z⟩)
theorem pe_mk0 (F : ClF X.K x) (hi : PySem.W.findIn X.K (.ref (cl X.K x)) "__init__" = some (some (.builtin "object.__init__"))) {y : Str} {p : Pos} (hm : X.mg y = some (.ref (cl X.K x))) (hg : Gl X y := by rfl) (hdb : (y == ("__debug__" : Str)) = false := by decide) :
    PE X (.Call (.Name y p) [] [] pos) (tMk0 X.K x) := by
  refine ⟨fun pins s σ H Q I h => wpAny_Call_Name_kw (ld_glob I hg hm ?_ hdb)⟩
  refine PySem.W.callWith_K0 I.kIn F.kp (run_plain F.made hi I fun q dx nq nd ne => h q _ nq (fun b o eb => ?_) ⟨dx, upd_same⟩)
  have b1 := ne_of_none eb nq
  have b2 := ne_of_none eb nd
  rw [upd_ne b1, upd_ne b2]
  exact eb
end
structure ClI (P : Program) (w : World) (K : PySem.W.Frag) (mg : Str → Option Value) (base : Heap) : Prop where
  mk1 : ∀ x ∈ Cl.has, x.has1 → Mk K (cl K x) (He.ma K (cl K x) "__init__")
  in1 : ∀ x ∈ Cl.has, x.has1 → HasM P w K mg base CX0 1 x "__init__" ["self", x.fld] (SpInit K x)
  in0 : ∀ x ∈ Cl.has, (x = .laid ∨ x = .full) → PySem.W.findIn K (.ref (cl K x)) "__init__" = some (some (.builtin "object.__init__"))
section
variable {X : Cx} {pos : Pos} {e : Expr} {es : List Expr} {t : TA} {x : Cl}
theorem pe_mkI (CI : ClI X.prog X.w X.K X.mg X.base) (G : ClG X.K X.mg) (hx : x ∈ Cl.has) (h1 : x.has1) (hr : Room 2 X.A) {y : Str} {p : Pos} (ha : PA X (e :: es) t) (hy : y = x.nm := by rfl) (hg : Gl X y := by rfl) (hdb : (y == ("__debug__" : Str)) = false := by decide)
    (he : starEach (e :: es) X.env = (false, eval e X.env) :: starEach es X.env := by rfl) (hpl : (backTo pos (starEach es X.env)).any (·.1) = false := by rfl) : PE X (.Call (.Name y p) (e :: es) [] pos) (tMk1 X.K x t) :=
  pe_mk1 (CI.mk1 x hx h1) (CI.in1 x hx h1) h1 hr (by rw [hy]; exact G.g x hx) ha hg hdb he hpl
theorem pe_mkN (CI : ClI X.prog X.w X.K X.mg X.base) (G : ClG X.K X.mg) (hx : x ∈ Cl.has) (h0 : x = .laid ∨ x = .full) {y : Str} {p : Pos} (hy : y = x.nm := by rfl) (hg : Gl X y := by rfl) (hdb : (y == ("__debug__" : Str)) = false := by decide) :
    PE X (.Call (.Name y p) [] [] pos) (tMk0 X.K x) := pe_mk0 (G.f x hx) (CI.in0 x hx h0) (by rw [hy]; exact G.g x hx) hg hdb
end
theorem HasM.mono {P : Program} {w : World} {K : PySem.W.Frag} {mg : Str → Option Value} {base : Heap} {C : CXT} {j k : Nat} {x : Cl} {m : Str} {ps : List Str} {sp : Sp} (h : HasM P w K mg base C j x m ps sp) (l : j ≤ k) : HasM P w K mg base C k x m ps sp :=
  let ⟨f, fd, F, r⟩ := h; ⟨f, fd, F.mono l, r⟩
def Ok4 (x : Cl) : Prop := x ∈ [Cl.laid, .striped, .short]
def Ok5 (x : Cl) : Prop := x ∈ [Cl.full, .beyond, .twice, .bare]
theorem ok4 {x : Cl} (h : Ok4 x) : x ∈ Cl.has := by
  unfold Ok4 at h
  cases x <;> first | decide | exact absurd h (by decide)
theorem ok5 {x : Cl} (h : Ok5 x) : x ∈ Cl.has := by
  unfold Ok5 at h
  cases x <;> first | decide | exact absurd h (by decide)
end BF

/-! ### data at any depth, in a heap that grows -/
namespace BF
open PySem PySem.Spec PyProof.Rows L2
theorem at0 {x : V} {xs : List V} : atI (x :: xs) 0 = some x := by
  show atI (x :: xs) ((0 : Nat) : Int) = some x
  exact atI_nat rfl
mutual
theorem dpS {K : PySem.W.Frag} {H H' : Hp} (sm : Same H H') : ∀ {d : PyData} {v : V}, Dp K H v d → Dp K H' v d
  | .none, _, h => by cases h; exact .non
  | .bool b, _, h => by cases h; exact .bl b
  | .int i, _, h => by cases h; exact .int i
  | .str x, _, h => by cases h; exact .str x
  | .list ds, _, h => by
    cases h with
    | lst hs ha => exact .lst (sm.seq hs) (dpsS sm ha)
  | .tuple ds, _, h => by
    cases h with
    | tup hs ha => exact .tup (Same.tup sm hs) (dpsS sm ha)
theorem dpsS {K : PySem.W.Frag} {H H' : Hp} (sm : Same H H') : ∀ {ds : List PyData} {vs : List V}, DpAll K H vs ds → DpAll K H' vs ds
  | [], _, h => by cases h; exact .nil
  | d :: ds, _, h => by
    cases h with
    | cons h1 h2 => exact .cons (dpS sm h1) (dpsS sm h2)
end
/-- shaped, at most n deep -/
structure Shp (n : Nat) (d : PyData) : Prop where
  c : PyData.canLay0 d = true
  h : PyData.depth d ≤ n
theorem Shp.ok {n : Nat} {d : PyData} (s : Shp n d) (h : n ≤ 64) : SeqAt.shaped d = true := Bool.and_eq_true_iff.mpr ⟨s.c, decide_eq_true (Nat.le_trans s.h h)⟩
theorem shp_all {n : Nat} : ∀ {ds : List PyData}, (∀ d ∈ ds, Shp n d) → PyData.canLayAll0 ds = true ∧ PyData.depthAll ds ≤ n
  | [], _ => ⟨rfl, by simp [PyData.depthAll]⟩
  | d :: ds, h => by
    obtain ⟨a, b⟩ := shp_all (ds := ds) fun d hd => h d (List.mem_cons_of_mem _ hd)
    have c := h d (by simp)
    refine ⟨?_, ?_⟩
    · rw [PyData.canLayAll0, c.c, a]
      rfl
    · rw [PyData.depthAll]
      exact Nat.max_le.mpr ⟨c.h, b⟩
theorem shp_list {n : Nat} {ds : List PyData} (h : ∀ d ∈ ds, Shp n d) : Shp (n + 1) (.list ds) := by
  obtain ⟨a, b⟩ := shp_all h
  refine ⟨by rw [PyData.canLay0]; exact a, ?_⟩
  rw [PyData.depth]
  omega
theorem shp_tuple {n : Nat} {ds : List PyData} (h : ∀ d ∈ ds, Shp n d) : Shp (n + 1) (.tuple ds) := by
  obtain ⟨a, b⟩ := shp_all h
  refine ⟨by rw [PyData.canLay0]; exact a, ?_⟩
  rw [PyData.depth]
  omega
theorem shp_int (i : Int) : Shp 1 (.int i) := ⟨rfl, by simp [PyData.depth]⟩
theorem shp_bool (b : Bool) : Shp 1 (.bool b) := ⟨rfl, by simp [PyData.depth]⟩
theorem shp_ints (xs : List Int) : SeqAt.shaped (.list (xs.map .int)) = true := (shp_list (n := 1) fun d hd => by
  obtain ⟨i, _, rfl⟩ := List.mem_map.mp hd
  exact shp_int i).ok (by decide)
theorem ne_nil (xs : List Int) : (!PyData.eqv (.list (xs.map .int)) (.list [])) = !xs.isEmpty := by
  cases xs with
  | nil => rfl
  | cons x xs => rfl
theorem dp_ints {K : PySem.W.Frag} {H : Hp} : ∀ xs : List Int, DpAll K H (xs.map V.int) (xs.map PyData.int)
  | [] => .nil
  | x :: xs => .cons (.int x) (dp_ints xs)
end BF

/-! ### xs.count(y), flat items -/
namespace BF
open PySem PySem.Spec PyProof.Rows L2
theorem count_eqU {x : V} : ∀ {xs : List V} {us : List Value}, Vals xs us → xs.all flatV = true → us.countP (eqU x) = xs.countP fun y => eqV y x
  | _, _, .nil, _ => rfl
  | y :: xs, u :: us, .cons r t, f => by
    rw [List.all_cons, Bool.and_eq_true] at f
    rw [List.countP_cons, List.countP_cons, count_eqU t f.2, eqU_of r f.1]
def rCntV (K : PySem.W.Frag) : V → List V → Hp → VK → Prop := fun x xs H Q => ∃ (p : Addr) (ys : List V) (y : V), x = .ref p ∧ xs = [y] ∧ SqL K H p ys ∧ flatV y = true ∧ ys.all flatV = true ∧ Q (.int (ys.countP (fun z => eqV z y) : Nat)) H
theorem mt_count {X : Cx} : MtR X "list.count" (rCntV X.K) := by
  intro pins s σ H x xs v us Q I rx rxs h
  obtain ⟨p, ys, y, rfl, rfl, hs, fy, fa, q⟩ := h
  cases rx
  obtain ⟨u, rfl, ru⟩ := rxs.one
  obtain ⟨its, rv, ⟨⟨cls, dd, data, sl⟩, n, ho, hc, hdn, hd⟩, hlen⟩ := I.list hs
  simp only at hc hd
  subst hc hd
  refine call_meets PySem.F.slot_list_count ⟨_, ho, rfl⟩ PySem.F.entry_list_count (PySem.F.args_list_count_2 _ _) (SeqAt.list_countAt p its.toArray n dd sl u (eqU y)) ⟨ho, fun z hz => mem_eqAt ru fy rv fa z (by simpa using hz), ?_⟩
  have ec : its.toArray.toList.countP (eqU y) = ys.countP (fun z => eqV z y) := count_eqU rv fa
  refine ⟨.int (ys.countP (fun z => eqV z y) : Nat), H, I.tok _, ⟨s.toks, ?_⟩, q⟩
  rw [ec]
end BF

/-! short words for readings: walk_at "rd" takes all steps that are plain -/
local macro_rules | `(tactic| walk_at "bn") => `(tactic| first | with_reducible assumption | ((with_reducible show BF.Bn _ ((_ : Int) % _)); exact BF.Bn.mod (by walk_at "bn") (by walk_at "ps")) | ((with_reducible show BF.Bn _ ((_ : Int) / _)); exact BF.Bn.div (by walk_at "bn") (by walk_at "ps")) | ((with_reducible show BF.Bn _ ((_ : Int) * _)); exact BF.Bn.mul (by walk_at "bn") (by walk_at "bn")) | ((with_reducible show BF.Bn _ ((_ : Int) + _)); exact BF.Bn.add (by walk_at "bn") (by walk_at "bn")) | ((with_reducible show BF.Bn _ ((_ : Int) - _)); exact BF.Bn.sub (by walk_at "bn") (by walk_at "bn")) | exact BF.Sz.bn (by with_reducible assumption) | exact BF.bnl (n := 80) (by decide))
local macro_rules | `(tactic| walk_at "ps") => `(tactic| first | with_reducible assumption | decide | exact BF.Sz.pos (by with_reducible assumption) | omega)
local macro_rules | `(tactic| walk_at "sd") => `(tactic| first | with_reducible assumption | ((with_reducible show L2.CPow _ _); exact ⟨by decide, by decide, by decide⟩) | ((with_reducible show L2.CDivW _ _); first | exact BF.divOk_lit (by decide) (by decide) | exact BF.Bn.divOk (by walk_at "bn") (by walk_at "ps") (by decide) (by decide)) | ((with_reducible show L2.CMulX _ _); exact BF.Bn.mulOk (by walk_at "bn") (by walk_at "bn") (by decide)) | ((with_reducible show _ ≤ PySem.sizeLine); exact BF.size4 (by simp)) | ((with_reducible show (0 : Int) < _); walk_at "ps") | ((with_reducible show (_ : Int) ≤ _); omega) | ((with_reducible show (_ : Int) < _); omega))
local macro_rules | `(tactic| walk_at "rd1") => `(tactic| first | refine And.intro (by walk_at "sd") ?_ | refine ⟨_, rfl, ?_⟩ | refine And.intro rfl ?_ | refine ⟨_, _, rfl, rfl, ?_⟩ | refine ⟨_, _, rfl, ?_⟩ | refine ⟨_, _, _, rfl, ?_⟩)
local macro_rules | `(tactic| walk_at "rd") => `(tactic| repeat walk_at "rd1")

/-! ### sums.py -/
namespace BF
open PySem PySem.Spec PyProof.Rows L2
/-- is_number(x): x of the built-in type T -/
inductive SpIsNumber (K : PySem.W.Frag) : Sp where
  | mk {x : V} {T : String} {i b : Bool} {H : Hp} {Q : VK} {E : XK} (ty : TyX K H x (.type T)) (hi : kitB T "int" = some i) (hb : kitB T "bool" = some b) (q : Q (.bl (i && !b)) H) : SpIsNumber K [x] H Q E
theorem num_int {K : PySem.W.Frag} {H : Hp} {Q : VK} {E : XK} {n : Int} (q : Q (.bl true) H) : SpIsNumber K [.int n] H Q E := .mk (T := "int") (i := true) (b := false) (.base (.int n)) (by decide +kernel) (by decide +kernel) q
section
variable {P : Program} {w : World} {K : PySem.W.Frag} {mg : Str → Option Value} {base : Heap}
theorem H_is_number (p : Pl K mg "is_number" s_is_number) (B : Bi mg) : Has P w K mg base CX0 1 "is_number" ["thing"] (SpIsNumber K) := by
  refine p.mk0 sc_is_number (fun _ _ _ _ _ _ us hl => match us, hl with | [_], _ => rfl) (fun vs H Q E h => ?_) (fun f cdv A outer s H vs Q E hr h => ?_)
  · cases h; rfl
  · obtain @⟨x, T, i, b, _, _, _, hT, hi, hb, q⟩ := h
    refine ⟨_, (pss_one (ps_ret (pe_and (pe_callB (r := rIsi K) call_isi (by rfl) B.isinstance (by decide +kernel) (pa_cons (pv 0) (pa_cons (pe_bltn (v := .ty "int") (by rfl) B.int (by decide +kernel) rfl) pa_nil))) (pe_one (pe_not (pe_callB (r := rIsi K) call_isi (by rfl) B.isinstance (by decide +kernel) (pa_cons (pv 0) (pa_cons (pe_bltn (v := .ty "bool") (by rfl) B.bool (by decide +kernel) rfl) pa_nil)))))))), ?_⟩
    refine ⟨_, rfl, x, _, _, _, i, rfl, .ty "int", hT, kit_ty hi, i, rfl, ?_⟩
    cases i with
    | false => exact iteF q
    | true => exact iteT ⟨_, rfl, x, _, _, _, b, rfl, .ty "bool", hT, kit_ty hb, b, rfl, q⟩
theorem ints_at {ns : List Int} {i : Nat} {y : V} (h : (ns.map V.int)[i]? = some y) : ∃ n, ns[i]? = some n ∧ y = .int n := by
  rw [List.getElem?_map] at h
  cases e : ns[i]? with
  | none => rw [e] at h; cases h
  | some n =>
    rw [e] at h
    exact ⟨n, rfl, (Option.some.inj h).symm⟩
end
end BF

namespace BF
open PySem PySem.Spec PyProof.Rows L2
/-- check_sizes(some), all of them sizes -/
inductive SpCheckSizes (K : PySem.W.Frag) : Sp where
  | mk {a : Addr} {ns : List Int} {H : Hp} {Q : VK} {E : XK} (hS : SqL K H a (ns.map V.int)) (hp : ∀ n ∈ ns, 0 < n) (q : Q .non H) : SpCheckSizes K [.ref a] H Q E
section
variable {P : Program} {w : World} {K : PySem.W.Frag} {mg : Str → Option Value} {base : Heap}
theorem H_check_sizes (p : Pl K mg "check_sizes" s_check_sizes) (h_is_number : Has P w K mg base CX0 1 "is_number" ["thing"] (SpIsNumber K)) : Has P w K mg base CX0 2 "check_sizes" ["some"] (SpCheckSizes K) := by
  refine p.mk0 sc_check_sizes (fun _ _ _ _ _ _ us hl => match us, hl with | [_], _ => rfl) (fun vs H Q E h => ?_) (fun f cdv A outer s H vs Q E hr h => ?_)
  · cases h; rfl
  · obtain @⟨a, ns, _, _, _, hS, hp, q⟩ := h
    refine ⟨_, (pss_one (ps_for PassesOwn.never (by rfl) (pi_list (pv 0)) (pg_name (i := 1) sc_check_sizes.nd rfl (Or.inl rfl)) (pss_one (ps_if (PW.pt (pw_or (pt_not (pt_val (pe_fn h_is_number (hr.mono (by decide)) pass0 (pa_cons (pv 1) pa_nil)))) (pw_or1 (pt_cmpR op_lt (pv 1) pe_int (nomark _))))) (pss_one ps_never) pss_nil)))), ?_⟩
    refine ⟨_, rfl, a, rfl, ⟨_, hS⟩, for_list (K := K) (a := a) (xs := ns.map V.int) (fun i σ H' => H' = H ∧ ∃ y, σ = [some (.ref a), y]) ⟨rfl, none, rfl⟩ (fun i σ H' _ ⟨e, _⟩ => by rw [e]; exact hS) ?_ ?_⟩
    · rintro i y σ H' hi ⟨rfl, z, rfl⟩
      obtain ⟨n, hn, rfl⟩ := ints_at hi
      have h0 := hp n (List.mem_of_getElem? hn)
      refine ⟨_, rfl, num_int ⟨true, rfl, iteF ⟨_, rfl, _, _, rfl, rfl, _, rfl, ?_⟩⟩⟩
      rw [decide_eq_false (by omega)]
      exact iteF ⟨rfl, _, rfl⟩
    · rintro σ H' ⟨rfl, z, rfl⟩
      exact q
end
end BF

/-! ### the laws' own helpers: a drawn number, the fewest -/
namespace BF
open PySem PySem.Spec PyProof.Rows L2
/-- some number -/
inductive SpNumber : Sp where
  | mk {cell at_ whole : Int} {H : Hp} {Q : VK} {E : XK} (hc : Bn 1048577 cell) (ha : Bn 10 at_) (q : ∀ n, Q (.int n) H) : SpNumber [.int cell, .int at_, .int whole] H Q E
section
variable {P : Program} {w : World} {K : PySem.W.Frag} {mg : Str → Option Value} {base : Heap}
theorem H__law_number (p : Pl K mg "_law_number" s__law_number) : Has P w K mg base CX0 1 "_law_number" ["_law_cell", "_law_at", "_law_whole_here"] SpNumber := by
  refine p.mk0 sc__law_number (fun _ _ _ _ _ _ us hl => match us, hl with | [_, _, _], _ => rfl) (fun vs H Q E h => ?_) (fun f cdv A outer s H vs Q E hr h => ?_)
  · cases h; rfl
  · obtain @⟨cell, at_, whole, _, _, _, hc, ha, q⟩ := h
    refine ⟨_, (pss_cons (ps_if (pt_cmpR op_ge (pv 0) (pe_op op_pow pe_int pe_int) (nomark _)) (pss_one (ps_ret (pv 0))) pss_nil)
      (pss_cons (ps_set (i := 3) sc__law_number.nd rfl (Or.inl rfl) (pe_op op_mod (pe_op op_add (pe_op op_mulX (pe_op op_add (pv 0) (pe_op op_mulX pe_int (pv 1))) pe_int) (pv 2)) pe_int))
      (pss_cons (ps_set (i := 4) sc__law_number.nd rfl (Or.inl rfl) (pe_op op_mulX (pe_op op_mulX (pv 3) (pe_op op_add (pe_op op_add (pv 3) (pe_op op_mulX pe_int (pv 1))) pe_int)) (pe_op op_add (pe_op op_add (pv 3) (pv 0)) pe_int)))
      (pss_one (ps_ret (pe_op op_fdivW (pe_op op_mulX (pv 4) (pe_op op_add (pv 4) pe_int)) pe_int)))))), ?_⟩
    refine ⟨_, rfl, _, _, rfl, rfl, ⟨by decide, by decide, by decide⟩, _, _, rfl, rfl, _, rfl, iteD (fun _ => ⟨_, rfl, q _⟩) (fun _ => ?_)⟩
    have b1 : Bn 20 (977 * at_) := ((bnl (n := 10) (x := 977) (by decide)).mul ha).mono (by decide)
    have b2 : Bn 1048598 (cell + 977 * at_) := (hc.add b1).mono (by decide)
    refine ⟨_, rfl, _, rfl, _, _, rfl, rfl, (bnl (n := 10) (by decide)).mulOk ha (by decide), _, _, rfl, rfl, _, _, rfl, rfl, b2.mulOk (bnl (n := 16) (by decide)) (by decide), _, rfl, _, _, rfl, rfl, _, _, rfl, rfl, by show (0 : Int) < 2147483647; decide, ?_⟩
    dsimp only
    generalize hm : ((cell + 977 * at_) * 48271 + whole) % 2147483647 = m
    have b3 : Bn 31 m := by
      rw [← hm]
      exact Bn.mod (bnl (by decide)) (by decide)
    have b4 : Bn 17 (31 * at_) := ((bnl (n := 5) (x := 31) (by decide)).mul ha).mono (by decide)
    have b5 : Bn 60 (m + 31 * at_ + 7) := ((b3.add b4).add (bnl (n := 3) (x := 7) (by decide))).mono (by decide)
    have b6 : Bn 1048700 (m + cell + 5) := ((b3.add hc).add (bnl (n := 3) (x := 5) (by decide))).mono (by decide)
    have b7 : Bn 91 (m * (m + 31 * at_ + 7)) := (b3.mul b5).mono (by decide)
    refine ⟨_, rfl, _, rfl, _, rfl, _, _, rfl, rfl, (bnl (n := 5) (by decide)).mulOk ha (by decide), _, _, rfl, rfl, _, _, rfl, rfl, _, _, rfl, rfl, b3.mulOk b5 (by decide), _, rfl, _, rfl, _, _, rfl, rfl, _, _, rfl, rfl, _, _, rfl, rfl, b7.mulOk b6 (by decide), ?_⟩
    have b8 : Bn 1048791 (m * (m + 31 * at_ + 7) * (m + cell + 5)) := (b7.mul b6).mono (by decide)
    dsimp only
    generalize m * (m + 31 * at_ + 7) * (m + cell + 5) = x at b8 ⊢
    have b9 : Bn 1048900 (x + 48271) := (b8.add (bnl (n := 16) (x := 48271) (by decide))).mono (by decide)
    exact ⟨_, rfl, _, rfl, _, _, rfl, rfl, _, _, rfl, rfl, b8.mulOk b9 (by decide), _, _, rfl, rfl, divOk_lit (by decide) (by decide), q _⟩
theorem H__law_whole (p : Pl K mg "_law_whole" s__law_whole) (B : Bi mg) : Has P w K mg base CX0 1 "_law_whole" ["_law_found"] (SpIsNumber K) := by
  refine p.mk0 sc__law_whole (fun _ _ _ _ _ _ us hl => match us, hl with | [_], _ => rfl) (fun vs H Q E h => ?_) (fun f cdv A outer s H vs Q E hr h => ?_)
  · cases h; rfl
  · obtain @⟨x, T, i, b, _, _, _, hT, hi, hb, q⟩ := h
    refine ⟨_, (pss_one (ps_ret (pe_and (pe_callB (r := rIsi K) call_isi (by rfl) B.isinstance (by decide +kernel) (pa_cons (pv 0) (pa_cons (pe_bltn (v := .ty "int") (by rfl) B.int (by decide +kernel) rfl) pa_nil))) (pe_one (pe_not (pe_callB (r := rIsi K) call_isi (by rfl) B.isinstance (by decide +kernel) (pa_cons (pv 0) (pa_cons (pe_bltn (v := .ty "bool") (by rfl) B.bool (by decide +kernel) rfl) pa_nil)))))))), ?_⟩
    refine ⟨_, rfl, x, _, _, _, i, rfl, .ty "int", hT, kit_ty hi, i, rfl, ?_⟩
    cases i with
    | false => exact iteF q
    | true => exact iteT ⟨_, rfl, x, _, _, _, b, rfl, .ty "bool", hT, kit_ty hb, b, rfl, q⟩
end
end BF

/-! ### the answers' own __init__ -/
namespace BF
open PySem PySem.Spec PyProof.Rows L2
section
variable {P : Program} {w : World} {K : PySem.W.Frag} {mg : Str → Option Value} {base : Heap}
theorem H_Striped___init__ (p : PlM K .striped "__init__" "Striped.__init__" s_Striped___init__) (G : ClG K mg) : HasM P w K mg base CX0 1 .striped "__init__" ["self", "which"] (SpInit K .striped) := by
  refine p.mk0 sc_Striped___init__ (fun _ _ _ _ _ _ us hl => match us, hl with | [_, _], _ => rfl) (fun vs H Q E h => ?_) (fun f cdv A outer s H vs Q E hr h => ?_)
  · cases h; rfl
  · obtain @⟨p, dx, v, _, _, _, hp, q⟩ := h
    have F := G.f .striped (by decide)
    exact ⟨_, (pss_one (ps_fld (pv 0) (pv 1) rfl)), ⟨_, rfl, _, rfl, p, _, dx, [], rfl, hp, F.c, F.no, by decide, q⟩⟩
theorem H_Short___init__ (p : PlM K .short "__init__" "Short.__init__" s_Short___init__) (G : ClG K mg) : HasM P w K mg base CX0 1 .short "__init__" ["self", "which"] (SpInit K .short) := by
  refine p.mk0 sc_Short___init__ (fun _ _ _ _ _ _ us hl => match us, hl with | [_, _], _ => rfl) (fun vs H Q E h => ?_) (fun f cdv A outer s H vs Q E hr h => ?_)
  · cases h; rfl
  · obtain @⟨p, dx, v, _, _, _, hp, q⟩ := h
    have F := G.f .short (by decide)
    exact ⟨_, (pss_one (ps_fld (pv 0) (pv 1) rfl)), ⟨_, rfl, _, rfl, p, _, dx, [], rfl, hp, F.c, F.no, by decide, q⟩⟩
theorem H_Beyond___init__ (p : PlM K .beyond "__init__" "Beyond.__init__" s_Beyond___init__) (G : ClG K mg) : HasM P w K mg base CX0 1 .beyond "__init__" ["self", "count"] (SpInit K .beyond) := by
  refine p.mk0 sc_Beyond___init__ (fun _ _ _ _ _ _ us hl => match us, hl with | [_, _], _ => rfl) (fun vs H Q E h => ?_) (fun f cdv A outer s H vs Q E hr h => ?_)
  · cases h; rfl
  · obtain @⟨p, dx, v, _, _, _, hp, q⟩ := h
    have F := G.f .beyond (by decide)
    exact ⟨_, (pss_one (ps_fld (pv 0) (pv 1) rfl)), ⟨_, rfl, _, rfl, p, _, dx, [], rfl, hp, F.c, F.no, by decide, q⟩⟩
theorem H_Twice___init__ (p : PlM K .twice "__init__" "Twice.__init__" s_Twice___init__) (G : ClG K mg) : HasM P w K mg base CX0 1 .twice "__init__" ["self", "cell"] (SpInit K .twice) := by
  refine p.mk0 sc_Twice___init__ (fun _ _ _ _ _ _ us hl => match us, hl with | [_, _], _ => rfl) (fun vs H Q E h => ?_) (fun f cdv A outer s H vs Q E hr h => ?_)
  · cases h; rfl
  · obtain @⟨p, dx, v, _, _, _, hp, q⟩ := h
    have F := G.f .twice (by decide)
    exact ⟨_, (pss_one (ps_fld (pv 0) (pv 1) rfl)), ⟨_, rfl, _, rfl, p, _, dx, [], rfl, hp, F.c, F.no, by decide, q⟩⟩
theorem H_Bare___init__ (p : PlM K .bare "__init__" "Bare.__init__" s_Bare___init__) (G : ClG K mg) : HasM P w K mg base CX0 1 .bare "__init__" ["self", "cell"] (SpInit K .bare) := by
  refine p.mk0 sc_Bare___init__ (fun _ _ _ _ _ _ us hl => match us, hl with | [_, _], _ => rfl) (fun vs H Q E h => ?_) (fun f cdv A outer s H vs Q E hr h => ?_)
  · cases h; rfl
  · obtain @⟨p, dx, v, _, _, _, hp, q⟩ := h
    have F := G.f .bare (by decide)
    exact ⟨_, (pss_one (ps_fld (pv 0) (pv 1) rfl)), ⟨_, rfl, _, rfl, p, _, dx, [], rfl, hp, F.c, F.no, by decide, q⟩⟩
end
end BF

/-! ### answers.py: bricks and cells -/
namespace BF
open PySem PySem.Spec PyProof.Rows L2
def cellV (c : Int × Int) : List V := [.int c.1, .int c.2]
/-- a brick's tuple, a list of bricks -/
def BrAll (K : PySem.W.Frag) (H : Hp) (ps : List (Addr × Brick)) : Prop := ∀ p ∈ ps, SqT K H p.1 p.2.vs
def refs {α : Type} (ps : List (Addr × α)) : List V := ps.map fun p => V.ref p.1
def vals {α : Type} (ps : List (Addr × α)) : List α := ps.map (·.2)
theorem BrAll.mono {K : PySem.W.Frag} {H H' : Hp} {ps : List (Addr × Brick)} (h : BrAll K H ps) (sm : Same H H') : BrAll K H' ps := fun p hp => Same.tup sm (h p hp)
theorem refs_at {α : Type} {ps : List (Addr × α)} {i : Nat} {v : V} (h : (refs ps)[i]? = some v) : ∃ p, ps[i]? = some p ∧ v = .ref p.1 ∧ p ∈ ps := by
  unfold refs at h
  rw [List.getElem?_map] at h
  cases e : ps[i]? with
  | none => rw [e] at h; cases h
  | some p =>
    rw [e] at h
    exact ⟨p, rfl, (Option.some.inj h).symm, List.mem_of_getElem? e⟩
theorem refs_len {α : Type} (ps : List (Addr × α)) : (refs ps).length = ps.length := List.length_map _
theorem vals_len {α : Type} (ps : List (Addr × α)) : (vals ps).length = ps.length := List.length_map _
inductive SpBeyond (K : PySem.W.Frag) : Sp where
  | mk {o : Addr} {b : Brick} {L W f s : Int} {H : Hp} {Q : VK} {E : XK} (ho : SqT K H o b.vs) (q : ∀ H', Same H H' → Q (.bl (beyB L W f s b)) H') : SpBeyond K [.int L, .int W, .int f, .int s, .ref o] H Q E
inductive SpCovers (K : PySem.W.Frag) : Sp where
  | mk {o t : Addr} {b : Brick} {c : Int × Int} {f s : Int} {H : Hp} {Q : VK} {E : XK} (ho : SqT K H o b.vs) (ht : SqT K H t (cellV c)) (q : ∀ H', Same H H' → Q (.bl (covB f s c b)) H') : SpCovers K [.int f, .int s, .ref o, .ref t] H Q E
inductive SpOften (K : PySem.W.Frag) : Sp where
  | mk {l t : Addr} {ps : List (Addr × Brick)} {c : Int × Int} {f s : Int} {H : Hp} {Q : VK} {E : XK} (hl : SqL K H l (refs ps)) (hb : BrAll K H ps) (hn : ps.length ≤ 10000) (ht : SqT K H t (cellV c)) (q : ∀ H', Same H H' → Q (.int (oftN f s (vals ps) c : Nat)) H') :
    SpOften K [.int f, .int s, .ref l, .ref t] H Q E
section
variable {P : Program} {w : World} {K : PySem.W.Frag} {mg : Str → Option Value} {base : Heap}
theorem H_is_beyond (p : Pl K mg "is_beyond" s_is_beyond) : Has P w K mg base CX0 1 "is_beyond" ["length", "width", "first", "second", "brick"] (SpBeyond K) := by
  refine p.mk0 sc_is_beyond (fun _ _ _ _ _ _ us hl => match us, hl with | [_, _, _, _, _], _ => rfl) (fun vs H Q E h => ?_) (fun f cdv A outer s H vs Q E hr h => ?_)
  · cases h; rfl
  · obtain @⟨o, ⟨x, y, l⟩, L, W, fi, se, _, _, _, ho, q⟩ := h
    refine ⟨_, (pss_cons (ps_asg (pe_ifExp (pt_val (pe_ix (r := rIxT K) ix_tup (pv 4) pe_int (fun _ _ => rfl))) (pe_tup (pa_cons (pv 2) (pa_cons (pv 3) pa_nil))) (pe_tup (pa_cons (pv 3) (pa_cons (pv 2) pa_nil)))) (pg_tup (by rfl) (pgs_cons (pg_name (i := 5) sc_is_beyond.nd rfl (Or.inl rfl)) (pgs_cons (pg_name (i := 6) sc_is_beyond.nd rfl (Or.inl rfl)) pgs_nil))))
      (pss_one (ps_ret (pe_or (pe_cmpR op_lt (pe_ix (r := rIxT K) ix_tup (pv 4) pe_int (fun _ _ => rfl)) pe_int (nomark _)) (pe_or (pe_cmpR op_lt (pe_ix (r := rIxT K) ix_tup (pv 4) pe_int (fun _ _ => rfl)) pe_int (nomark _)) (pe_or (pe_cmpR op_gt (pe_op op_add (pe_ix (r := rIxT K) ix_tup (pv 4) pe_int (fun _ _ => rfl)) (pv 5)) (pv 0) (nomark _)) (pe_one (pe_cmpR op_gt (pe_op op_add (pe_ix (r := rIxT K) ix_tup (pv 4) pe_int (fun _ _ => rfl)) (pv 6)) (pv 1) (nomark _))))))))), ?_⟩
    unfold beyB Brick.lo Brick.hi at q
    cases l
    all_goals
      simp only [Bool.false_eq_true, if_false, if_true] at q
      refine ⟨_, rfl, o, _, 2, _, rfl, rfl, ho, rfl, _, rfl, ?_⟩
      first | refine iteF ?_ | refine iteT ?_
      walk_at "rd"
      intro t ht
      generalize hH1 : upd H t _ = H1
      obtain ⟨sm1, up1⟩ := newH hH1 ht
      clear hH1
      have ho1 := Same.tup sm1 ho
      refine ⟨t, _, rfl, sqT up1, rfl, ?_⟩
      walk_at "rd"
      refine ⟨o, _, 0, _, rfl, rfl, ho1, rfl, _, _, rfl, rfl, _, rfl, iteD (fun c => ?_) (fun c => ?_)⟩
      · have c : x < 0 := c
        simp only [decide_eq_true c, Bool.true_or] at q
        exact q _ sm1
      have c : ¬ x < 0 := c
      simp only [decide_eq_false c, Bool.false_or] at q
      refine ⟨_, rfl, o, _, 1, _, rfl, rfl, ho1, rfl, _, _, rfl, rfl, _, rfl, iteD (fun c => ?_) (fun c => ?_)⟩
      · have c : y < 0 := c
        simp only [decide_eq_true c, Bool.true_or] at q
        exact q _ sm1
      have c : ¬ y < 0 := c
      simp only [decide_eq_false c, Bool.false_or] at q
      refine ⟨_, rfl, o, _, 0, _, rfl, rfl, ho1, rfl, ?_⟩
      walk_at "rd"
      refine iteD (fun c => ?_) (fun c => ?_)
      · simp only [decide_eq_true c, Bool.true_or] at q
        exact q _ sm1
      simp only [decide_eq_false c, Bool.false_or] at q
      refine ⟨_, rfl, o, _, 1, _, rfl, rfl, ho1, rfl, ?_⟩
      walk_at "rd"
      exact q _ sm1
theorem H_covers (p : Pl K mg "covers" s_covers) : Has P w K mg base CX0 1 "covers" ["first", "second", "brick", "cell"] (SpCovers K) := by
  refine p.mk0 sc_covers (fun _ _ _ _ _ _ us hl => match us, hl with | [_, _, _, _], _ => rfl) (fun vs H Q E h => ?_) (fun f cdv A outer s H vs Q E hr h => ?_)
  · cases h; rfl
  · obtain @⟨o, t, ⟨x, y, l⟩, ⟨c1, c2⟩, fi, se, _, _, _, ho, ht, q⟩ := h
    refine ⟨_, (pss_cons (ps_asg (pe_ifExp (pt_val (pe_ix (r := rIxT K) ix_tup (pv 2) pe_int (fun _ _ => rfl))) (pe_tup (pa_cons (pv 0) (pa_cons (pv 1) pa_nil))) (pe_tup (pa_cons (pv 1) (pa_cons (pv 0) pa_nil)))) (pg_tup (by rfl) (pgs_cons (pg_name (i := 4) sc_covers.nd rfl (Or.inl rfl)) (pgs_cons (pg_name (i := 5) sc_covers.nd rfl (Or.inl rfl)) pgs_nil))))
      (pss_one (ps_ret (pe_and (pe_chain op_le op_lt (pe_ix (r := rIxT K) ix_tup (pv 2) pe_int (fun _ _ => rfl)) (pe_ix (r := rIxT K) ix_tup (pv 3) pe_int (fun _ _ => rfl)) (pe_op op_add (pe_ix (r := rIxT K) ix_tup (pv 2) pe_int (fun _ _ => rfl)) (pv 4))) (pe_one (pe_chain op_le op_lt (pe_ix (r := rIxT K) ix_tup (pv 2) pe_int (fun _ _ => rfl)) (pe_ix (r := rIxT K) ix_tup (pv 3) pe_int (fun _ _ => rfl)) (pe_op op_add (pe_ix (r := rIxT K) ix_tup (pv 2) pe_int (fun _ _ => rfl)) (pv 5)))))))), ?_⟩
    unfold covB Brick.lo Brick.hi at q
    cases l
    all_goals
      simp only [Bool.false_eq_true, if_false, if_true] at q
      refine ⟨_, rfl, o, _, 2, _, rfl, rfl, ho, rfl, _, rfl, ?_⟩
      first | refine iteF ?_ | refine iteT ?_
      walk_at "rd"
      intro p1 hp1
      generalize hH1 : upd H p1 _ = H1
      obtain ⟨sm1, up1⟩ := newH hH1 hp1
      clear hH1
      have ho1 := Same.tup sm1 ho
      have ht1 := Same.tup sm1 ht
      refine ⟨p1, _, rfl, sqT up1, rfl, ?_⟩
      walk_at "rd"
      refine ⟨o, _, 0, _, rfl, rfl, ho1, rfl, _, rfl, t, _, 0, _, rfl, rfl, ht1, rfl, ?_⟩
      walk_at "rd"
      refine iteD (fun c => ?_) (fun c => ?_)
      · simp only [decide_eq_true c, Bool.true_and] at q
        refine ⟨_, rfl, o, _, 0, _, rfl, rfl, ho1, rfl, ?_⟩
        walk_at "rd"
        refine iteD (fun c => ?_) (fun c => ?_)
        · simp only [decide_eq_true c, Bool.true_and] at q
          refine ⟨_, rfl, o, _, 1, _, rfl, rfl, ho1, rfl, _, rfl, t, _, 1, _, rfl, rfl, ht1, rfl, ?_⟩
          walk_at "rd"
          refine iteD (fun c => ?_) (fun c => ?_)
          · simp only [decide_eq_true c, Bool.true_and] at q
            refine ⟨_, rfl, o, _, 1, _, rfl, rfl, ho1, rfl, ?_⟩
            walk_at "rd"
            exact q _ sm1
          · simp only [decide_eq_false c, Bool.false_and] at q
            exact q _ sm1
        · simp only [decide_eq_false c, Bool.false_and] at q
          exact q _ sm1
      · simp only [decide_eq_false c, Bool.false_and] at q
        exact ⟨_, rfl, iteF (q _ sm1)⟩
theorem H_often (p : Pl K mg "often" s_often) (B : Bi mg) (h_covers : Has P w K mg base CX0 1 "covers" ["first", "second", "brick", "cell"] (SpCovers K)) : Has P w K mg base CX0 2 "often" ["first", "second", "bricks", "cell"] (SpOften K) := by
  refine p.mk0 sc_often (fun _ _ _ _ _ _ us hl => match us, hl with | [_, _, _, _], _ => rfl) (fun vs H Q E h => ?_) (fun f cdv A outer s H vs Q E hr h => ?_)
  · cases h; rfl
  · obtain @⟨l, t, ps, c, fi, se, _, _, _, hl, hb, hn, ht, q⟩ := h
    refine ⟨_, (pss_one (ps_ret (pe_callB (r := rLen2 K) call_len_seq (by rfl) B.len PySem.boot_len (pa_cons (pe_lc (own := [("brick", 4)]) (by rfl) sc_often.nd (pi_list (pv 2)) (blkOk_by (own := [("brick", 4)]) (N := ["first", "second", "bricks", "cell", "brick"]) (sc := defScope s_often) (by decide +kernel)) (fun _ _ _ _ _ => (pg_name (i := 4) sc_often.nd rfl (Or.inl rfl))) (fun _ _ _ _ _ => pts_one (pt_val (pe_fn h_covers (hr.mono (by decide)) pass0 (pa_cons (pv 0) (pa_cons (pv 1) (pa_cons (pv 4) (pa_cons (pv 3) pa_nil))))))) (fun _ _ _ _ _ => (pv 4))) pa_nil)))), ?_⟩
    refine ⟨_, rfl, l, rfl, ⟨_, hl⟩, fun D hD => ?_⟩
    refine lc_list (K := K) (a := l) (xs := refs ps) (fun i H' => Same H H' ∧ ∃ vs, H' D = some (.lst vs) ∧ vs.length = oftN fi se ((vals ps).take i) c) ⟨same_upd hD, [], upd_same, rfl⟩ (fun i H' _ ⟨sm, _⟩ => sm.seq hl) ?_ ?_
    · rintro i v H' hi ⟨sm, vs, eD, ev⟩
      obtain ⟨pb, hpb, rfl, hm⟩ := refs_at hi
      have hlt : i < ps.length := (List.getElem?_eq_some_iff.mp hpb).1
      have et : (vals ps).take (i + 1) = (vals ps).take i ++ [pb.2] := by
        unfold vals
        rw [List.take_add_one, List.getElem?_map, hpb]
        rfl
      have eo : oftN fi se ((vals ps).take (i + 1)) c = oftN fi se ((vals ps).take i) c + if covB fi se c pb.2 then 1 else 0 := by
        rw [et]
        unfold oftN
        rw [List.filter_append, List.length_append, List.filter_cons]
        split <;> rfl
      have hle : oftN fi se ((vals ps).take i) c ≤ ps.length := by
        unfold oftN
        refine Nat.le_trans (List.length_filter_le _ _) ?_
        rw [List.length_take, vals_len]
        exact Nat.min_le_right _ _
      refine ⟨rfl, ?_⟩
      walk_at "rd"
      refine .mk (Same.tup sm (hb pb hm)) (Same.tup sm ht) fun H2 sm2 => ⟨_, rfl, iteB (fun c => ?_) (fun c => ?_)⟩
      · rw [c, if_pos rfl] at eo
        refine ⟨_, rfl, vs, sm2 _ _ eD, ?_, ?_, vs ++ [.ref pb.1], upd_same, ?_⟩
        · rw [ev]
          exact Nat.lt_of_le_of_lt hle (Nat.lt_of_le_of_lt hn (by decide))
        · exact fun b1 o e => by rw [upd_ne (ne_of_none e hD)]; exact sm2 _ _ (sm b1 o e)
        · rw [List.length_append, ev, eo]
          rfl
      · rw [c] at eo
        exact ⟨sm.trans sm2, vs, sm2 _ _ eD, by rw [ev, eo]; rfl⟩
    · rintro H' ⟨sm, vs, eD, ev⟩
      rw [refs_len, ← vals_len ps, List.take_length] at ev
      refine ⟨D, vs, rfl, .inl (sqL eD), ?_⟩
      rw [ev]
      exact q _ sm
end
end BF

/-! ### answers.py: the cells of a brick; what are cells -/
namespace BF
open PySem PySem.Spec PyProof.Rows L2
def CeAll (H : Hp) (cs : List (Addr × (Int × Int))) : Prop := ∀ q ∈ cs, H q.1 = some (.tup (cellV q.2))
theorem CeAll.mono {H H' : Hp} {cs : List (Addr × (Int × Int))} (h : CeAll H cs) (sm : Same H H') : CeAll H' cs := fun q hq => sm _ _ (h q hq)
inductive SpCells (K : PySem.W.Frag) : Sp where
  | mk {o : Addr} {b : Brick} {f s : Int} {H : Hp} {Q : VK} {E : XK} (ho : SqT K H o b.vs) (h1 : 0 ≤ b.lo f s ∧ b.lo f s ≤ 1000) (h2 : 0 ≤ b.hi f s ∧ b.hi f s ≤ 1000)
      (q : ∀ p H' cs, Same H H' → H' p = some (.lst (refs cs)) → CeAll H' cs → vals cs = cellsL f s b → Q (.ref p) H') : SpCells K [.int f, .int s, .ref o] H Q E
inductive SpIsCell : Sp where
  | mk {t : Addr} {c : Int × Int} {L W : Int} {H : Hp} {Q : VK} {E : XK} (ht : H t = some (.tup (cellV c))) (q : Q (.bl (cellB L W c)) H) : SpIsCell [.int L, .int W, .ref t] H Q E
inductive CellsI (fi se : Int) (o F : Addr) (lo hi x y : Int) (H : Hp) (i : Nat) : L2.St → Hp → Prop where
  | mk {H' : Hp} {z u : Option V} {cs : List (Addr × (Int × Int))} (sm : Same H H') (hF : H' F = some (.lst (refs cs))) (hc : CeAll H' cs) (hv : vals cs = colsL x y i hi.toNat) : CellsI fi se o F lo hi x y H i [some (.int fi), some (.int se), some (.ref o), some (.int lo), some (.int hi), some (.ref F), z, u] H'
theorem ce_add {H : Hp} {cs : List (Addr × (Int × Int))} {p : Addr} {c : Int × Int} (h : CeAll H cs) (hp : H p = some (.tup (cellV c))) : CeAll H (cs ++ [(p, c)]) := fun q hq => by
  rcases List.mem_append.mp hq with a | a
  · exact h q a
  · obtain rfl := List.mem_singleton.mp a
    exact hp
theorem mul_add_le {i n : Nat} (h1 : i < 1000) (h2 : n ≤ 1000) : i * n + n ≤ 1000000 := by
  have := Nat.mul_le_mul (show i + 1 ≤ 1000 by omega) h2
  rw [Nat.succ_mul] at this
  exact this
theorem refs_app {α : Type} (a b : List (Addr × α)) : refs (a ++ b) = refs a ++ refs b := List.map_append
theorem vals_app {α : Type} (a b : List (Addr × α)) : vals (a ++ b) = vals a ++ vals b := List.map_append
section
variable {P : Program} {w : World} {K : PySem.W.Frag} {mg : Str → Option Value} {base : Heap}
theorem H_is_cell (p : Pl K mg "is_cell" s_is_cell) (B : Bi mg) (h_is_number : Has P w K mg base CX0 1 "is_number" ["thing"] (SpIsNumber K)) : Has P w K mg base CX0 2 "is_cell" ["length", "width", "thing"] SpIsCell := by
  refine p.mk0 sc_is_cell (fun _ _ _ _ _ _ us hl => match us, hl with | [_, _, _], _ => rfl) (fun vs H Q E h => ?_) (fun f cdv A outer s H vs Q E hr h => ?_)
  · cases h; rfl
  · obtain @⟨t, ⟨c1, c2⟩, L, W, _, _, _, ht, q⟩ := h
    refine ⟨_, (pss_cons (ps_if (PW.pt (pw_or (pt_not (pt_val (pe_callB (r := rIsi K) call_isi (by rfl) B.isinstance (by decide +kernel) (pa_cons (pv 2) (pa_cons (pe_bltn (v := .ty "tuple") (by rfl) B.tuple (by decide +kernel) rfl) pa_nil))))) (pw_or (pt_cmpR op_ne (pe_callB (r := rLen2 K) call_len_seq (by rfl) B.len PySem.boot_len (pa_cons (pv 2) pa_nil)) pe_int (nomark _)) (pw_or (pt_not (pt_val (pe_fn h_is_number (hr.mono (by decide)) pass0 (pa_cons (pe_ix (r := rIxT K) ix_tup (pv 2) pe_int (fun _ _ => rfl)) pa_nil)))) (pw_or1 (pt_not (pt_val (pe_fn h_is_number (hr.mono (by decide)) pass0 (pa_cons (pe_ix (r := rIxT K) ix_tup (pv 2) pe_int (fun _ _ => rfl)) pa_nil))))))))) (pss_one (ps_ret pe_bl)) pss_nil)
      (pss_one (ps_ret (pe_and (pe_chain op_le op_lt pe_int (pe_ix (r := rIxT K) ix_tup (pv 2) pe_int (fun _ _ => rfl)) (pv 0)) (pe_one (pe_chain op_le op_lt pe_int (pe_ix (r := rIxT K) ix_tup (pv 2) pe_int (fun _ _ => rfl)) (pv 1))))))), ?_⟩
    unfold cellB at q
    refine ⟨_, rfl, _, _, _, _, true, rfl, .ty "tuple", .base (.tup ht), kit_ty (by decide +kernel), true, rfl, iteF ?_⟩
    refine ⟨_, rfl, t, _, rfl, .inr (sqT ht), rfl, _, rfl, iteNe (fun z => absurd rfl z) (fun _ => ?_)⟩
    refine ⟨_, rfl, t, _, 0, _, rfl, rfl, sqT ht, rfl, num_int ⟨true, rfl, iteF ?_⟩⟩
    refine ⟨_, rfl, t, _, 1, _, rfl, rfl, sqT ht, rfl, num_int ⟨true, rfl, iteF ?_⟩⟩
    refine ⟨_, rfl, t, _, 0, _, rfl, rfl, sqT ht, rfl, ?_⟩
    walk_at "rd"
    refine iteD (fun c => ?_) (fun c => ?_)
    · simp only [decide_eq_true c, Bool.true_and] at q
      walk_at "rd"
      refine iteD (fun c => ?_) (fun c => ?_)
      · simp only [decide_eq_true c, Bool.true_and] at q
        refine ⟨_, rfl, t, _, 1, _, rfl, rfl, sqT ht, rfl, ?_⟩
        walk_at "rd"
        refine iteD (fun c => ?_) (fun c => ?_)
        · simp only [decide_eq_true c, Bool.true_and] at q
          walk_at "rd"
          exact q
        · simp only [decide_eq_false c, Bool.false_and] at q
          exact q
      · simp only [decide_eq_false c, Bool.false_and] at q
        exact q
    · simp only [decide_eq_false c, Bool.false_and] at q
      exact ⟨_, rfl, iteF q⟩
theorem H_cells_of (p : Pl K mg "cells_of" s_cells_of) (B : Bi mg) : Has P w K mg base CX0 1 "cells_of" ["first", "second", "brick"] (SpCells K) := by
  refine p.mk0 sc_cells_of (fun _ _ _ _ _ _ us hl => match us, hl with | [_, _, _], _ => rfl) (fun vs H Q E h => ?_) (fun f cdv A outer s H vs Q E hr h => ?_)
  · cases h; rfl
  · obtain @⟨o, b, fi, se, _, _, _, ho, h1, h2, q⟩ := h
    refine ⟨_, (pss_cons (ps_asg (pe_ifExp (pt_val (pe_ix (r := rIxT K) ix_tup (pv 2) pe_int (fun _ _ => rfl))) (pe_tup (pa_cons (pv 0) (pa_cons (pv 1) pa_nil))) (pe_tup (pa_cons (pv 1) (pa_cons (pv 0) pa_nil)))) (pg_tup (by rfl) (pgs_cons (pg_name (i := 3) sc_cells_of.nd rfl (Or.inl rfl)) (pgs_cons (pg_name (i := 4) sc_cells_of.nd rfl (Or.inl rfl)) pgs_nil))))
      (pss_cons (ps_set (i := 5) sc_cells_of.nd rfl (Or.inl rfl) (pe_lst pa_nil))
      (pss_cons (ps_for PassesOwn.never (by rfl) (pi_range1 (by rfl) B.range (pa_cons (pv 3) pa_nil)) (pg_name (i := 6) sc_cells_of.nd rfl (Or.inr rfl)) (pss_one (ps_expr (pe_bm PySem.F.plainAttrs_list PySem.F.slot_list_extend PySem.F.type_list_extend mt_extend (pv 5) (pa_cons (pe_lc (own := [("up", 7)]) (by rfl) sc_cells_of.nd (pi_range1 (by rfl) B.range (pa_cons (pv 4) pa_nil)) (blkOk_by (own := [("up", 7)]) (N := ["first", "second", "brick", "long", "high", "found", "along", "up"]) (sc := defScope s_cells_of) (by decide +kernel)) (fun _ _ _ _ _ => (pg_name (i := 7) sc_cells_of.nd rfl (Or.inl rfl))) (fun _ _ _ _ _ => pts_nil) (fun _ _ _ _ _ => (pe_tup (pa_cons (pe_op op_add (pe_ix (r := rIxT K) ix_tup (pv 2) pe_int (fun _ _ => rfl)) (pv 6)) (pa_cons (pe_op op_add (pe_ix (r := rIxT K) ix_tup (pv 2) pe_int (fun _ _ => rfl)) (pv 7)) pa_nil))))) pa_nil)))))
      (pss_one (ps_ret (pv 5)))))), ?_⟩
    unfold cellsL at q
    obtain ⟨x, y, l⟩ := b
    generalize hlo : Brick.lo fi se ⟨x, y, l⟩ = lo at h1 q
    generalize hhi : Brick.hi fi se ⟨x, y, l⟩ = hi at h2 q
    cases l
    all_goals
      unfold Brick.lo at hlo
      unfold Brick.hi at hhi
      simp only [Bool.false_eq_true, if_false, if_true] at hlo hhi
      subst hlo hhi
      refine ⟨_, rfl, o, _, 2, _, rfl, rfl, ho, rfl, _, rfl, ?_⟩
      first | refine iteF ?_ | refine iteT ?_
      walk_at "rd"
      intro p1 hp1
      generalize hH1 : upd H p1 _ = H1
      obtain ⟨sm1, up1⟩ := newH hH1 hp1
      clear hH1
      refine ⟨p1, _, rfl, sqT up1, rfl, ?_⟩
      walk_at "rd"
      intro F hF
      have ho1 := Same.tup sm1 ho
      refine ⟨_, rfl, _, rfl, by omega, by omega, for_range (lo := 0) (n := _) (fun i σ H' => CellsI fi se o F _ _ x y H1 i σ H') (.mk (cs := []) (same_upd hF) upd_same (fun q hq => nomatch hq) rfl) ?_ ?_⟩
      · rintro i _ H2 hi @⟨_, _, _, cs, sm2, eF, hc, hv⟩
        have e0 : (0 : Int) + (i : Int) = i := by omega
        refine ⟨_, rfl, .inl ⟨rfl, _, sqL eF⟩, _, rfl, _, rfl, by omega, by omega, fun D hD => ?_⟩
        have nFD : F ≠ D := ne_of_none eF hD
        refine lc_range (lo := 0) (n := _) (fun j H' => Same H2 H' ∧ ∃ ds, H' D = some (.lst (refs ds)) ∧ CeAll H' ds ∧ vals ds = colL (x + (i : Int)) y j) ⟨same_upd hD, [], upd_same, (fun q hq => nomatch hq), rfl⟩ ?_ ?_
        · rintro j H3 hj ⟨sm3, ds, eD, hds, vds⟩
          have e1 : (0 : Int) + (j : Int) = j := by omega
          have ho3 := Same.tup (sm2.trans sm3) ho1
          refine ⟨rfl, lc_yes ?_⟩
          refine ⟨_, rfl, o, _, 0, _, rfl, rfl, ho3, rfl, _, rfl, _, _, rfl, rfl, _, rfl, o, _, 1, _, rfl, rfl, ho3, rfl, _, rfl, _, _, rfl, rfl, ?_⟩
          refine ⟨size4 (by simp), fun p4 hp4 => ?_⟩
          have nDp : D ≠ p4 := ne_of_none eD hp4
          refine ⟨_, by rw [upd_ne nDp]; exact eD, ?_, ?_, ds ++ [(p4, (x + (i : Int), y + (j : Int)))], ?_, ?_, ?_⟩
          · rw [refs_len, ← vals_len, vds, col_len]
            exact Nat.lt_of_lt_of_le hj (size4 (by omega))
          · exact fun b1 o1 e => by rw [upd_ne (ne_of_none e hD)]; exact same_upd hp4 _ _ (sm3 b1 o1 e)
          · rw [upd_same, refs_app]
            rfl
          · refine fun q hq => ?_
            have z := ce_add (H := upd H3 p4 (.tup (cellV (x + (i : Int), y + (j : Int))))) (c := (x + (i : Int), y + (j : Int))) (hds.mono (same_upd hp4)) upd_same q hq
            have nq : q.1 ≠ D := fun z2 => by
              rw [z2, upd_ne nDp, eD] at z
              cases z
            rw [upd_ne nq, e0, e1]
            exact z
          · rw [vals_app, vds, col_succ]
            rfl
        · rintro H3 ⟨sm3, ds, eD, hds, vds⟩
          have eF3 := sm3 _ _ eF
          refine ⟨F, D, _, _, rfl, rfl, eF3, eD, ?_, ?_⟩
          · rw [refs_len, refs_len, ← vals_len cs, ← vals_len ds, hv, vds, cols_len, col_len]
            exact size4 (mul_add_le (by omega) (by omega))
          · refine .mk (cs := cs ++ ds) ?_ ?_ ?_ ?_
            · exact fun b1 o1 e => by rw [upd_ne (ne_of_none e hF)]; exact sm3 _ _ (sm2 b1 o1 e)
            · rw [upd_same, refs_app]
            · refine fun q hq => ?_
              have z : H3 q.1 = some (.tup (cellV q.2)) := by
                rcases List.mem_append.mp hq with a | a
                · exact hc.mono sm3 q a
                · exact hds q a
              have nq : q.1 ≠ F := fun z2 => by
                rw [z2, eF3] at z
                cases z
              rw [upd_ne nq]
              exact z
            · rw [vals_app, hv, vds, cols_succ]
      · rintro _ H2 @⟨_, _, _, cs, sm2, eF, hc, hv⟩
        exact ⟨_, rfl, q F H2 cs (sm1.trans sm2) eF hc hv⟩
end
end BF

/-! ### Full, Beyond, Twice, Bare: what they show -/
namespace BF
open PySem PySem.Spec PyProof.Rows L2
/-- an answer of a judged list -/
inductive D5 where
  | full
  | beyond (i : Int)
  | twice (c : Int × Int)
  | bare (c : Int × Int)
def D5.cl : D5 → Cl
  | .full => .full
  | .beyond _ => .beyond
  | .twice _ => .twice
  | .bare _ => .bare
theorem D5.ok (d : D5) : Ok5 d.cl := by
  unfold Ok5
  cases d <;> simp [D5.cl]
/-- such an answer at an address -/
inductive At5 (K : PySem.W.Frag) (H : Hp) (p : Addr) : D5 → Prop where
  | full (h : AnsAt K H p .full) : At5 K H p .full
  | beyond {i : Int} (h : AnsAt K H p (.beyond (.int i))) : At5 K H p (.beyond i)
  | twice {t : Addr} {c : Int × Int} (h : AnsAt K H p (.twice (.ref t))) (ht : H t = some (.tup (cellV c))) : At5 K H p (.twice c)
  | bare {t : Addr} {c : Int × Int} (h : AnsAt K H p (.bare (.ref t))) (ht : H t = some (.tup (cellV c))) : At5 K H p (.bare c)
theorem At5.mono {K : PySem.W.Frag} {H H' : Hp} {p : Addr} {d : D5} (h : At5 K H p d) (sm : Same H H') : At5 K H' p d := by
  cases h with
  | full h => exact .full (h.mono sm)
  | beyond h => exact .beyond (h.mono sm)
  | twice h ht => exact .twice (h.mono sm) (sm _ _ ht)
  | bare h ht => exact .bare (h.mono sm) (sm _ _ ht)
def fullB (L W f s : Int) (bs : List Brick) : Bool := !(bs.any (beyB L W f s)) && (gridL L W).all fun c => decide (oftN f s bs c = 1)
def beyAt (L W f s : Int) (bs : List Brick) (i : Int) : Bool := (decide (0 ≤ i) && decide (i < bs.length)) && (match bs[i.toNat]? with
  | some b => beyB L W f s b
  | none => false)
def due5 (L W f s : Int) (bs : List Brick) : D5 → Bool
  | .full => fullB L W f s bs
  | .beyond i => beyAt L W f s bs i
  | .twice c => cellB L W c && decide (1 < oftN f s bs c)
  | .bare c => cellB L W c && decide (oftN f s bs c = 0)
inductive SpShows5 (K : PySem.W.Frag) (x : Cl) : Sp where
  | mk {p l : Addr} {d : D5} {ps : List (Addr × Brick)} {L W f s : Int} {H : Hp} {Q : VK} {E : XK} (ha : At5 K H p d) (hx : d.cl = x) (hL : 0 < L ∧ L ≤ 1000) (hW : 0 < W ∧ W ≤ 1000) (hf : 0 < f) (hs : 0 < s) (hl : SqL K H l (refs ps)) (hb : BrAll K H ps) (hn : ps.length ≤ 10000)
      (q : ∀ H', Same H H' → Q (.bl (due5 L W f s (vals ps) d)) H') : SpShows5 K x [.ref p, .int L, .int W, .int f, .int s, .ref l] H Q E
section
variable {P : Program} {w : World} {K : PySem.W.Frag} {mg : Str → Option Value} {base : Heap}
theorem H_Beyond_shows (p : PlM K .beyond "shows" "Beyond.shows" s_Beyond_shows) (B : Bi mg) (G : ClG K mg) (h_is_beyond : Has P w K mg base CX0 1 "is_beyond" ["length", "width", "first", "second", "brick"] (SpBeyond K)) :
    HasM P w K mg base CX0 2 .beyond "shows" ["self", "length", "width", "first", "second", "bricks"] (SpShows5 K .beyond) := by
  refine p.mk0 sc_Beyond_shows (fun _ _ _ _ _ _ us hl => match us, hl with | [_, _, _, _, _, _], _ => rfl) (fun vs H Q E h => ?_) (fun f cdv A outer s H vs Q E hr h => ?_)
  · cases h; rfl
  · obtain @⟨p, l, d, ps, L, W, fi, se, _, _, _, ha, hx, hL, hW, hf, hs, hl, hb, hn, q⟩ := h
    refine ⟨_, (pss_one (ps_ret (pe_and (pe_chain op_le op_lt pe_int (pe_fld (pv 0) rfl) (pe_callB (r := rLen2 K) call_len_seq (by rfl) B.len PySem.boot_len (pa_cons (pv 5) pa_nil))) (pe_one (pe_fn h_is_beyond (hr.mono (by decide)) pass0 (pa_cons (pv 1) (pa_cons (pv 2) (pa_cons (pv 3) (pa_cons (pv 4) (pa_cons (pe_ix (r := rIxL K) ix_list (pv 5) (pe_fld (pv 0) rfl) (fun _ _ => rfl)) pa_nil)))))))))), ?_⟩
    cases ha with
    | full h => cases hx
    | twice h ht => cases hx
    | bare h ht => cases hx
    | @beyond i h =>
      obtain ⟨dx, hp⟩ := h
      have F := G.f .beyond (by decide)
      have q : ∀ H', Same H H' → Q (.bl (beyAt L W fi se (vals ps) i)) H' := q
      unfold beyAt at q
      rw [vals_len] at q
      refine ⟨_, rfl, p, _, dx, _, _, rfl, hp, F.c, F.no, rfl, ?_⟩
      walk_at "rd"
      refine iteD (fun c => ?_) (fun c => ?_)
      · have c : 0 ≤ i := c
        simp only [decide_eq_true c, Bool.true_and] at q
        refine ⟨_, rfl, l, _, rfl, .inl hl, ?_⟩
        walk_at "rd"
        rw [refs_len]
        refine iteD (fun c2 => ?_) (fun c2 => ?_)
        · have c2 : i < (ps.length : Int) := c2
          simp only [decide_eq_true c2, Bool.true_and] at q
          walk_at "rd"
          obtain ⟨n, rfl⟩ := Int.eq_ofNat_of_zero_le c
          have hlt : n < ps.length := by omega
          have hpn : ps[n]? = some ps[n] := List.getElem?_eq_getElem hlt
          have hv : (vals ps)[(n : Int).toNat]? = some ps[n].2 := by
            unfold vals
            rw [Int.toNat_natCast, List.getElem?_map, hpn]
            rfl
          rw [hv] at q
          have hrv : (refs ps)[n]? = some (.ref ps[n].1) := by
            unfold refs
            rw [List.getElem?_map, hpn]
            rfl
          refine ⟨p, _, dx, _, _, rfl, hp, F.c, F.no, rfl, l, _, _, _, rfl, rfl, hl, atI_nat hrv, ?_⟩
          exact .mk (hb _ (List.getElem_mem hlt)) q
        · have c2 : ¬ i < (ps.length : Int) := c2
          simp only [decide_eq_false c2, Bool.false_and] at q
          exact q _ (Same.refl _)
      · have c : ¬ 0 ≤ i := c
        simp only [decide_eq_false c, Bool.false_and] at q
        exact ⟨_, rfl, iteF (q _ (Same.refl _))⟩
theorem H_Twice_shows (p : PlM K .twice "shows" "Twice.shows" s_Twice_shows) (G : ClG K mg) (h_is_cell : Has P w K mg base CX0 2 "is_cell" ["length", "width", "thing"] SpIsCell) (h_often : Has P w K mg base CX0 2 "often" ["first", "second", "bricks", "cell"] (SpOften K)) :
    HasM P w K mg base CX0 3 .twice "shows" ["self", "length", "width", "first", "second", "bricks"] (SpShows5 K .twice) := by
  refine p.mk0 sc_Twice_shows (fun _ _ _ _ _ _ us hl => match us, hl with | [_, _, _, _, _, _], _ => rfl) (fun vs H Q E h => ?_) (fun f cdv A outer s H vs Q E hr h => ?_)
  · cases h; rfl
  · obtain @⟨p, l, d, ps, L, W, fi, se, _, _, _, ha, hx, hL, hW, hf, hs, hl, hb, hn, q⟩ := h
    refine ⟨_, (pss_one (ps_ret (pe_and (pe_fn h_is_cell (hr.mono (by decide)) pass0 (pa_cons (pv 1) (pa_cons (pv 2) (pa_cons (pe_fld (pv 0) rfl) pa_nil)))) (pe_one (pe_cmpR op_gt (pe_fn h_often (hr.mono (by decide)) pass0 (pa_cons (pv 3) (pa_cons (pv 4) (pa_cons (pv 5) (pa_cons (pe_fld (pv 0) rfl) pa_nil))))) pe_int (nomark _)))))), ?_⟩
    cases ha with
    | full h => cases hx
    | beyond h => cases hx
    | bare h ht => cases hx
    | @twice t c h ht =>
      obtain ⟨dx, hp⟩ := h
      have F := G.f .twice (by decide)
      have q : ∀ H', Same H H' → Q (.bl (cellB L W c && decide (1 < oftN fi se (vals ps) c))) H' := q
      refine ⟨_, rfl, _, rfl, _, rfl, p, _, dx, _, _, rfl, hp, F.c, F.no, rfl, .mk ht ⟨_, rfl, iteB (fun c1 => ?_) (fun c1 => ?_)⟩⟩
      · rw [c1] at q
        refine ⟨_, rfl, _, rfl, _, rfl, _, rfl, p, _, dx, _, _, rfl, hp, F.c, F.no, rfl, .mk hl hb hn (sqT ht) fun H1 sm1 => ?_⟩
        walk_at "rd"
        have e : decide ((1 : Int) < (oftN fi se (vals ps) c : Nat)) = decide (1 < oftN fi se (vals ps) c) := decide_eq_decide.mpr (by omega)
        show Q (.bl (decide ((1 : Int) < (oftN fi se (vals ps) c : Nat)))) H1
        rw [e]
        exact q _ sm1
      · rw [c1] at q
        exact q _ (Same.refl _)
theorem H_Bare_shows (p : PlM K .bare "shows" "Bare.shows" s_Bare_shows) (G : ClG K mg) (h_is_cell : Has P w K mg base CX0 2 "is_cell" ["length", "width", "thing"] SpIsCell) (h_often : Has P w K mg base CX0 2 "often" ["first", "second", "bricks", "cell"] (SpOften K)) :
    HasM P w K mg base CX0 3 .bare "shows" ["self", "length", "width", "first", "second", "bricks"] (SpShows5 K .bare) := by
  refine p.mk0 sc_Bare_shows (fun _ _ _ _ _ _ us hl => match us, hl with | [_, _, _, _, _, _], _ => rfl) (fun vs H Q E h => ?_) (fun f cdv A outer s H vs Q E hr h => ?_)
  · cases h; rfl
  · obtain @⟨p, l, d, ps, L, W, fi, se, _, _, _, ha, hx, hL, hW, hf, hs, hl, hb, hn, q⟩ := h
    refine ⟨_, (pss_one (ps_ret (pe_and (pe_fn h_is_cell (hr.mono (by decide)) pass0 (pa_cons (pv 1) (pa_cons (pv 2) (pa_cons (pe_fld (pv 0) rfl) pa_nil)))) (pe_one (pe_cmpR op_eq (pe_fn h_often (hr.mono (by decide)) pass0 (pa_cons (pv 3) (pa_cons (pv 4) (pa_cons (pv 5) (pa_cons (pe_fld (pv 0) rfl) pa_nil))))) pe_int (nomark _)))))), ?_⟩
    cases ha with
    | full h => cases hx
    | beyond h => cases hx
    | twice h ht => cases hx
    | @bare t c h ht =>
      obtain ⟨dx, hp⟩ := h
      have F := G.f .bare (by decide)
      have q : ∀ H', Same H H' → Q (.bl (cellB L W c && decide (oftN fi se (vals ps) c = 0))) H' := q
      refine ⟨_, rfl, _, rfl, _, rfl, p, _, dx, _, _, rfl, hp, F.c, F.no, rfl, .mk ht ⟨_, rfl, iteB (fun c1 => ?_) (fun c1 => ?_)⟩⟩
      · rw [c1] at q
        refine ⟨_, rfl, _, rfl, _, rfl, _, rfl, p, _, dx, _, _, rfl, hp, F.c, F.no, rfl, .mk hl hb hn (sqT ht) fun H1 sm1 => ?_⟩
        walk_at "rd"
        have e : decide (V.int (oftN fi se (vals ps) c : Nat) = V.int 0) = decide (oftN fi se (vals ps) c = 0) := decide_eq_decide.mpr ⟨fun z => by have := V.int.inj z; omega, fun z => by rw [z]; rfl⟩
        show Q (.bl (decide (V.int (oftN fi se (vals ps) c : Nat) = V.int 0))) H1
        rw [e]
        exact q _ sm1
      · rw [c1] at q
        exact q _ (Same.refl _)
end
/-- a cell as a key -/
def keyL (c : Int × Int) : List Key := [Sum.inl c.1, Sum.inl c.2]
theorem key_inj {c d : Int × Int} (h : keyL c = keyL d) : c = d := by
  obtain ⟨a, b⟩ := c
  obtain ⟨a', b'⟩ := d
  unfold keyL at h
  injection h with h1 h2
  injection h2 with h2 h3
  injection h1 with h1
  injection h2 with h2
  simp only at h1 h2
  rw [h1, h2]
theorem find_key {kvs : List (List Key × V)} {cs : List (Int × Int)} (hk : kvs.map (·.1) = cs.map keyL) (c : Int × Int) : (valV kvs (keyL c)).isSome = true ↔ c ∈ cs := by
  unfold valV
  rw [Option.isSome_map, List.find?_isSome]
  constructor
  · rintro ⟨kv, hkv, e⟩
    have m : kv.1 ∈ kvs.map (·.1) := List.mem_map_of_mem hkv
    rw [hk] at m
    obtain ⟨d, hd, ed⟩ := List.mem_map.mp m
    have e2 : kv.1 = keyL c := of_decide_eq_true e
    rw [e2] at ed
    rw [← key_inj ed]
    exact hd
  · intro h
    have m : keyL c ∈ kvs.map (·.1) := by
      rw [hk]
      exact List.mem_map_of_mem h
    obtain ⟨kv, hkv, e⟩ := List.mem_map.mp m
    exact ⟨kv, hkv, decide_eq_true e⟩
theorem put_key {kvs : List (List Key × V)} {cs : List (Int × Int)} (hk : kvs.map (·.1) = cs.map keyL) {c : Int × Int} (hc : c ∉ cs) (v : V) : (putK kvs (keyL c) v).map (·.1) = (cs ++ [c]).map keyL := by
  unfold putK
  have no : ¬ (kvs.any fun kv => decide (kv.1 = keyL c)) = true := by
    intro h
    obtain ⟨kv, hkv, e⟩ := List.any_eq_true.mp h
    have m : kv.1 ∈ kvs.map (·.1) := List.mem_map_of_mem hkv
    rw [hk] at m
    obtain ⟨d, hd, ed⟩ := List.mem_map.mp m
    have e2 : kv.1 = keyL c := of_decide_eq_true e
    rw [e2] at ed
    rw [← key_inj ed] at hc
    exact hc hd
  rw [if_neg no, List.map_append, hk, List.map_append]
  rfl
theorem keys_len {kvs : List (List Key × V)} {cs : List (Int × Int)} (hk : kvs.map (·.1) = cs.map keyL) : kvs.length = cs.length := by
  have := congrArg List.length hk
  rw [List.length_map, List.length_map] at this
  exact this
theorem fullB_eq {L W f s : Int} (hL : 0 < L) (hW : 0 < W) (hf : 0 < f) (hs : 0 < s) {bs : List Brick} (hb : ∀ b ∈ bs, beyB L W f s b = false) :
    fullB L W f s bs = true ↔ ((allL f s bs).Nodup ∧ ((allL f s bs).length : Int) = L * W) := by
  rw [full_iff hL hW hf hs hb]
  have na : bs.any (beyB L W f s) = false := by
    rw [List.any_eq_false]
    intro b hbm
    rw [hb b hbm]
    decide
  unfold fullB
  rw [na]
  show (gridL L W).all (fun c => decide (oftN f s bs c = 1)) = true ↔ _
  rw [List.all_eq_true]
  constructor
  · intro h c hc
    exact of_decide_eq_true (h c ((mem_grid (by omega) (by omega)).mpr hc))
  · intro h c hc
    exact decide_eq_true (h c ((mem_grid (by omega) (by omega)).mp hc))
theorem all_take {f s : Int} {ps : List (Addr × Brick)} {i : Nat} {p : Addr × Brick} (h : ps[i]? = some p) : allL f s ((vals ps).take (i + 1)) = allL f s ((vals ps).take i) ++ cellsL f s p.2 := by
  have et : (vals ps).take (i + 1) = (vals ps).take i ++ [p.2] := by
    unfold vals
    rw [List.take_add_one, List.getElem?_map, h]
    rfl
  unfold allL
  rw [et, List.flatMap_append]
  simp
theorem all_split {f s : Int} {ps : List (Addr × Brick)} {i : Nat} {p : Addr × Brick} (h : ps[i]? = some p) : ∃ r, allL f s (vals ps) = allL f s ((vals ps).take i) ++ (cellsL f s p.2 ++ r) := by
  have e : vals ps = (vals ps).take (i + 1) ++ (vals ps).drop (i + 1) := (List.take_append_drop _ _).symm
  refine ⟨allL f s ((vals ps).drop (i + 1)), ?_⟩
  have e2 : allL f s (vals ps) = allL f s ((vals ps).take (i + 1)) ++ allL f s ((vals ps).drop (i + 1)) := by
    unfold allL
    rw [← List.flatMap_append, List.take_append_drop]
  rw [e2, all_take h, List.append_assoc]
/-- cells on a floor of a few thousands: no more than the floor has -/
theorem nodup_len {L W : Int} (hL : 0 ≤ L ∧ L ≤ 1000) (hW : 0 ≤ W ∧ W ≤ 1000) {cs : List (Int × Int)} (nd : cs.Nodup) (h : ∀ c ∈ cs, cellB L W c = true) : cs.length ≤ 1000000 := by
  have g1 : ∀ c, (gridL L W).count c ≤ 1 := fun c => by
    rw [grid_count hL.1 hW.1]
    split <;> omega
  have sm := sum_counts g1 (all := cs) fun c hc => (mem_grid hL.1 hW.1).mpr (h c hc)
  have le : ∀ g : List (Int × Int), (g.map fun c => cs.count c).sum ≤ g.length := by
    intro g
    induction g with
    | nil => exact Nat.le_refl _
    | cons b g ih =>
      rw [List.map_cons, List.sum_cons, List.length_cons]
      have := List.nodup_iff_count.mp nd b
      omega
  have l1 := le (gridL L W)
  have gl : (gridL L W).length = L.toNat * W.toNat := by
    unfold gridL
    rw [cols_len]
  have := Nat.mul_le_mul (show L.toNat ≤ 1000 by omega) (show W.toNat ≤ 1000 by omega)
  omega
inductive SeenI (p l S : Addr) (L W fi se : Int) (ps : List (Addr × Brick)) (H : Hp) (i : Nat) : L2.St → Hp → Prop where
  | mk {H' : Hp} {z u : Option V} {kvs : List (List Key × V)} (sm : Same H H') (hS : H' S = some (.dT kvs)) (hk : kvs.map (·.1) = (allL fi se ((vals ps).take i)).map keyL) (nd : (allL fi se ((vals ps).take i)).Nodup) :
    SeenI p l S L W fi se ps H i [some (.ref p), some (.int L), some (.int W), some (.int fi), some (.int se), some (.ref l), some (.ref S), z, u] H'
inductive SeenJ (p l S o : Addr) (L W fi se : Int) (ps : List (Addr × Brick)) (cs : List (Int × Int)) (H : Hp) (i j : Nat) : L2.St → Hp → Prop where
  | mk {H' : Hp} {u : Option V} {kvs : List (List Key × V)} (sm : Same H H') (hS : H' S = some (.dT kvs)) (hk : kvs.map (·.1) = (allL fi se ((vals ps).take i) ++ cs.take j).map keyL) (nd : (allL fi se ((vals ps).take i) ++ cs.take j).Nodup) :
    SeenJ p l S o L W fi se ps cs H i j [some (.ref p), some (.int L), some (.int W), some (.int fi), some (.int se), some (.ref l), some (.ref S), some (.ref o), u] H'
section
variable {P : Program} {w : World} {K : PySem.W.Frag} {mg : Str → Option Value} {base : Heap}
theorem H_Full_shows (p : PlM K .full "shows" "Full.shows" s_Full_shows) (B : Bi mg) (h_is_beyond : Has P w K mg base CX0 1 "is_beyond" ["length", "width", "first", "second", "brick"] (SpBeyond K)) (h_cells_of : Has P w K mg base CX0 1 "cells_of" ["first", "second", "brick"] (SpCells K)) :
    HasM P w K mg base CX0 2 .full "shows" ["self", "length", "width", "first", "second", "bricks"] (SpShows5 K .full) := by
  refine p.mk0 sc_Full_shows (fun _ _ _ _ _ _ us hl => match us, hl with | [_, _, _, _, _, _], _ => rfl) (fun vs H Q E h => ?_) (fun f cdv A outer s H vs Q E hr h => ?_)
  · cases h; rfl
  · obtain @⟨p, l, d, ps, L, W, fi, se, _, _, _, ha, hx, hL, hW, hf, hs, hl, hb, hn, q⟩ := h
    refine ⟨_, (pss_cons (ps_if (pt_val (pe_callB (cr_any rfl) (by rfl) B.any (by decide +kernel) (pa_cons (pe_lc (own := [("brick", 7)]) (by rfl) sc_Full_shows.nd (pi_list (pv 5)) (blkOk_by (own := [("brick", 7)]) (N := ["self", "length", "width", "first", "second", "bricks", "seen", "brick", "cell"]) (sc := defScope s_Full_shows) (by decide +kernel)) (fun _ _ _ _ _ => (pg_name (i := 7) sc_Full_shows.nd rfl (Or.inl rfl))) (fun _ _ _ _ _ => pts_nil) (fun _ _ _ _ _ => (pe_fn h_is_beyond (hr.mono (by decide)) pass0 (pa_cons (pv 1) (pa_cons (pv 2) (pa_cons (pv 3) (pa_cons (pv 4) (pa_cons (pv 7) pa_nil)))))))) pa_nil))) (pss_one (ps_ret pe_bl)) pss_nil)
      (pss_cons (ps_set (i := 6) sc_Full_shows.nd rfl (Or.inl rfl) pe_dnewT)
      (pss_cons (ps_for PassesOwn.never (by rfl) (pi_list (pv 5)) (pg_name (i := 7) sc_Full_shows.nd rfl (Or.inl rfl)) (pss_one (ps_for PassesOwn.never (by rfl) (pi_list (pe_fn h_cells_of (hr.mono (by decide)) pass0 (pa_cons (pv 3) (pa_cons (pv 4) (pa_cons (pv 7) pa_nil))))) (pg_name (i := 8) sc_Full_shows.nd rfl (Or.inl rfl)) (pss_cons (ps_if (pt_cmp (pc_din (hu_of hr) (pv 8) (pv 6))) (pss_one (ps_ret pe_bl)) pss_nil)
      (pss_one (ps_dput (hu_of hr) (pv 6) (pv 8) pe_bl rfl))))))
      (pss_one (ps_ret (pe_cmpR op_eq (pe_callB call_len_dT (by rfl) B.len PySem.boot_len (pa_cons (pv 6) pa_nil)) (pe_op op_mulX (pv 1) (pv 2)) (nomark _))))))), ?_⟩
    cases ha with
    | beyond h => cases hx
    | twice h ht => cases hx
    | bare h ht => cases hx
    | full h =>
      clear h hx
      have q : ∀ H', Same H H' → Q (.bl (fullB L W fi se (vals ps))) H' := q
      refine ⟨_, rfl, l, rfl, ⟨_, hl⟩, fun D hD => ?_⟩
      refine lc_list (K := K) (a := l) (xs := refs ps) (fun i H' => Same H H' ∧ H' D = some (.lst ((((vals ps).take i).map (beyB L W fi se)).map V.bl))) ⟨same_upd hD, upd_same⟩ (fun i H' _ ⟨sm, _⟩ => sm.seq hl) ?_ ?_
      · rintro i v H' hi ⟨sm, eD⟩
        obtain ⟨pb, hpb, rfl, hm⟩ := refs_at hi
        have hlt : i < ps.length := (List.getElem?_eq_some_iff.mp hpb).1
        have et : (vals ps).take (i + 1) = (vals ps).take i ++ [pb.2] := by
          unfold vals
          rw [List.take_add_one, List.getElem?_map, hpb]
          rfl
        refine ⟨rfl, lc_yes ?_⟩
        walk_at "rd"
        refine .mk (Same.tup sm (hb pb hm)) fun H2 sm2 => ⟨_, sm2 _ _ eD, ?_, ?_, ?_⟩
        · rw [List.length_map, List.length_map, List.length_take, vals_len]
          exact Nat.lt_of_le_of_lt (Nat.min_le_right _ _) (Nat.lt_of_le_of_lt hn (by decide))
        · exact fun b1 o e => by rw [upd_ne (ne_of_none e hD)]; exact sm2 _ _ (sm b1 o e)
        · rw [upd_same, et, List.map_append, List.map_append]
          rfl
      · rintro H1 ⟨sm1, eD⟩
        rw [refs_len, ← vals_len ps, List.take_length] at eD
        refine ⟨D, _, rfl, sqL eD, ?_⟩
        have ea : ((vals ps).map (beyB L W fi se)).any id = (vals ps).any (beyB L W fi se) := by
          rw [List.any_map]
          rfl
        rw [ea]
        refine ⟨_, rfl, iteB (fun c => ?_) (fun c => ?_)⟩
        · have e : fullB L W fi se (vals ps) = false := by
            unfold fullB
            rw [c]
            rfl
          rw [e] at q
          exact q _ sm1
        have hnb : ∀ b ∈ vals ps, beyB L W fi se b = false := fun b hbm => by
          have := List.any_eq_false.mp c b hbm
          exact Bool.eq_false_iff.mpr this
        have fe := fullB_eq hL.1 hW.1 hf hs hnb
        intro S hS
        have inG : ∀ i c, c ∈ allL fi se ((vals ps).take i) → cellB L W c = true := fun i c hc => by
          obtain ⟨b, hbm, hcb⟩ := List.mem_flatMap.mp hc
          exact cov_cell (hnb b (List.mem_of_mem_take hbm)) (mem_cells hf hs hcb)
        refine ⟨_, rfl, l, rfl, ⟨_, (same_upd hS).seq (sm1.seq hl)⟩, for_list (K := K) (a := l) (xs := refs ps) (fun i σ H' => SeenI p l S L W fi se ps H1 i σ H') (.mk (kvs := []) (same_upd hS) upd_same rfl List.Pairwise.nil) ?_ ?_ ?_⟩
        · rintro _ _ _ _ ⟨sm⟩
          exact sm.seq (sm1.seq hl)
        · rintro i v _ H2 hi @⟨_, _, _, kvs, sm2, eS, hk, nd⟩
          obtain ⟨pb, hpb, rfl, hm⟩ := refs_at hi
          have hbv : pb.2 ∈ vals ps := List.mem_map_of_mem hm
          have nb := hnb _ hbv
          have lim : pb.2.lo fi se ≤ 1000 ∧ pb.2.hi fi se ≤ 1000 := by
            unfold beyB at nb
            simp only [Bool.or_eq_false_iff, decide_eq_false_iff_not] at nb
            omega
          have lo0 : 0 < pb.2.lo fi se := by unfold Brick.lo; split <;> omega
          have hi0 : 0 < pb.2.hi fi se := by unfold Brick.hi; split <;> omega
          walk_at "rd"
          refine .mk (Same.tup (sm1.trans sm2) (hb pb hm)) ⟨by omega, lim.1⟩ ⟨by omega, lim.2⟩ fun C H3 cs sm3 eC hcs vcs => ?_
          have eS3 := sm3 _ _ eS
          have nSC : C ≠ S := ne_of eC eS3 (by intro z; cases z)
          refine ⟨C, rfl, ⟨_, sqL eC⟩, for_list (K := K) (a := C) (xs := refs cs) (fun j σ H' => SeenJ p l S pb.1 L W fi se ps (cellsL fi se pb.2) H1 i j σ H' ∧ H' C = some (.lst (refs cs)) ∧ CeAll H' cs) ⟨.mk (kvs := kvs) (sm2.trans sm3) eS3 (by rw [List.take_zero, List.append_nil]; exact hk) (by rw [List.take_zero, List.append_nil]; exact nd), eC, hcs⟩ ?_ ?_ ?_⟩
          · rintro _ _ _ _ ⟨_, e, _⟩
            exact sqL e
          · rintro j v _ H4 hj ⟨@⟨_, _, kvs4, sm4, eS4, hk4, nd4⟩, eC4, hcs4⟩
            obtain ⟨pc, hpc, rfl, hmc⟩ := refs_at hj
            have ec := hcs4 pc hmc
            have ecl : (cellsL fi se pb.2)[j]? = some pc.2 := by
              rw [← vcs]
              unfold vals
              rw [List.getElem?_map, hpc]
              rfl
            have ecol : cellB L W pc.2 = true := cov_cell nb (mem_cells hf hs (List.mem_of_getElem? ecl))
            have tk : (cellsL fi se pb.2).take (j + 1) = (cellsL fi se pb.2).take j ++ [pc.2] := by
              rw [List.take_add_one, ecl]
              rfl
            have fk := find_key hk4 pc.2
            walk_at "rd"
            refine ⟨S, _, rfl, DGet.t (k := keyL pc.2) eS4 ec, _, rfl, iteB (fun c4 => ?_) (fun c4 => ?_)⟩
            · -- twice
              have mem := fk.mp c4
              have e : fullB L W fi se (vals ps) = false := by
                apply Bool.eq_false_iff.mpr
                intro z
                have nda := (fe.mp z).1
                obtain ⟨r, er⟩ := all_split (f := fi) (s := se) hpb
                rw [er] at nda
                have e3 : cellsL fi se pb.2 = (cellsL fi se pb.2).take j ++ pc.2 :: (cellsL fi se pb.2).drop (j + 1) := by
                  have hlt := (List.getElem?_eq_some_iff.mp ecl).1
                  have h5 : (cellsL fi se pb.2)[j] = pc.2 := (List.getElem?_eq_some_iff.mp ecl).2
                  rw [← h5, ← List.drop_eq_getElem_cons hlt, List.take_append_drop]
                rw [e3, List.append_assoc, ← List.append_assoc] at nda
                have dj := (List.nodup_append.mp nda).2.2 pc.2 mem pc.2 (by simp)
                exact dj rfl
              rw [e] at q
              exact q _ (sm1.trans sm4)
            · have nmem : pc.2 ∉ allL fi se ((vals ps).take i) ++ (cellsL fi se pb.2).take j := fun z => by
                rw [fk.mpr z] at c4
                cases c4
              have nd5 : (allL fi se ((vals ps).take i) ++ (cellsL fi se pb.2).take (j + 1)).Nodup := by
                rw [tk, ← List.append_assoc]
                exact List.nodup_append.mpr ⟨nd4, by simp, fun a ha b hb2 e => by
                  rw [List.mem_singleton] at hb2
                  rw [e, hb2] at ha
                  exact nmem ha⟩
              have small : kvs4.length < sizeLine := by
                rw [keys_len hk4]
                refine Nat.lt_of_le_of_lt (nodup_len (L := L) (W := W) (by omega) (by omega) nd4 fun c hc => ?_) (by decide)
                rcases List.mem_append.mp hc with z | z
                · exact inG i c z
                · exact cov_cell nb (mem_cells hf hs (List.mem_of_mem_take z))
              walk_at "rd"
              have nCS : C ≠ S := ne_of eC4 eS4 (by intro z; cases z)
              refine ⟨S, _, rfl, DPut.t (k := keyL pc.2) eS4 ec small, .mk (kvs := putK kvs4 (keyL pc.2) (.bl true)) ?_ upd_same ?_ nd5, ?_, ?_⟩
              · exact fun b1 o e => by rw [upd_ne (ne_of_none e hS)]; exact sm4 b1 o e
              · rw [put_key hk4 nmem, tk, List.append_assoc]
              · rw [upd_ne nCS]
                exact eC4
              · exact fun z hz => by
                  have hz2 := hcs4 z hz
                  have nz : z.1 ≠ S := ne_of hz2 eS4 (by intro z; cases z)
                  rw [upd_ne nz]
                  exact hz2
          · rintro _ H4 ⟨@⟨_, _, kvs4, sm4, eS4, hk4, nd4⟩, _, _⟩
            have el : (cellsL fi se pb.2).take (refs cs).length = cellsL fi se pb.2 := by
              rw [refs_len, ← vals_len, vcs, List.take_length]
            rw [el] at hk4 nd4
            exact .mk (kvs := kvs4) sm4 eS4 (by rw [all_take hpb]; exact hk4) (by rw [all_take hpb]; exact nd4)
        · rintro _ H2 @⟨_, _, _, kvs, sm2, eS, hk, nd⟩
          rw [refs_len, ← vals_len ps, List.take_length] at hk nd
          refine ⟨_, rfl, S, kvs, rfl, eS, ?_⟩
          have bL : Bn 20 L := bnl (by omega)
          have bW : Bn 20 W := bnl (by omega)
          walk_at "rd"
          have e : decide (V.int ((kvs.length : Nat) : Int) = V.int (L * W)) = fullB L W fi se (vals ps) := by
            rw [keys_len hk]
            by_cases c : ((allL fi se (vals ps)).length : Int) = L * W
            · rw [fe.mpr ⟨nd, c⟩]
              exact decide_eq_true (congrArg V.int c)
            · rw [Bool.eq_false_iff.mpr fun z => c (fe.mp z).2]
              exact decide_eq_false fun z => c (V.int.inj z)
          show Q (.bl (decide (V.int ((kvs.length : Nat) : Int) = V.int (L * W)))) H2
          rw [e]
          exact q _ (sm1.trans sm2)
theorem H_shows5 (B : Bi mg) (G : ClG K mg) (p1 : PlM K .full "shows" "Full.shows" s_Full_shows) (p2 : PlM K .beyond "shows" "Beyond.shows" s_Beyond_shows) (p3 : PlM K .twice "shows" "Twice.shows" s_Twice_shows) (p4 : PlM K .bare "shows" "Bare.shows" s_Bare_shows)
    (h_is_beyond : Has P w K mg base CX0 1 "is_beyond" ["length", "width", "first", "second", "brick"] (SpBeyond K)) (h_cells_of : Has P w K mg base CX0 1 "cells_of" ["first", "second", "brick"] (SpCells K))
    (h_is_cell : Has P w K mg base CX0 2 "is_cell" ["length", "width", "thing"] SpIsCell) (h_often : Has P w K mg base CX0 2 "often" ["first", "second", "bricks", "cell"] (SpOften K)) :
    ∀ x, Ok5 x → HasM P w K mg base CX0 3 x "shows" ["self", "length", "width", "first", "second", "bricks"] (SpShows5 K x) := by
  intro x hx
  have e : x = .full ∨ x = .beyond ∨ x = .twice ∨ x = .bare := by simpa [Ok5] using hx
  rcases e with rfl | rfl | rfl | rfl
  · exact (H_Full_shows p1 B h_is_beyond h_cells_of).mono (by decide)
  · exact (H_Beyond_shows p2 B G h_is_beyond).mono (by decide)
  · exact H_Twice_shows p3 G h_is_cell h_often
  · exact H_Bare_shows p4 G h_is_cell h_often
end
end BF

/-! ### the laws' own reckoning of bricks -/
namespace BF
open PySem PySem.Spec PyProof.Rows L2
inductive SpSides : Sp where
  | mk {f s : Int} {b : Bool} {H : Hp} {Q : VK} {E : XK} (q : ∀ p H', Same H H' → H' p = some (.tup [.int (if b then f else s), .int (if b then s else f)]) → Q (.ref p) H') : SpSides [.int f, .int s, .bl b] H Q E
inductive SpLOut (K : PySem.W.Frag) : Sp where
  | mk {fl o : Addr} {b : Brick} {L W f s : Int} {H : Hp} {Q : VK} {E : XK} (hfl : SqT K H fl [.int L, .int W]) (ho : SqT K H o b.vs) (q : ∀ H', Same H H' → Q (.bl (beyB L W f s b)) H') : SpLOut K [.ref fl, .int f, .int s, .ref o] H Q E
inductive SpLFull (K : PySem.W.Frag) : Sp where
  | mk {fl l : Addr} {ps : List (Addr × Brick)} {L W f s : Int} {H : Hp} {Q : VK} {E : XK} (hfl : SqT K H fl [.int L, .int W]) (hL : 0 < L ∧ L ≤ 1000) (hW : 0 < W ∧ W ≤ 1000) (hl : SqL K H l (refs ps)) (hb : BrAll K H ps) (hn : ps.length ≤ 10000) (q : ∀ H', Same H H' → Q (.bl (fullB L W f s (vals ps))) H') :
    SpLFull K [.ref fl, .int f, .int s, .ref l] H Q E
inductive OverI (f s : Int) (l t : Addr) (ps : List (Addr × Brick)) (c : Int × Int) (H : Hp) (i : Nat) : L2.St → Hp → Prop where
  | mk {H' : Hp} {y5 y6 y7 y8 y9 : Option V} (sm : Same H H') : OverI f s l t ps c H i [some (.int f), some (.int s), some (.ref l), some (.ref t), some (.int (oftN f s ((vals ps).take i) c : Nat)), y5, y6, y7, y8, y9] H'
theorem oft_take {f s : Int} {ps : List (Addr × Brick)} {i : Nat} {pb : Addr × Brick} (c : Int × Int) (hpb : ps[i]? = some pb) : oftN f s ((vals ps).take (i + 1)) c = oftN f s ((vals ps).take i) c + if covB f s c pb.2 then 1 else 0 := by
  have et : (vals ps).take (i + 1) = (vals ps).take i ++ [pb.2] := by
    unfold vals
    rw [List.take_add_one, List.getElem?_map, hpb]
    rfl
  rw [et]
  unfold oftN
  rw [List.filter_append, List.length_append, List.filter_cons]
  split <;> rfl
theorem grid_all {L W : Int} (hL : 0 ≤ L) (hW : 0 ≤ W) (g : Int × Int → Bool) : (gridL L W).all g = (List.range L.toNat).all fun i : Nat => (List.range W.toNat).all fun j : Nat => g ((i : Int), (j : Int)) := by
  unfold gridL colsL colL
  rw [List.all_flatMap]
  congr 1
  funext i
  rw [List.all_map]
  congr 1
  funext j
  show g (0 + (i : Int), 0 + (j : Int)) = g ((i : Int), (j : Int))
  rw [Int.zero_add, Int.zero_add]
section
variable {P : Program} {w : World} {K : PySem.W.Frag} {mg : Str → Option Value} {base : Heap}
theorem H__law_sides (p : Pl K mg "_law_sides" s__law_sides) : Has P w K mg base CX0 1 "_law_sides" ["_law_first", "_law_second", "_law_lies"] SpSides := by
  refine p.mk0 sc__law_sides (fun _ _ _ _ _ _ us hl => match us, hl with | [_, _, _], _ => rfl) (fun vs H Q E h => ?_) (fun f cdv A outer s H vs Q E hr h => ?_)
  · cases h; rfl
  · obtain @⟨fi, se, b, _, _, _, q⟩ := h
    refine ⟨_, (pss_one (ps_ret (pe_ifExp (pt_val (pv 2)) (pe_tup (pa_cons (pv 0) (pa_cons (pv 1) pa_nil))) (pe_tup (pa_cons (pv 1) (pa_cons (pv 0) pa_nil)))))), ?_⟩
    cases b
    all_goals
      refine ⟨_, rfl, _, rfl, ?_⟩
      first | refine iteF ?_ | refine iteT ?_
      walk_at "rd"
      exact fun p hp => q p _ (same_upd hp) upd_same
theorem H__law_over (p : Pl K mg "_law_over" s__law_over) (h__law_sides : Has P w K mg base CX0 1 "_law_sides" ["_law_first", "_law_second", "_law_lies"] SpSides) : Has P w K mg base CX0 2 "_law_over" ["_law_first", "_law_second", "_law_bricks_here", "_law_cell"] (SpOften K) := by
  refine p.mk0 sc__law_over (fun _ _ _ _ _ _ us hl => match us, hl with | [_, _, _, _], _ => rfl) (fun vs H Q E h => ?_) (fun f cdv A outer s H vs Q E hr h => ?_)
  · cases h; rfl
  · obtain @⟨l, t, ps, ⟨c1, c2⟩, fi, se, _, _, _, hl, hb, hn, ht, q⟩ := h
    refine ⟨_, (pss_cons (ps_set (i := 4) sc__law_over.nd rfl (Or.inl rfl) pe_int)
      (pss_cons (ps_for PassesOwn.never (by rfl) (pi_list (pv 2)) (pg_tup (by rfl) (pgs_cons (pg_name (i := 5) sc__law_over.nd rfl (Or.inl rfl)) (pgs_cons (pg_name (i := 6) sc__law_over.nd rfl (Or.inl rfl)) (pgs_cons (pg_name (i := 7) sc__law_over.nd rfl (Or.inl rfl)) pgs_nil)))) (pss_cons (ps_asg (pe_fn h__law_sides (hr.mono (by decide)) pass0 (pa_cons (pv 0) (pa_cons (pv 1) (pa_cons (pv 7) pa_nil)))) (pg_tup (by rfl) (pgs_cons (pg_name (i := 8) sc__law_over.nd rfl (Or.inl rfl)) (pgs_cons (pg_name (i := 9) sc__law_over.nd rfl (Or.inl rfl)) pgs_nil))))
      (pss_one (ps_if (PW.pt (pw_and (pt_chain op_le op_lt (pv 5) (pe_ix (r := rIxT K) ix_tup (pv 3) pe_int (fun _ _ => rfl)) (pe_op op_add (pv 5) (pv 8))) (pw_and1 (pt_chain op_le op_lt (pv 6) (pe_ix (r := rIxT K) ix_tup (pv 3) pe_int (fun _ _ => rfl)) (pe_op op_add (pv 6) (pv 9)))))) (pss_one (ps_set (i := 4) sc__law_over.nd rfl (Or.inl rfl) (pe_op op_add (pv 4) pe_int))) pss_nil))))
      (pss_one (ps_ret (pv 4))))), ?_⟩
    refine ⟨_, rfl, l, rfl, ⟨_, hl⟩, for_list (K := K) (a := l) (xs := refs ps) (fun i σ H' => OverI fi se l t ps (c1, c2) H i σ H') (.mk (Same.refl _)) ?_ ?_ ?_⟩
    · rintro _ _ _ _ ⟨sm⟩
      exact sm.seq hl
    · rintro i v _ H1 hi @⟨_, _, _, _, _, _, sm1⟩
      obtain ⟨⟨o, ⟨x, y, lb⟩⟩, hpb, rfl, hm⟩ := refs_at hi
      have eo := oft_take (f := fi) (s := se) (c1, c2) hpb
      have ho := Same.tup sm1 (hb _ hm)
      have ht1 := Same.tup sm1 ht
      refine ⟨o, _, rfl, ho, rfl, ?_⟩
      walk_at "rd"
      refine .mk fun p2 H2 sm2 hp2 => ⟨p2, _, rfl, sqT hp2, rfl, ?_⟩
      have ht2 := Same.tup sm2 ht1
      unfold covB Brick.lo Brick.hi at eo
      generalize hlo : (if lb = true then fi else se) = lo at eo
      generalize hhi : (if lb = true then se else fi) = hi2 at eo
      dsimp only at eo
      walk_at "rd"
      refine ⟨t, _, 0, _, rfl, rfl, ht2, rfl, ?_⟩
      walk_at "rd"
      have fin : ∀ b : Bool, (decide (x ≤ c1) && decide (c1 < x + lo) && (decide (y ≤ c2) && decide (c2 < y + hi2))) = b → oftN fi se ((vals ps).take (i + 1)) (c1, c2) = oftN fi se ((vals ps).take i) (c1, c2) + if b = true then 1 else 0 := fun b hbb => by rw [eo, hbb]
      have no : (decide (x ≤ c1) && decide (c1 < x + lo) && (decide (y ≤ c2) && decide (c2 < y + hi2))) = false → OverI fi se l t ps (c1, c2) H (i + 1) [some (.int fi), some (.int se), some (.ref l), some (.ref t), some (.int (oftN fi se ((vals ps).take i) (c1, c2) : Nat)), some (.int x), some (.int y), some (.bl lb), some (.int lo), some (.int hi2)] H2 := fun z => by
        have e := fin false z
        rw [show oftN fi se ((vals ps).take i) (c1, c2) = oftN fi se ((vals ps).take (i + 1)) (c1, c2) by rw [e]; rfl]
        exact .mk (sm1.trans sm2)
      refine iteD (fun d1 => ?_) (fun d1 => ?_)
      · walk_at "rd"
        refine iteD (fun d2 => ?_) (fun d2 => ?_)
        · refine ⟨_, rfl, _, rfl, t, _, 1, _, rfl, rfl, ht2, rfl, ?_⟩
          walk_at "rd"
          refine iteD (fun d3 => ?_) (fun d3 => ?_)
          · walk_at "rd"
            refine iteD (fun d4 => ?_) (fun d4 => ?_)
            · have e := fin true (by rw [decide_eq_true d1, decide_eq_true d2, decide_eq_true d3, decide_eq_true d4]; rfl)
              walk_at "rd"
              have e2 : ((oftN fi se ((vals ps).take i) (c1, c2) : Nat) : Int) + 1 = ((oftN fi se ((vals ps).take (i + 1)) (c1, c2) : Nat) : Int) := by
                rw [e, if_pos rfl]
                omega
              show OverI fi se l t ps (c1, c2) H (i + 1) [some (.int fi), some (.int se), some (.ref l), some (.ref t), some (.int (((oftN fi se ((vals ps).take i) (c1, c2) : Nat) : Int) + 1)), some (.int x), some (.int y), some (.bl lb), some (.int lo), some (.int hi2)] H2
              rw [e2]
              exact .mk (sm1.trans sm2)
            · refine no ?_
              rw [decide_eq_false d4, Bool.and_false, Bool.and_false]
          · refine ⟨_, rfl, no ?_⟩
            rw [decide_eq_false d3, Bool.false_and, Bool.and_false]
        · refine no ?_
          rw [decide_eq_false d2, Bool.and_false, Bool.false_and]
      · refine ⟨_, rfl, iteF (no ?_)⟩
        rw [decide_eq_false d1]
        rfl
    · rintro _ H1 @⟨_, _, _, _, _, _, sm1⟩
      refine ⟨_, rfl, ?_⟩
      rw [refs_len, ← vals_len ps, List.take_length]
      exact q _ sm1
theorem min_neg (x y : Int) : decide ((if y < x then y else x) < 0) = (decide (x < 0) || decide (y < 0)) := by
  by_cases h : y < x
  · rw [if_pos h]
    by_cases hy : y < 0
    · rw [decide_eq_true hy, Bool.or_true]
    · rw [decide_eq_false hy, decide_eq_false (show ¬ x < 0 by omega)]
      rfl
  · rw [if_neg h]
    by_cases hx : x < 0
    · rw [decide_eq_true hx, Bool.true_or]
    · rw [decide_eq_false hx, decide_eq_false (show ¬ y < 0 by omega)]
      rfl
theorem H__law_out (p : Pl K mg "_law_out" s__law_out) (B : Bi mg) (h__law_sides : Has P w K mg base CX0 1 "_law_sides" ["_law_first", "_law_second", "_law_lies"] SpSides) : Has P w K mg base CX0 2 "_law_out" ["_law_floor", "_law_first", "_law_second", "_law_brick"] (SpLOut K) := by
  refine p.mk0 sc__law_out (fun _ _ _ _ _ _ us hl => match us, hl with | [_, _, _, _], _ => rfl) (fun vs H Q E h => ?_) (fun f cdv A outer s H vs Q E hr h => ?_)
  · cases h; rfl
  · obtain @⟨fl, o, ⟨x, y, lb⟩, L, W, fi, se, _, _, _, hfl, ho, q⟩ := h
    refine ⟨_, (pss_cons (ps_asg (pe_fn h__law_sides (hr.mono (by decide)) pass0 (pa_cons (pv 1) (pa_cons (pv 2) (pa_cons (pe_ix (r := rIxT K) ix_tup (pv 3) pe_int (fun _ _ => rfl)) pa_nil)))) (pg_tup (by rfl) (pgs_cons (pg_name (i := 4) sc__law_out.nd rfl (Or.inl rfl)) (pgs_cons (pg_name (i := 5) sc__law_out.nd rfl (Or.inl rfl)) pgs_nil))))
      (pss_one (ps_ret (pe_or (pe_cmpR op_lt (pe_callB (call_min2 rfl) (by rfl) B.min (by decide +kernel) (pa_cons (pe_ix (r := rIxT K) ix_tup (pv 3) pe_int (fun _ _ => rfl)) (pa_cons (pe_ix (r := rIxT K) ix_tup (pv 3) pe_int (fun _ _ => rfl)) pa_nil))) pe_int (nomark _)) (pe_or (pe_cmpR op_gt (pe_op op_add (pe_ix (r := rIxT K) ix_tup (pv 3) pe_int (fun _ _ => rfl)) (pv 4)) (pe_ix (r := rIxT K) ix_tup (pv 0) pe_int (fun _ _ => rfl)) (nomark _)) (pe_one (pe_cmpR op_gt (pe_op op_add (pe_ix (r := rIxT K) ix_tup (pv 3) pe_int (fun _ _ => rfl)) (pv 5)) (pe_ix (r := rIxT K) ix_tup (pv 0) pe_int (fun _ _ => rfl)) (nomark _)))))))), ?_⟩
    refine ⟨_, rfl, _, rfl, _, rfl, o, _, 2, _, rfl, rfl, ho, rfl, .mk fun p1 H1 sm1 hp1 => ⟨p1, _, rfl, sqT hp1, rfl, ?_⟩⟩
    unfold beyB Brick.lo Brick.hi at q
    generalize hlo : (if lb = true then fi else se) = lo at q
    generalize hhi : (if lb = true then se else fi) = hi2 at q
    dsimp only at q
    have ho1 := Same.tup sm1 ho
    have hfl1 := Same.tup sm1 hfl
    walk_at "rd"
    refine ⟨o, _, 0, _, rfl, rfl, ho1, rfl, _, rfl, o, _, 1, _, rfl, rfl, ho1, rfl, ?_⟩
    walk_at "rd"
    have mn := min_neg x y
    refine iteD (fun c => ?_) (fun c => ?_)
    · rw [decide_eq_true c] at mn
      have e : (decide (x < 0) || (decide (y < 0) || (decide (L < x + lo) || decide (W < y + hi2)))) = true := by rw [← Bool.or_assoc, ← mn]; rfl
      rw [e] at q
      exact q _ sm1
    rw [decide_eq_false c] at mn
    have e : (decide (x < 0) || (decide (y < 0) || (decide (L < x + lo) || decide (W < y + hi2)))) = (decide (L < x + lo) || decide (W < y + hi2)) := by rw [← Bool.or_assoc, ← mn]; rfl
    rw [e] at q
    refine ⟨_, rfl, o, _, 0, _, rfl, rfl, ho1, rfl, _, rfl, _, _, rfl, rfl, _, rfl, fl, _, 0, _, rfl, rfl, hfl1, rfl, ?_⟩
    walk_at "rd"
    have elo : (if lb = true then fi else se) = lo := hlo
    have ehi : (if lb = true then se else fi) = hi2 := hhi
    refine iteD (fun c => ?_) (fun c => ?_)
    · have c : L < x + lo := c
      rw [decide_eq_true c] at q
      exact q _ sm1
    have c : ¬ L < x + lo := c
    rw [decide_eq_false c, Bool.false_or] at q
    refine ⟨_, rfl, o, _, 1, _, rfl, rfl, ho1, rfl, _, rfl, _, _, rfl, rfl, _, rfl, fl, _, 1, _, rfl, rfl, hfl1, rfl, ?_⟩
    walk_at "rd"
    exact q _ sm1
inductive FullI (fl l : Addr) (fi se L W : Int) (bs : List Brick) (H : Hp) (i : Nat) : L2.St → Hp → Prop where
  | mk {H' : Hp} {y4 y5 y6 : Option V} (sm : Same H H') (hall : ((List.range i).all fun i : Nat => (List.range W.toNat).all fun j : Nat => decide (oftN fi se bs ((i : Int), (j : Int)) = 1)) = true) : FullI fl l fi se L W bs H i [some (.ref fl), some (.int fi), some (.int se), some (.ref l), y4, y5, y6] H'
theorem H__law_full (p : Pl K mg "_law_full" s__law_full) (B : Bi mg) (h__law_out : Has P w K mg base CX0 2 "_law_out" ["_law_floor", "_law_first", "_law_second", "_law_brick"] (SpLOut K)) (h__law_over : Has P w K mg base CX0 2 "_law_over" ["_law_first", "_law_second", "_law_bricks_here", "_law_cell"] (SpOften K)) :
    Has P w K mg base CX0 3 "_law_full" ["_law_floor", "_law_first", "_law_second", "_law_bricks_here"] (SpLFull K) := by
  refine p.mk0 sc__law_full (fun _ _ _ _ _ _ us hl => match us, hl with | [_, _, _, _], _ => rfl) (fun vs H Q E h => ?_) (fun f cdv A outer s H vs Q E hr h => ?_)
  · cases h; rfl
  · obtain @⟨fl, l, ps, L, W, fi, se, _, _, _, hfl, hL, hW, hl, hb, hn, q⟩ := h
    refine ⟨_, (pss_cons (ps_if (pt_val (pe_callB (cr_any rfl) (by rfl) B.any (by decide +kernel) (pa_cons (pe_lc (own := [("_law_brick", 5)]) (by rfl) sc__law_full.nd (pi_list (pv 3)) (blkOk_by (own := [("_law_brick", 5)]) (N := ["_law_floor", "_law_first", "_law_second", "_law_bricks_here", "_law_along", "_law_brick", "_law_up"]) (sc := defScope s__law_full) (by decide +kernel)) (fun _ _ _ _ _ => (pg_name (i := 5) sc__law_full.nd rfl (Or.inl rfl))) (fun _ _ _ _ _ => pts_nil) (fun _ _ _ _ _ => (pe_fn h__law_out (hr.mono (by decide)) pass0 (pa_cons (pv 0) (pa_cons (pv 1) (pa_cons (pv 2) (pa_cons (pv 5) pa_nil))))))) pa_nil))) (pss_one (ps_ret pe_bl)) pss_nil)
      (pss_cons (ps_for PassesOwn.never (by rfl) (pi_range1 (by rfl) B.range (pa_cons (pe_ix (r := rIxT K) ix_tup (pv 0) pe_int (fun _ _ => rfl)) pa_nil)) (pg_name (i := 4) sc__law_full.nd rfl (Or.inr rfl)) (pss_one (ps_if (pt_not (pt_val (pe_callB (cr_all rfl) (by rfl) B.all (by decide +kernel) (pa_cons (pe_lc (own := [("_law_up", 6)]) (by rfl) sc__law_full.nd (pi_range1 (by rfl) B.range (pa_cons (pe_ix (r := rIxT K) ix_tup (pv 0) pe_int (fun _ _ => rfl)) pa_nil)) (blkOk_by (own := [("_law_up", 6)]) (N := ["_law_floor", "_law_first", "_law_second", "_law_bricks_here", "_law_along", "_law_brick", "_law_up"]) (sc := defScope s__law_full) (by decide +kernel)) (fun _ _ _ _ _ => (pg_name (i := 6) sc__law_full.nd rfl (Or.inl rfl))) (fun _ _ _ _ _ => pts_nil) (fun _ _ _ _ _ => (pe_cmpR op_eq (pe_fn h__law_over (hr.mono (by decide)) pass0 (pa_cons (pv 1) (pa_cons (pv 2) (pa_cons (pv 3) (pa_cons (pe_tup (pa_cons (pv 4) (pa_cons (pv 6) pa_nil))) pa_nil))))) pe_int (nomark _)))) pa_nil)))) (pss_one (ps_ret pe_bl)) pss_nil)))
      (pss_one (ps_ret pe_bl)))), ?_⟩
    refine ⟨_, rfl, l, rfl, ⟨_, hl⟩, fun D hD => ?_⟩
    refine lc_list (K := K) (a := l) (xs := refs ps) (fun i H' => Same H H' ∧ H' D = some (.lst ((((vals ps).take i).map (beyB L W fi se)).map V.bl))) ⟨same_upd hD, upd_same⟩ (fun i H' _ ⟨sm, _⟩ => sm.seq hl) ?_ ?_
    · rintro i v H' hi ⟨sm, eD⟩
      obtain ⟨pb, hpb, rfl, hm⟩ := refs_at hi
      have hlt : i < ps.length := (List.getElem?_eq_some_iff.mp hpb).1
      have et : (vals ps).take (i + 1) = (vals ps).take i ++ [pb.2] := by
        unfold vals
        rw [List.take_add_one, List.getElem?_map, hpb]
        rfl
      refine ⟨rfl, lc_yes ?_⟩
      walk_at "rd"
      refine .mk (Same.tup sm hfl) (Same.tup sm (hb pb hm)) fun H2 sm2 => ⟨_, sm2 _ _ eD, ?_, ?_, ?_⟩
      · rw [List.length_map, List.length_map, List.length_take, vals_len]
        exact Nat.lt_of_le_of_lt (Nat.min_le_right _ _) (Nat.lt_of_le_of_lt hn (by decide))
      · exact fun b1 o e => by rw [upd_ne (ne_of_none e hD)]; exact sm2 _ _ (sm b1 o e)
      · rw [upd_same, et, List.map_append, List.map_append]
        rfl
    · rintro H1 ⟨sm1, eD⟩
      rw [refs_len, ← vals_len ps, List.take_length] at eD
      refine ⟨D, _, rfl, sqL eD, ?_⟩
      have ea : ((vals ps).map (beyB L W fi se)).any id = (vals ps).any (beyB L W fi se) := by
        rw [List.any_map]
        rfl
      rw [ea]
      unfold fullB at q
      refine ⟨_, rfl, iteB (fun c => ?_) (fun c => ?_)⟩
      · rw [c] at q
        exact q _ sm1
      rw [c, grid_all (by omega) (by omega)] at q
      have hfl1 := Same.tup sm1 hfl
      refine ⟨_, rfl, fl, _, 0, _, rfl, rfl, hfl1, rfl, _, rfl, by omega, by omega, for_range (lo := 0) (n := L.toNat) (fun i σ H' => FullI fl l fi se L W (vals ps) H1 i σ H') (.mk (Same.refl _) rfl) ?_ ?_⟩
      · rintro i _ H2 hi @⟨_, _, _, _, sm2, ha⟩
        have e0 : (0 : Int) + (i : Int) = i := by omega
        have hfl2 := Same.tup sm2 hfl1
        have hl2 := sm2.seq (sm1.seq hl)
        have hb2 := hb.mono (sm1.trans sm2)
        refine ⟨_, rfl, fl, _, 1, _, rfl, rfl, hfl2, rfl, _, rfl, by omega, by omega, fun D2 hD2 => ?_⟩
        refine lc_range (lo := 0) (n := W.toNat) (fun j H' => Same H2 H' ∧ H' D2 = some (.lst (((List.range j).map fun j : Nat => decide (oftN fi se (vals ps) ((i : Int), (j : Int)) = 1)).map V.bl))) ⟨same_upd hD2, upd_same⟩ ?_ ?_
        · rintro j H3 hj ⟨sm3, eD2⟩
          have e1 : (0 : Int) + (j : Int) = j := by omega
          refine ⟨rfl, lc_yes ?_⟩
          walk_at "rd"
          intro t4 ht4
          have nDt : D2 ≠ t4 := ne_of_none eD2 ht4
          refine .mk (c := ((i : Int), (j : Int))) ((same_upd ht4).seq (sm3.seq hl2)) (hb2.mono (sm3.trans (same_upd ht4))) hn (sqT (by rw [upd_same, e0, e1]; rfl)) fun H4 sm4 => ⟨rfl, _, sm4 _ _ (same_upd ht4 _ _ eD2), ?_, ?_, ?_⟩
          · rw [List.length_map, List.length_map, List.length_range]
            exact Nat.lt_of_lt_of_le hj (size4 (by omega))
          · exact fun b1 o e => by rw [upd_ne (ne_of_none e hD2)]; exact sm4 _ _ (same_upd ht4 _ _ (sm3 b1 o e))
          · have ed : decide (V.int (oftN fi se (vals ps) ((i : Int), (j : Int)) : Nat) = V.int 1) = decide (oftN fi se (vals ps) ((i : Int), (j : Int)) = 1) := decide_eq_decide.mpr ⟨fun z => by have := V.int.inj z; omega, fun z => by rw [z]; rfl⟩
            rw [upd_same, List.range_succ, List.map_append, List.map_append, ed]
            rfl
        · rintro H3 ⟨sm3, eD2⟩
          refine ⟨D2, _, rfl, sqL eD2, ?_⟩
          have er : ((List.range W.toNat).map fun j : Nat => decide (oftN fi se (vals ps) ((i : Int), (j : Int)) = 1)).all id = (List.range W.toNat).all fun j : Nat => decide (oftN fi se (vals ps) ((i : Int), (j : Int)) = 1) := by
            rw [List.all_map]
            rfl
          rw [er]
          cases hc : ((List.range W.toNat).all fun j : Nat => decide (oftN fi se (vals ps) ((i : Int), (j : Int)) = 1)) with
          | true =>
            refine ⟨_, rfl, iteF (.mk (sm2.trans sm3) ?_)⟩
            rw [List.range_succ, List.all_append, ha]
            show (true && (((List.range W.toNat).all fun j : Nat => decide (oftN fi se (vals ps) ((i : Int), (j : Int)) = 1)) && true)) = true
            rw [hc]
            rfl
          | false =>
            refine ⟨_, rfl, iteT ?_⟩
            have no : ((List.range L.toNat).all fun i : Nat => (List.range W.toNat).all fun j : Nat => decide (oftN fi se (vals ps) ((i : Int), (j : Int)) = 1)) = false := by
              apply Bool.eq_false_iff.mpr
              intro z
              have := List.all_eq_true.mp z i (List.mem_range.mpr hi)
              rw [hc] at this
              cases this
            rw [no] at q
            exact q _ (sm1.trans (sm2.trans sm3))
      · rintro _ H2 @⟨_, _, _, _, sm2, ha⟩
        rw [ha] at q
        exact q _ (sm1.trans sm2)
end
end BF

/-! ### the law's own bricks: a list of some -/
namespace BF
open PySem PySem.Spec PyProof.Rows L2
/-- a loop over enumerate(list) -/
theorem for_enumL {K : PySem.W.Frag} {a : Addr} {xs : List V} {g : TG} {tb : TS} {D : Ends} {σ : L2.St} {H : Hp} (Pv : Nat → L2.St → Hp → Prop) (h0 : Pv 0 σ H) (hl : ∀ i σ H, i ≤ xs.length → Pv i σ H → SqL K H a xs)
    (hs : ∀ i x T σ H, xs[i]? = some x → Pv i σ H → H T = none → g (.ref T) σ (upd H T (.tup [.int (i : Nat), x])) fun σ2 H2 => tb { D with nx := Pv (i + 1), ct := Pv (i + 1), bk := D.nx } σ2 H2) (hd : ∀ σ H, Pv xs.length σ H → D.nx σ H) :
    ∃ W : Nat → Nat → L2.St → Hp → Prop, (∃ m, W 0 m σ H) ∧ ∀ i m σ H, W i m σ H →
      ((Ite K a).stop i H ∧ D.nx σ H) ∨ ((Ite K a).go i H ∧ ∃ N : L2.St → Hp → Prop, (∀ σ' H', N σ' H' → ∃ m', m' < m ∧ W (i + 1) m' σ' H') ∧ ∀ x H', (Ite K a).yld i H x H' → g x σ H' fun σ2 H2 => tb { D with nx := N, ct := N, bk := D.nx } σ2 H2) := by
  refine ⟨fun i m σ H => m = xs.length - i ∧ i ≤ xs.length ∧ Pv i σ H, ⟨_, rfl, Nat.zero_le _, h0⟩, ?_⟩
  rintro i m σ H ⟨rfl, hi, p⟩
  have sq := hl i σ H hi p
  by_cases c : i < xs.length
  · refine .inr ⟨⟨xs, xs[i], sq, by simp [c]⟩, Pv (i + 1), fun σ' H' p' => ⟨xs.length - (i + 1), by omega, rfl, c, p'⟩, fun x H' y => ?_⟩
    obtain ⟨T, z, rfl, hT, rfl, hx⟩ := y
    exact hs i z T σ H (hx xs sq) p hT
  · have e : i = xs.length := by omega
    subst e
    exact .inl ⟨⟨xs, sq, Nat.le_refl _⟩, hd σ H p⟩
theorem cut_ints2 (ns : List Int) (lo hi : Option Int) : ∃ ms : List Int, cutV (ns.map V.int) lo hi = ms.map V.int ∧ (∀ z ∈ ms, z ∈ ns) ∧ ms.length ≤ ns.length := by
  unfold cutV
  refine ⟨_, cut_map V.int ns _ _, fun z hz => List.mem_of_mem_drop (List.mem_of_mem_take hz), ?_⟩
  rw [List.length_take, List.length_drop]
  omega
def BrT (H : Hp) (ps : List (Addr × Brick)) : Prop := ∀ p ∈ ps, H p.1 = some (.tup p.2.vs)
theorem BrT.mono {H H' : Hp} {ps : List (Addr × Brick)} (h : BrT H ps) (sm : Same H H') : BrT H' ps := fun p hp => sm _ _ (h p hp)
theorem BrT.all {K : PySem.W.Frag} {H : Hp} {ps : List (Addr × Brick)} (h : BrT H ps) : BrAll K H ps := fun p hp => sqT (h p hp)
theorem BrT.app {H : Hp} {a b : List (Addr × Brick)} (h : BrT H a) (k : BrT H b) : BrT H (a ++ b) := fun p hp => by
  rcases List.mem_append.mp hp with z | z
  · exact h p z
  · exact k p z
theorem BrT.one {H : Hp} {p : Addr} {b : Brick} (h : H p = some (.tup b.vs)) : BrT H [(p, b)] := fun q hq => by
  obtain rfl := List.mem_singleton.mp hq
  exact h
theorem BrT.sub {H : Hp} {a b : List (Addr × Brick)} (h : BrT H a) (k : ∀ p ∈ b, p ∈ a) : BrT H b := fun p hp => h p (k p hp)
/-- a list is changed: bricks stay -/
theorem BrT.lst {H : Hp} {F : Addr} {xs : List V} {o : HO} {ps : List (Addr × Brick)} (h : BrT H ps) (e : H F = some (.lst xs)) : BrT (upd H F o) ps := fun p hp => by
  have z := h p hp
  rw [upd_ne (ne_of z e (by intro z; cases z))]
  exact z
/-- a list that H does not know is changed -/
theorem same_mut {H H' : Hp} {F : Addr} {o : HO} (sm : Same H H') (n : H F = none) : Same H (upd H' F o) := fun b u e => by
  rw [upd_ne (ne_of_none e n)]
  exact sm b u e
/-- a tuple where a list is changed -/
theorem keepT {H : Hp} {F t : Addr} {xs ys : List V} {o : HO} (h : H t = some (.tup xs)) (e : H F = some (.lst ys)) : (upd H F o) t = some (.tup xs) := by
  rw [upd_ne (ne_of h e (by intro z; cases z))]
  exact h
/-- one more brick in a comprehension's list -/
theorem lc_brick {H2 H3 : Hp} {D p4 : Addr} {ds : List (Addr × Brick)} {b : Brick} {j : Nat} (hD : H2 D = none) (sm3 : Same H2 H3) (eD : H3 D = some (.lst (refs ds))) (hds : BrT H3 ds) (hj : ds.length = j) (hp4 : H3 p4 = none) (hn : j < 1000) :
    ∃ acc, (upd H3 p4 (.tup b.vs)) D = some (.lst acc) ∧ acc.length < sizeLine ∧ Same H2 (upd (upd H3 p4 (.tup b.vs)) D (.lst (acc ++ [.ref p4]))) ∧ ∃ es, (upd (upd H3 p4 (.tup b.vs)) D (.lst (acc ++ [.ref p4]))) D = some (.lst (refs es)) ∧ BrT (upd (upd H3 p4 (.tup b.vs)) D (.lst (acc ++ [.ref p4]))) es ∧ es.length = j + 1 := by
  have e4 := same_upd (o := .tup b.vs) hp4 _ _ eD
  refine ⟨refs ds, e4, ?_, same_mut (sm3.trans (same_upd hp4)) hD, ds ++ [(p4, b)], ?_, ?_, ?_⟩
  · rw [refs_len, hj]
    exact Nat.lt_trans hn (by decide)
  · rw [upd_same, refs_app]
    rfl
  · exact ((hds.mono (same_upd hp4)).app (.one upd_same)).lst e4
  · rw [List.length_append, hj]
    rfl
/-- what _law_bricks hands back -/
inductive SpBricks (K : PySem.W.Frag) : Sp where
  | mk {a : Addr} {ns : List Int} {H : Hp} {Q : VK} {E : XK} (hb : ∀ z ∈ ns, Builtin.Int.intBits z ≤ 1048576) (hl : ns.length ≤ 63) (hS : SqL K H a (ns.map V.int))
      (q : ∀ p fl F L W f s ps H', Same H H' → H F = none → H' p = some (.tup [.ref fl, .int f, .int s, .ref F]) → H' fl = some (.tup [.int L, .int W]) → H' F = some (.lst (refs ps)) → BrT H' ps → (0 < ps.length ∧ ps.length ≤ 200) → (0 < L ∧ L ≤ 20) → (0 < W ∧ W ≤ 20) → (0 < f ∧ f ≤ 3) → (0 < s ∧ s ≤ 3) → Q (.ref p) H') :
    SpBricks K [.ref a] H Q E
inductive BrM (a : Addr) (H : Hp) : L2.St → Hp → Prop where
  | mk {H' : Hp} {cl : Addr} {cs : List Int} (sm : Same H H') (hc : H' cl = some (.lst (cs.map V.int))) (hb : ∀ z ∈ cs, Builtin.Int.intBits z ≤ 1048576) (hl : cs.length ≤ 63) :
    BrM a H [some (.ref a), some (.ref cl), none, none, none, none, none, none, none, none, none, none, none, none, none, none, none, none, none, none] H'
inductive BrI (a cl tl : Addr) (ts : List Int) (wh f s : Int) (H : Hp) (n : Nat) : L2.St → Hp → Prop where
  | mk {H' : Hp} {fl F : Addr} {ps : List (Addr × Brick)} {L W : Int} {y5 y6 y9 y10 y11 y12 y13 y14 y15 y16 y17 y18 y19 : Option V} (sm : Same H H') (nF : H F = none) (eF : H' F = some (.lst (refs ps))) (hb : BrT H' ps) (hp : 0 < ps.length ∧ ps.length ≤ n)
      (hfl : H' fl = some (.tup [.int L, .int W])) (hL : 0 < L ∧ L ≤ 20) (hW : 0 < W ∧ W ≤ 20) (hc : H' tl = some (.lst (ts.map V.int))) (nc : tl ≠ F) :
    BrI a cl tl ts wh f s H n [some (.ref a), some (.ref cl), some (.int wh), some (.int f), some (.int s), y5, y6, some (.ref fl), some (.ref F), y9, y10, y11, y12, y13, y14, y15, y16, y17, y18, y19] H'
inductive BrK (a cl tl : Addr) (ts : List Int) (wh f s : Int) (H : Hp) (n : Nat) (pl ki : Int) (o st : Addr) (bo bs : Brick) : L2.St → Hp → Prop where
  | mk {H' : Hp} {fl F : Addr} {ps : List (Addr × Brick)} {L W : Int} {y5 y6 y9 y10 y11 y12 y16 y18 y19 : Option V} (sm : Same H H') (nF : H F = none) (eF : H' F = some (.lst (refs ps))) (hb : BrT H' ps) (hp : 0 < ps.length ∧ ps.length ≤ n)
      (hfl : H' fl = some (.tup [.int L, .int W])) (hL : 0 < L ∧ L ≤ 20) (hW : 0 < W ∧ W ≤ 20) (hc : H' tl = some (.lst (ts.map V.int))) (nc : tl ≠ F) (h0 : 0 ≤ pl) (hpl : ki = 0 ∨ pl < ps.length) (ho : H' o = some (.tup bo.vs)) (hst : H' st = some (.tup bs.vs)) :
    BrK a cl tl ts wh f s H n pl ki o st bo bs [some (.ref a), some (.ref cl), some (.int wh), some (.int f), some (.int s), y5, y6, some (.ref fl), some (.ref F), y9, y10, y11, y12, some (.int pl), some (.int ki), some (.ref o), y16, some (.ref st), y18, y19] H'
theorem at_refs {ps : List (Addr × Brick)} {k : Int} (h0 : 0 ≤ k) (h1 : k < ps.length) : ∃ pb, pb ∈ ps ∧ ps[k.toNat]? = some pb ∧ atI (refs ps) k = some (.ref pb.1) := by
  obtain ⟨n, rfl⟩ := Int.eq_ofNat_of_zero_le h0
  have hlt : n < ps.length := by omega
  refine ⟨ps[n], List.getElem_mem hlt, by rw [Int.toNat_natCast]; exact List.getElem?_eq_getElem hlt, atI_nat ?_⟩
  unfold refs
  rw [List.getElem?_map, List.getElem?_eq_getElem hlt]
  rfl
theorem erase_refs {α : Type} : ∀ (ps : List (Addr × α)) (n : Nat), (refs ps).eraseIdx n = refs (ps.eraseIdx n)
  | [], _ => rfl
  | _ :: _, 0 => rfl
  | p :: ps, n + 1 => by
    show V.ref p.1 :: (refs ps).eraseIdx n = V.ref p.1 :: refs (ps.eraseIdx n)
    rw [erase_refs ps n]
theorem seq_ix {n k : Nat} (h : k < n) : seqIndex? (k : Int) n = some k := by
  unfold seqIndex?
  simp
  omega
inductive BrE (a cl fl F : Addr) (cs : List Int) (wh f s fw ls L W : Int) (H : Hp) (i : Nat) : L2.St → Hp → Prop where
  | mk {H' : Hp} {ps : List (Addr × Brick)} {y9 : Option V} (sm : Same H H') (eF : H' F = some (.lst (refs ps))) (hb : BrT H' ps) (hp : ps.length = i * ls.toNat) (hfl : H' fl = some (.tup [.int L, .int W])) (hc : H' cl = some (.lst (cs.map V.int))) :
    BrE a cl fl F cs wh f s fw ls L W H i [some (.ref a), some (.ref cl), some (.int wh), some (.int f), some (.int s), some (.int fw), some (.int ls), some (.ref fl), some (.ref F), y9, none, none, none, none, none, none, none, none, none, none] H'
section
variable {P : Program} {w : World} {K : PySem.W.Frag} {mg : Str → Option Value} {base : Heap}
theorem H__law_bricks (p : Pl K mg "_law_bricks" s__law_bricks) (B : Bi mg) (h__law_number : Has P w K mg base CX0 1 "_law_number" ["_law_cell", "_law_at", "_law_whole_here"] SpNumber) : Has P w K mg base CX0 2 "_law_bricks" ["_law_script"] (SpBricks K) := by
  refine p.mk0 sc__law_bricks (fun _ _ _ _ _ _ us hl => match us, hl with | [_], _ => rfl) (fun vs H Q E h => ?_) (fun f cdv A outer s H vs Q E hr h => ?_)
  · cases h; rfl
  · obtain @⟨a, ns, _, _, _, hbits, hl, hS, q⟩ := h
    refine ⟨_, (Evl.pss_cut (ps_set (i := 1) sc__law_bricks.nd rfl (Or.inl rfl) (pe_ifExp (pt_cmpR (r := rNeD K) (op_neD hr.units) (pv 0) (pe_lst pa_nil) (nomark _)) (pe_slice sl_list (pv 0) po_none (po_some pe_int)) (pe_lst (pa_cons pe_int pa_nil))))
      (pss_cons (ps_set (i := 2) sc__law_bricks.nd rfl (Or.inl rfl) (pe_callB (cr_sum rfl) (by rfl) B.sum (by decide +kernel) (pa_cons (pv 1) pa_nil)))
      (pss_cons (ps_asg (pe_tup (pa_cons (pe_op op_add pe_int (pe_op op_mod (pv 2) pe_int)) (pa_cons (pe_op op_add pe_int (pe_op op_mod (pe_op op_fdivW (pv 2) pe_int) pe_int)) pa_nil))) (pg_tup (by rfl) (pgs_cons (pg_name (i := 3) sc__law_bricks.nd rfl (Or.inr rfl)) (pgs_cons (pg_name (i := 4) sc__law_bricks.nd rfl (Or.inr rfl)) pgs_nil))))
      (pss_cons (ps_par (i := 5) (j := 6) (by rfl) sc__law_bricks.nd rfl rfl (by decide) rfl rfl (pa_cons (pe_op op_add pe_int (pe_op op_mod (pe_op op_fdivW (pv 2) pe_int) pe_int)) (pa_cons (pe_op op_add pe_int (pe_op op_mod (pe_op op_fdivW (pv 2) pe_int) pe_int)) pa_nil)) (by rfl))
      (pss_cons (ps_set (i := 7) sc__law_bricks.nd rfl (Or.inl rfl) (pe_tup (pa_cons (pe_op op_mulX (pv 3) (pv 5)) (pa_cons (pe_op op_mulX (pv 4) (pv 6)) pa_nil))))
      (pss_cons (ps_set (i := 8) sc__law_bricks.nd rfl (Or.inl rfl) (pe_lst pa_nil))
      (pss_cons (ps_for PassesOwn.never (by rfl) (pi_range1 (by rfl) B.range (pa_cons (pv 5) pa_nil)) (pg_name (i := 9) sc__law_bricks.nd rfl (Or.inr rfl)) (pss_one (ps_expr (pe_bm PySem.F.plainAttrs_list PySem.F.slot_list_extend PySem.F.type_list_extend mt_extend (pv 8) (pa_cons (pe_lc (own := [("_law_up", 18)]) (by rfl) sc__law_bricks.nd (pi_range1 (by rfl) B.range (pa_cons (pv 6) pa_nil)) (blkOk_by (own := [("_law_up", 18)]) (N := ["_law_script", "_law_cells", "_law_whole_here", "_law_first", "_law_second", "_law_few", "_law_less", "_law_floor", "_law_found", "_law_along", "_law_at", "_law_cell", "_law_number_here", "_law_place", "_law_kind", "_law_brick", "_law_far", "_law_strange", "_law_up", "_law_lies"]) (sc := defScope s__law_bricks) (by decide +kernel)) (fun _ _ _ _ _ => (pg_name (i := 18) sc__law_bricks.nd rfl (Or.inl rfl))) (fun _ _ _ _ _ => pts_nil) (fun _ _ _ _ _ => (pe_tup (pa_cons (pe_op op_mulX (pv 3) (pv 9)) (pa_cons (pe_op op_mulX (pv 4) (pv 18)) (pa_cons pe_bl pa_nil)))))) pa_nil)))))
      (Evl.pss_cut (ps_if (pt_cmpR op_gt (pe_op op_mod (pe_op op_fdivW (pv 2) pe_int) pe_int) pe_int (nomark _)) (pss_cons (ps_set (i := 7) sc__law_bricks.nd rfl (Or.inl rfl) (pe_tup (pa_cons (pe_op op_mulX (pv 3) (pv 4)) (pa_cons (pe_op op_add (pv 3) (pv 4)) pa_nil))))
      (pss_cons (ps_setLc (i := 8) (own := [("_law_at", 10)]) (by rfl) sc__law_bricks.nd rfl rfl (sw_true rfl rfl rfl (by decide +kernel)) (pi_range1 (by rfl) B.range (pa_cons (pv 4) pa_nil)) (blkOk_by (own := [("_law_at", 10)]) (N := ["_law_script", "_law_cells", "_law_whole_here", "_law_first", "_law_second", "_law_few", "_law_less", "_law_floor", "_law_found", "_law_along", "_law_at", "_law_cell", "_law_number_here", "_law_place", "_law_kind", "_law_brick", "_law_far", "_law_strange", "_law_up", "_law_lies"]) (sc := defScope s__law_bricks) (by decide +kernel)) (fun _ _ _ _ _ => (pg_name (i := 10) sc__law_bricks.nd rfl (Or.inl rfl))) (fun _ _ _ _ _ => pts_nil) (fun _ _ _ _ _ => (pe_tup (pa_cons (pe_op op_mulX (pv 3) (pv 10)) (pa_cons pe_int (pa_cons pe_bl pa_nil))))))
      (pss_one (ps_set (i := 8) sc__law_bricks.nd rfl (Or.inl rfl) (pe_op op_cat (pv 8) (pe_lc (own := [("_law_at", 10)]) (by rfl) sc__law_bricks.nd (pi_range1 (by rfl) B.range (pa_cons (pv 3) pa_nil)) (blkOk_by (own := [("_law_at", 10)]) (N := ["_law_script", "_law_cells", "_law_whole_here", "_law_first", "_law_second", "_law_few", "_law_less", "_law_floor", "_law_found", "_law_along", "_law_at", "_law_cell", "_law_number_here", "_law_place", "_law_kind", "_law_brick", "_law_far", "_law_strange", "_law_up", "_law_lies"]) (sc := defScope s__law_bricks) (by decide +kernel)) (fun _ _ _ _ _ => (pg_name (i := 10) sc__law_bricks.nd rfl (Or.inl rfl))) (fun _ _ _ _ _ => pts_nil) (fun _ _ _ _ _ => (pe_tup (pa_cons (pe_op op_mulX (pv 4) (pv 10)) (pa_cons (pv 4) (pa_cons pe_bl pa_nil))))))))))) pss_nil)
      (Evl.pss_cut (ps_if (pt_cmpR op_eq (pe_op op_mod (pe_op op_fdivW (pv 2) pe_int) pe_int) pe_int (nomark _)) (pss_cons (ps_set (i := 7) sc__law_bricks.nd rfl (Or.inl rfl) (pe_tup (pa_cons (pe_ix (r := rIxT K) ix_tup (pv 7) pe_int (fun _ _ => rfl)) (pa_cons (pe_ix (r := rIxT K) ix_tup (pv 7) pe_int (fun _ _ => rfl)) pa_nil))))
      (pss_one (ps_setLc (i := 8) (own := [("_law_along", 9), ("_law_up", 18), ("_law_lies", 19)]) (g := (gTup K 3 (gCons (gName 9) (gCons (gName 18) (gCons (gName 19) gNil))))) (by rfl) sc__law_bricks.nd rfl rfl (sw_true rfl rfl rfl (by decide +kernel)) (pi_list (pv 8)) (blkOk_by (own := [("_law_along", 9), ("_law_up", 18), ("_law_lies", 19)]) (N := ["_law_script", "_law_cells", "_law_whole_here", "_law_first", "_law_second", "_law_few", "_law_less", "_law_floor", "_law_found", "_law_along", "_law_at", "_law_cell", "_law_number_here", "_law_place", "_law_kind", "_law_brick", "_law_far", "_law_strange", "_law_up", "_law_lies"]) (sc := defScope s__law_bricks) (by decide +kernel)) (fun _ _ _ _ _ => (pg_tup (by rfl) (pgs_cons (pg_name (i := 9) sc__law_bricks.nd rfl (Or.inl rfl)) (pgs_cons (pg_name (i := 18) sc__law_bricks.nd rfl (Or.inl rfl)) (pgs_cons (pg_name (i := 19) sc__law_bricks.nd rfl (Or.inl rfl)) pgs_nil))))) (fun _ _ _ _ _ => pts_nil) (fun _ _ _ _ _ => (pe_tup (pa_cons (pv 18) (pa_cons (pv 9) (pa_cons (pe_not (pv 19)) pa_nil)))))))) pss_nil)
      (pss_cons (ps_for PassesOwn.never (by rfl) (pi_enum (by rfl) B.enumerate (pa_cons (pe_slice sl_list (pv 1) po_none (po_some (pe_op op_mod (pe_op op_fdivW (pv 2) pe_int) pe_int))) pa_nil)) (pg_tup (by rfl) (pgs_cons (pg_name (i := 10) sc__law_bricks.nd rfl (Or.inl rfl)) (pgs_cons (pg_name (i := 11) sc__law_bricks.nd rfl (Or.inl rfl)) pgs_nil))) (pss_cons (ps_set (i := 12) sc__law_bricks.nd rfl (Or.inl rfl) (pe_fn h__law_number (hr.mono (by decide)) pass0 (pa_cons (pv 11) (pa_cons (pv 10) (pa_cons (pv 2) pa_nil)))))
      (pss_cons (ps_par (i := 13) (j := 14) (by rfl) sc__law_bricks.nd rfl rfl (by decide) rfl rfl (pa_cons (pe_op op_mod (pe_op op_fdivW (pv 12) pe_int) (pe_callB (r := rLen2 K) call_len_seq (by rfl) B.len PySem.boot_len (pa_cons (pv 8) pa_nil))) (pa_cons (pe_op op_mod (pv 12) pe_int) pa_nil)) (by rfl))
      (pss_cons (ps_set (i := 15) sc__law_bricks.nd rfl (Or.inl rfl) (pe_ix (r := rIxL K) ix_list (pv 8) (pv 13) (fun _ _ => rfl)))
      (Evl.pss_cut (ps_set (i := 16) sc__law_bricks.nd rfl (Or.inl rfl) (pe_ifExp (pt_cmpR op_eq (pe_op op_mod (pe_op op_fdivW (pv 12) pe_int) pe_int) pe_int (nomark _)) (pe_op op_pow pe_int pe_int) pe_int))
      (pss_cons (ps_set (i := 17) sc__law_bricks.nd rfl (Or.inl rfl) (pe_tup (pa_cons (pe_op op_add (pe_ix (r := rIxT K) ix_tup (pv 15) pe_int (fun _ _ => rfl)) (pe_op op_mulX (pe_op op_sub (pe_op op_mod (pe_op op_fdivW (pv 12) pe_int) pe_int) pe_int) (pv 16))) (pa_cons (pe_op op_sub (pe_op op_add (pe_ix (r := rIxT K) ix_tup (pv 15) pe_int (fun _ _ => rfl)) (pe_op op_mod (pe_op op_fdivW (pv 12) pe_int) pe_int)) pe_int) (pa_cons (pe_cmpR op_eq (pe_op op_mod (pe_op op_fdivW (pv 12) pe_int) pe_int) pe_int (nomark _)) pa_nil)))))
      (Evl.pss_cut (ps_if (PW.pt (pw_and (pt_cmpR op_eq (pv 14) pe_int (nomark _)) (pw_and1 (pt_cmpR op_gt (pe_callB (r := rLen2 K) call_len_seq (by rfl) B.len PySem.boot_len (pa_cons (pv 8) pa_nil)) pe_int (nomark _))))) (pss_one (ps_expr (pe_bm PySem.F.plainAttrs_list PySem.F.slot_list_pop PySem.F.type_list_pop mt_popAt (pv 8) (pa_cons (pv 13) pa_nil)))) pss_nil)
      (Evl.pss_cut (ps_if (pt_cmpR (r := rIn K false) op_in_seq (pv 14) (pe_lst (pa_cons pe_int (pa_cons pe_int pa_nil))) (by rfl)) (pss_one (ps_asg (pv 17) (pg_sub (pv 8) (pv 13) set_list))) pss_nil)
      (Evl.pss_cut (ps_if (pt_cmpR op_eq (pv 14) pe_int (nomark _)) (pss_one (ps_expr (pe_bm PySem.F.plainAttrs_list PySem.F.slot_list_append PySem.F.type_list_append mt_append (pv 8) (pa_cons (pv 17) pa_nil)))) pss_nil)
      (Evl.pss_cut (ps_if (pt_cmpR op_eq (pv 14) pe_int (nomark _)) (pss_one (ps_expr (pe_bm PySem.F.plainAttrs_list PySem.F.slot_list_append PySem.F.type_list_append mt_append (pv 8) (pa_cons (pv 15) pa_nil)))) pss_nil)
      (pss_one (ps_if (pt_cmpR op_eq (pv 14) pe_int (nomark _)) (pss_one (ps_set (i := 8) sc__law_bricks.nd rfl (Or.inl rfl) (pe_revL (pv 8)))) pss_nil))))))))))))
      (pss_one (ps_ret (pe_tup (pa_cons (pv 7) (pa_cons (pv 3) (pa_cons (pv 4) (pa_cons (pv 8) pa_nil))))))))))))))))), ?_⟩
    refine ⟨BrM a H, ?_, ?_⟩
    · walk_at "rd"
      intro l1 hl1
      refine ⟨.list (ns.map .int), .list [], .lst ((same_upd hl1).seq hS) (dp_ints ns), .lst (sqL upd_same) .nil, shp_ints ns, rfl, _, rfl, ?_⟩
      rw [ne_nil]
      have sm1 := same_upd (o := .lst []) hl1
      generalize upd H l1 (.lst []) = H1 at sm1 ⊢
      refine iteB (fun _ => ?_) (fun _ => ?_)
      · refine ⟨_, rfl, 40, rfl, a, _, rfl, sm1.seq hS, fun p1 hp1 => ?_⟩
        obtain ⟨ms, ems, hms, hml⟩ := cut_ints2 ns none (some 40)
        exact .mk (cs := ms) (sm1.trans (same_upd hp1)) (by rw [upd_same, ems]) (fun z hz => hbits z (hms z hz)) (by omega)
      · walk_at "rd"
        intro p1 hp1
        exact .mk (cs := [3]) (sm1.trans (same_upd hp1)) upd_same (fun z hz => by
          obtain rfl := List.mem_singleton.mp hz
          decide) (by decide)
    rintro _ H1 @⟨_, cl, cs, sm1, hc1, hcb, hcl⟩
    refine ⟨_, rfl, cl, cs, rfl, sqL hc1, ?_⟩
    generalize hwh : cs.sum = wh
    walk_at "rd"
    intro t1 ht1
    have hc2 := same_upd (o := .tup [.int (1 + wh % 3), .int (1 + wh / 3 % 3)]) ht1 _ _ hc1
    refine ⟨t1, _, rfl, sqT upd_same, rfl, ?_⟩
    have sm2 : Same H (upd H1 t1 (.tup [.int (1 + wh % 3), .int (1 + wh / 3 % 3)])) := sm1.trans (same_upd ht1)
    generalize hH2 : upd H1 t1 _ = H2
    have sm2 : Same H H2 := by rw [← hH2]; exact sm2
    have hc2 : H2 cl = some (.lst (cs.map V.int)) := by rw [← hH2]; exact hc2
    clear hH2
    have hf : 0 < 1 + wh % 3 ∧ 1 + wh % 3 ≤ 3 := by omega
    have hs : 0 < 1 + wh / 3 % 3 ∧ 1 + wh / 3 % 3 ≤ 3 := by omega
    have hw : 0 < 1 + wh / 9 % 3 ∧ 1 + wh / 9 % 3 ≤ 3 := by omega
    have hz : 0 < 1 + wh / 36 % 3 ∧ 1 + wh / 36 % 3 ≤ 3 := by omega
    walk_at "rd"
    intro fl hfl
    generalize hH3 : upd H2 fl _ = H3
    obtain ⟨sm3, up3⟩ : Same H2 H3 ∧ H3 fl = some (.tup [.int ((1 + wh % 3) * (1 + wh / 9 % 3)), .int ((1 + wh / 3 % 3) * (1 + wh / 36 % 3))]) := newH hH3 hfl
    clear hH3
    walk_at "rd"
    intro F hF
    have nFH : H F = none := (sm2.trans sm3).free hF
    generalize hH4 : upd H3 F _ = H4
    obtain ⟨sm4, up4⟩ : Same H3 H4 ∧ H4 F = some (.lst (refs ([] : List (Addr × Brick)))) := newH hH4 hF
    clear hH4
    have smH4 : Same H H4 := sm2.trans (sm3.trans sm4)
    obtain ⟨fi, hfi⟩ : ∃ fi, fi = 1 + wh % 3 := ⟨_, rfl⟩
    obtain ⟨se, hse⟩ : ∃ se, se = 1 + wh / 3 % 3 := ⟨_, rfl⟩
    obtain ⟨fw, hfw⟩ : ∃ fw, fw = 1 + wh / 9 % 3 := ⟨_, rfl⟩
    obtain ⟨ls, hls⟩ : ∃ ls, ls = 1 + wh / 36 % 3 := ⟨_, rfl⟩
    rw [← hfi, ← hse, ← hfw, ← hls] at up3
    have bfi : Bn 20 fi := bnl (by omega)
    have bse : Bn 20 se := bnl (by omega)
    have hc4 := sm4 _ _ (sm3 _ _ hc2)
    have up34 := sm4 _ _ up3
    have nclF : cl ≠ F := ne_of_none (sm3 _ _ hc2) hF
    refine ⟨_, rfl, _, rfl, by omega, by omega, for_range (lo := 0) (n := _) (fun i σ H' => BrE a cl fl F cs wh fi se fw ls (fi * fw) (se * ls) H i σ H') (by rw [hfi, hse, hfw, hls]; rw [hfi, hse, hfw, hls] at up34; exact .mk (ps := []) smH4 up4 (fun p hp => nomatch hp) (by simp) up34 hc4) ?_ ?_⟩
    · rintro i _ H5 hi @⟨_, ps, _, sm5, eF, hb, hp, hfl5, hc5⟩
      have bi : Bn 20 (0 + (i : Int)) := bnl (by omega)
      refine ⟨_, rfl, .inl ⟨rfl, _, sqL eF⟩, _, rfl, _, rfl, by omega, by omega, fun D hD => ?_⟩
      refine lc_range (lo := 0) (n := _) (fun j H' => Same H5 H' ∧ ∃ ds, H' D = some (.lst (refs ds)) ∧ BrT H' ds ∧ ds.length = j) ⟨same_upd hD, [], upd_same, (fun p hp => nomatch hp), rfl⟩ ?_ ?_
      · rintro j H6 hj ⟨sm6, ds, eD, hds, hdl⟩
        have bj : Bn 20 (0 + (j : Int)) := bnl (by omega)
        refine ⟨rfl, lc_yes ?_⟩
        walk_at "rd"
        intro p4 hp4
        exact lc_brick (b := ⟨fi * (0 + (i : Int)), se * (0 + (j : Int)), true⟩) hD sm6 eD hds hdl hp4 (by omega)
      · rintro H6 ⟨sm6, ds, eD, hds, hdl⟩
        have eF6 := sm6 _ _ eF
        refine ⟨F, D, _, _, rfl, rfl, eF6, eD, ?_, ?_⟩
        · rw [refs_len, refs_len, hp, hdl]
          exact size4 (mul_add_le (by omega) (by omega))
        · refine .mk (ps := ps ++ ds) (same_mut (sm5.trans sm6) nFH) (by rw [upd_same, refs_app]) (((hb.mono sm6).app hds).lst eF6) (by rw [List.length_append, hp, hdl, Nat.succ_mul]) ?_ ?_
          · rw [upd_ne (ne_of (sm6 _ _ hfl5) eF6 (by intro z; cases z))]
            exact sm6 _ _ hfl5
          · rw [upd_ne nclF]
            exact sm6 _ _ hc5
    · rintro _ H5 @⟨_, ps, _, sm5, eF, hb, hp, hfl5, hc5⟩
      have hpl : 0 < ps.length ∧ ps.length ≤ 9 := by
        have e1 : (1 + wh / 9 % 3).toNat = 1 ∨ (1 + wh / 9 % 3).toNat = 2 ∨ (1 + wh / 9 % 3).toNat = 3 := by omega
        rcases e1 with e | e | e <;> rw [e] at hp <;> omega
      have hL : 0 < fi * fw ∧ fi * fw ≤ 20 := by
        have := mul_in (A := 3) (B := 3) (x := fi) (y := fw) (by omega) (by omega) (by omega) (by omega)
        have := Int.mul_pos (show 0 < fi by omega) (show 0 < fw by omega)
        omega
      have hW : 0 < se * ls ∧ se * ls ≤ 20 := by
        have := mul_in (A := 3) (B := 3) (x := se) (y := ls) (by omega) (by omega) (by omega) (by omega)
        have := Int.mul_pos (show 0 < se by omega) (show 0 < ls by omega)
        omega
      refine ⟨BrI a cl cl cs wh fi se H 20, ?_, ?_⟩
      · walk_at "rd"
        refine iteD (fun _ => ?_) (fun _ => .mk sm5 nFH eF hb (by omega) hfl5 hL hW hc5 nclF)
        walk_at "rd"
        intro fl2 hfl2
        generalize hH6 : upd H5 fl2 _ = H6
        obtain ⟨sm6, up6⟩ : Same H5 H6 ∧ H6 fl2 = some (.tup [.int (fi * se), .int (fi + se)]) := newH hH6 hfl2
        clear hH6
        refine ⟨_, rfl, _, rfl, by omega, by omega, fun D hD => ?_⟩
        refine lc_range (lo := 0) (n := _) (fun j H' => Same H6 H' ∧ ∃ ds, H' D = some (.lst (refs ds)) ∧ BrT H' ds ∧ ds.length = j) ⟨same_upd hD, [], upd_same, (fun p hp => nomatch hp), rfl⟩ ?_ ?_
        · rintro j H7 hj ⟨sm7, ds, eD, hds, hdl⟩
          have bj : Bn 20 (0 + (j : Int)) := bnl (by omega)
          refine ⟨rfl, lc_yes ?_⟩
          walk_at "rd"
          intro p4 hp4
          exact lc_brick (b := ⟨fi * (0 + (j : Int)), 0, true⟩) hD sm7 eD hds hdl hp4 (by omega)
        · rintro H7 ⟨sm7, ds, eD, hds, hdl⟩
          refine ⟨_, rfl, _, rfl, _, rfl, by omega, by omega, fun D2 hD2 => ?_⟩
          refine lc_range (lo := 0) (n := _) (fun j H' => Same H7 H' ∧ ∃ es, H' D2 = some (.lst (refs es)) ∧ BrT H' es ∧ es.length = j) ⟨same_upd hD2, [], upd_same, (fun p hp => nomatch hp), rfl⟩ ?_ ?_
          · rintro j H8 hj ⟨sm8, es, eD2, hes, hel⟩
            have bj : Bn 20 (0 + (j : Int)) := bnl (by omega)
            refine ⟨rfl, lc_yes ?_⟩
            walk_at "rd"
            intro p4 hp4
            exact lc_brick (b := ⟨se * (0 + (j : Int)), se, false⟩) hD2 sm8 eD2 hes hel hp4 (by omega)
          · rintro H8 ⟨sm8, es, eD2, hes, hel⟩
            refine ⟨D, D2, _, _, rfl, rfl, sm8 _ _ eD, eD2, ?_, fun p5 hp5 => ?_⟩
            · rw [refs_len, refs_len, hdl, hel]
              exact size4 (by omega)
            · have smA : Same H5 H8 := sm6.trans (sm7.trans sm8)
              have hL2 : 0 < fi * se ∧ fi * se ≤ 20 := by
                have := mul_in (A := 3) (B := 3) (x := fi) (y := se) (by omega) (by omega) (by omega) (by omega)
                have := Int.mul_pos (show 0 < fi by omega) (show 0 < se by omega)
                omega
              exact .mk (ps := ds ++ es) (sm5.trans (smA.trans (same_upd hp5))) ((sm5.trans smA).free hp5) (by rw [upd_same, refs_app]) (((hds.mono sm8).app hes).mono (same_upd hp5)) (by rw [List.length_append]; omega) (same_upd hp5 _ _ (sm8 _ _ (sm7 _ _ up6))) hL2 (by omega) (same_upd hp5 _ _ (smA _ _ hc5)) (ne_of_none (smA _ _ hc5) hp5)
      · rintro _ H6 @⟨_, fl6, F6, ps6, L6, W6, _, _, _, _, _, _, _, _, _, _, _, _, _, sm6, nF6, eF6, hb6, hp6, hfl6, hL6, hW6, hc6, nc6⟩
        refine ⟨BrI a cl cl cs wh fi se H 20, ?_, ?_⟩
        · walk_at "rd"
          refine iteEq (fun _ => ?_) (fun _ => .mk sm6 nF6 eF6 hb6 hp6 hfl6 hL6 hW6 hc6 nc6)
          refine ⟨_, rfl, fl6, _, 1, _, rfl, rfl, sqT hfl6, rfl, _, rfl, fl6, _, 0, _, rfl, rfl, sqT hfl6, rfl, ?_⟩
          walk_at "rd"
          intro fl7 hfl7
          generalize hH7 : upd H6 fl7 _ = H7
          obtain ⟨sm7, up7⟩ : Same H6 H7 ∧ H7 fl7 = some (.tup [.int W6, .int L6]) := newH hH7 hfl7
          clear hH7
          refine ⟨_, rfl, F6, rfl, ⟨_, sqL (sm7 _ _ eF6)⟩, fun D hD => ?_⟩
          refine lc_list (K := K) (a := F6) (xs := refs ps6) (fun j H' => Same H7 H' ∧ ∃ ds, H' D = some (.lst (refs ds)) ∧ BrT H' ds ∧ ds.length = j) ⟨same_upd hD, [], upd_same, (fun p hp => nomatch hp), rfl⟩ (fun j H' _ ⟨sm, _⟩ => sqL (sm _ _ (sm7 _ _ eF6))) ?_ ?_
          · rintro j v H8 hj ⟨sm8, ds, eD, hds, hdl⟩
            obtain ⟨⟨o, x, y, l⟩, hpb, rfl, hm⟩ := refs_at hj
            have hlt := (List.getElem?_eq_some_iff.mp hpb).1
            refine ⟨o, _, rfl, sqT (sm8 _ _ (sm7 _ _ (hb6 _ hm))), rfl, ?_⟩
            walk_at "rd"
            intro p4 hp4
            exact lc_brick (b := ⟨y, x, !l⟩) hD sm8 eD hds hdl hp4 (by omega)
          · rintro H8 ⟨sm8, ds, eD, hds, hdl⟩
            rw [refs_len] at hdl
            exact .mk (ps := ds) (sm6.trans (sm7.trans sm8)) ((sm6.trans sm7).free hD) eD hds (by omega) (sm8 _ _ up7) hW6 hL6 (sm8 _ _ (sm7 _ _ hc6)) (ne_of_none (sm7 _ _ hc6) hD)
        · rintro _ H7 @⟨_, fl7, F7, ps7, L7, W7, _, _, _, _, _, _, _, _, _, _, _, _, _, sm7, nF7, eF7, hb7, hp7, hfl7, hL7, hW7, hc7, nc7⟩
          walk_at "rd"
          refine ⟨cl, _, rfl, sqL hc7, fun tl htl => ?_⟩
          obtain ⟨ts, ets, hts, htl2⟩ := cut_ints2 cs none (some (wh / 576 % 4))
          generalize hH8 : upd H7 tl _ = H8
          obtain ⟨sm8, up8⟩ : Same H7 H8 ∧ H8 tl = some (.lst (ts.map V.int)) := by rw [← ets]; exact newH hH8 htl
          clear hH8
          refine ⟨tl, _, rfl, sqL up8, for_enumL (K := K) (a := tl) (xs := ts.map V.int) (fun i σ H' => BrI a cl tl ts wh fi se H (20 + 2 * i) σ H') (.mk (sm7.trans sm8) nF7 (sm8 _ _ eF7) (hb7.mono sm8) (by omega) (sm8 _ _ hfl7) hL7 hW7 up8 (ne_of_none eF7 htl).symm) ?_ ?_ ?_⟩
          · rintro _ _ _ _ ⟨_, _, _, _, _, _, _, _, hc, _⟩
            exact sqL hc
          · rintro i x T _ H9 hx @⟨_, fl9, F9, ps9, L9, W9, _, _, _, _, _, _, _, _, _, _, _, _, _, sm9, nF9, eF9, hb9, hp9, hfl9, hL9, hW9, hc9, nc9⟩ hT
            obtain ⟨c, hcx, rfl⟩ := ints_at hx
            have hic : i < ts.length := (List.getElem?_eq_some_iff.mp hcx).1
            have hcb2 := hcb c (hts c (List.mem_of_getElem? hcx))
            generalize hHa : upd H9 T _ = Ha
            obtain ⟨sma, upa⟩ : Same H9 Ha ∧ Ha T = some (.tup [.int (i : Nat), .int c]) := newH hHa hT
            clear hHa
            replace sm9 := sm9.trans sma
            replace eF9 := sma _ _ eF9
            replace hb9 := hb9.mono sma
            replace hfl9 := sma _ _ hfl9
            replace hc9 := sma _ _ hc9
            refine ⟨T, _, rfl, sqT upa, rfl, ?_⟩
            walk_at "rd"
            refine .mk (bn_bits hcb2) (bnl (n := 10) (by omega)) fun num => ?_
            walk_at "rd"
            refine ⟨F9, _, rfl, .inl (sqL eF9), ?_⟩
            have hlen : 0 < ((refs ps9).length : Int) := by rw [refs_len]; omega
            walk_at "rd"
            have k0 : 0 ≤ num / 6 % ((refs ps9).length : Int) := Int.emod_nonneg _ (Int.ne_of_gt hlen)
            have k1 : num / 6 % ((refs ps9).length : Int) < ps9.length := by
              have := Int.emod_lt_of_pos (num / 6) hlen
              rw [refs_len] at this ⊢
              exact this
            obtain ⟨pb, hpb, hpbi, epb⟩ := at_refs k0 k1
            obtain ⟨o, x, y, l⟩ := pb
            have hob := hb9 _ hpb
            refine ⟨F9, _, _, _, rfl, rfl, sqL eF9, epb, ?_⟩
            refine ⟨fun σ H' => H' = Ha ∧ ∃ (far : Int) (y5 y6 y9 y17 y18 y19 : Option V), Bn 200 far ∧ σ = [some (.ref a), some (.ref cl), some (.int wh), some (.int fi), some (.int se), y5, y6, some (.ref fl9), some (.ref F9), y9, some (.int (i : Nat)), some (.int c), some (.int num), some (.int (num / 6 % ((refs ps9).length : Int))), some (.int (num % 6)), some (.ref o), some (.int far), y17, y18, y19], ?_, ?_⟩
            · walk_at "rd"
              refine iteEq (fun _ => ?_) (fun _ => ?_)
              · walk_at "rd"
                exact ⟨_, _, _, _, _, _, _, bn_of_lt (by decide) (by decide), rfl⟩
              · walk_at "rd"
                exact ⟨_, _, _, _, _, _, _, bn_of_lt (by decide) (by decide), rfl⟩
            rintro _ _ ⟨rfl, far, _, _, _, _, _, _, bfar, rfl⟩
            have b3 : Bn 20 (num / 40 % 3 - 1) := bnl (by omega)
            refine ⟨_, rfl, o, _, 0, _, rfl, rfl, sqT hob, rfl, ?_⟩
            walk_at "rd"
            refine ⟨o, _, 1, _, rfl, rfl, sqT hob, rfl, ?_⟩
            walk_at "rd"
            intro st hst
            generalize hHb : upd _ st _ = Hb
            obtain ⟨smb, upb⟩ : Same _ Hb ∧ Hb st = some (.tup (Brick.vs ⟨x + (num / 40 % 3 - 1) * far, y + num / 120 % 3 - 1, decide (V.int (num / 360 % 2) = V.int 0)⟩)) := newH hHb hst
            clear hHb
            generalize hbst : (⟨x + (num / 40 % 3 - 1) * far, y + num / 120 % 3 - 1, decide (V.int (num / 360 % 2) = V.int 0)⟩ : Brick) = bst at upb
            generalize hbo : (⟨x, y, l⟩ : Brick) = bo at hob
            generalize hpl : num / 6 % ((refs ps9).length : Int) = pl at k0 k1 hpbi ⊢
            generalize hki : num % 6 = ki
            refine ⟨BrK a cl tl ts wh fi se H (20 + 2 * i) pl ki o st bo bst, ?_, ?_⟩
            · have eFb := smb _ _ eF9
              walk_at "rd"
              refine iteEq (fun ck => ?_) (fun _ => .mk (sm9.trans smb) nF9 eFb (hb9.mono smb) (by omega) (smb _ _ hfl9) hL9 hW9 (smb _ _ hc9) nc9 k0 (.inr k1) (smb _ _ hob) upb)
              refine ⟨_, rfl, F9, _, rfl, .inl (sqL eFb), ?_⟩
              walk_at "rd"
              refine iteD (fun c1 => ?_) (fun _ => .mk (sm9.trans smb) nF9 eFb (hb9.mono smb) (by omega) (smb _ _ hfl9) hL9 hW9 (smb _ _ hc9) nc9 k0 (.inr k1) (smb _ _ hob) upb)
              have c1 : (1 : Int) < ((refs ps9).length : Int) := c1
              rw [refs_len] at c1
              obtain ⟨n, rfl⟩ := Int.eq_ofNat_of_zero_le k0
              have hn : n < ps9.length := by omega
              have hnr : n < (refs ps9).length := by rw [refs_len]; exact hn
              refine ⟨_, rfl, .inl ⟨rfl, _, sqL eFb⟩, _, rfl, F9, _, (n : Int), n, _, rfl, rfl, eFb, by omega, by omega, seq_ix hnr, List.getElem?_eq_getElem hnr, ?_⟩
              have er := erase_refs ps9 n
              refine .mk (ps := ps9.eraseIdx n) (same_mut (sm9.trans smb) nF9) nF9 (by rw [upd_same, er]) (((hb9.mono smb).sub fun p hp => List.mem_of_mem_eraseIdx hp).lst eFb) ?_ (keepT (smb _ _ hfl9) eFb) hL9 hW9 (by rw [upd_ne nc9]; exact smb _ _ hc9) nc9 k0 (.inl ck) (keepT (smb _ _ hob) eFb) (keepT upb eFb)
              rw [List.length_eraseIdx_of_lt hn]
              omega
            · rintro _ Hc @⟨_, flc, Fc, psc, Lc, Wc, _, _, _, _, _, _, _, _, _, smc, nFc, eFc, hbc, hpc, hflc, hLc, hWc, hcc, ncc, h0c, hplc, hoc, hstc⟩
              refine ⟨BrK a cl tl ts wh fi se H (20 + 2 * i) pl ki o st bo bst, ?_, ?_⟩
              · walk_at "rd"
                intro l2 hl2
                refine ⟨l2, _, rfl, .inl (sqL upd_same), rfl, rfl, _, rfl, iteB (fun ck => ?_) (fun _ => .mk (smc.trans (same_upd hl2)) nFc (same_upd hl2 _ _ eFc) (hbc.mono (same_upd hl2)) (by omega) (same_upd hl2 _ _ hflc) hLc hWc (same_upd hl2 _ _ hcc) ncc h0c hplc (same_upd hl2 _ _ hoc) (same_upd hl2 _ _ hstc))⟩
                have kne : ki ≠ 0 := by
                  rintro rfl
                  revert ck
                  decide
                have hpl2 : pl < (psc.length : Int) := hplc.resolve_left kne
                obtain ⟨n, rfl⟩ := Int.eq_ofNat_of_zero_le h0c
                have eFd := same_upd (o := .lst [.int 1, .int 2]) hl2 _ _ eFc
                refine ⟨_, rfl, _, rfl, _, rfl, Fc, _, (n : Int), n, rfl, rfl, eFd, Evl.ixN_nat (by rw [refs_len]; omega), ?_⟩
                have er : (refs psc).set n (.ref st) = refs (psc.set n (st, bst)) := by
                  unfold refs
                  rw [List.map_set]
                have smd := same_upd (o := .lst [.int 1, .int 2]) hl2
                refine .mk (ps := psc.set n (st, bst)) (same_mut (smc.trans smd) nFc) nFc (by rw [upd_same, er]) ?_ (by rw [List.length_set]; omega) (keepT (smd _ _ hflc) eFd) hLc hWc (by rw [upd_ne ncc]; exact smd _ _ hcc) ncc h0c (.inr (by rw [List.length_set]; exact hpl2)) (keepT (smd _ _ hoc) eFd) (keepT (smd _ _ hstc) eFd)
                refine BrT.lst (fun p hp => ?_) eFd
                rcases List.mem_or_eq_of_mem_set hp with z | z
                · exact smd _ _ (hbc p z)
                · rw [z]
                  exact smd _ _ hstc
              · clear smc nFc eFc hbc hpc hflc hLc hWc hcc ncc h0c hplc hoc hstc
                rintro _ Hc @⟨_, flc, Fc, psc, Lc, Wc, _, _, _, _, _, _, _, _, _, smc, nFc, eFc, hbc, hpc, hflc, hLc, hWc, hcc, ncc, h0c, hplc, hoc, hstc⟩
                refine ⟨BrK a cl tl ts wh fi se H (20 + 2 * i + 1) pl ki o st bo bst, ?_, ?_⟩
                · walk_at "rd"
                  refine iteEq (fun ck => ?_) (fun _ => .mk smc nFc eFc hbc (by omega) hflc hLc hWc hcc ncc h0c hplc hoc hstc)
                  refine ⟨_, rfl, .inl ⟨rfl, _, sqL eFc⟩, _, rfl, Fc, _, _, rfl, rfl, eFc, by rw [refs_len]; exact Nat.lt_of_le_of_lt (n := _) (m := 2000) (by omega) (by decide), ?_⟩
                  refine .mk (ps := psc ++ [(st, bst)]) (same_mut smc nFc) nFc (by rw [upd_same, refs_app]; rfl) ((hbc.app (.one hstc)).lst eFc) (by rw [List.length_append]; exact ⟨by omega, Nat.succ_le_succ hpc.2⟩) (keepT hflc eFc) hLc hWc (by rw [upd_ne ncc]; exact hcc) ncc h0c ?_ (keepT hoc eFc) (keepT hstc eFc)
                  rcases hplc with z | z
                  · exact .inl z
                  · refine .inr ?_
                    rw [List.length_append]
                    omega
                · clear smc nFc eFc hbc hpc hflc hLc hWc hcc ncc h0c hplc hoc hstc
                  rintro _ Hc @⟨_, flc, Fc, psc, Lc, Wc, _, _, _, _, _, _, _, _, _, smc, nFc, eFc, hbc, hpc, hflc, hLc, hWc, hcc, ncc, h0c, hplc, hoc, hstc⟩
                  refine ⟨BrK a cl tl ts wh fi se H (20 + 2 * i + 2) pl ki o st bo bst, ?_, ?_⟩
                  · walk_at "rd"
                    refine iteEq (fun ck => ?_) (fun _ => .mk smc nFc eFc hbc (by omega) hflc hLc hWc hcc ncc h0c hplc hoc hstc)
                    refine ⟨_, rfl, .inl ⟨rfl, _, sqL eFc⟩, _, rfl, Fc, _, _, rfl, rfl, eFc, by rw [refs_len]; exact Nat.lt_of_le_of_lt (n := _) (m := 2000) (by omega) (by decide), ?_⟩
                    refine .mk (ps := psc ++ [(o, bo)]) (same_mut smc nFc) nFc (by rw [upd_same, refs_app]; rfl) ((hbc.app (.one hoc)).lst eFc) (by rw [List.length_append]; exact ⟨by omega, Nat.succ_le_succ hpc.2⟩) (keepT hflc eFc) hLc hWc (by rw [upd_ne ncc]; exact hcc) ncc h0c ?_ (keepT hoc eFc) (keepT hstc eFc)
                    rcases hplc with z | z
                    · exact .inl z
                    · refine .inr ?_
                      rw [List.length_append]
                      omega
                  · clear smc nFc eFc hbc hpc hflc hLc hWc hcc ncc h0c hplc hoc hstc
                    rintro _ Hc @⟨_, flc, Fc, psc, Lc, Wc, _, _, _, _, _, _, _, _, _, smc, nFc, eFc, hbc, hpc, hflc, hLc, hWc, hcc, ncc, h0c, hplc, hoc, hstc⟩
                    walk_at "rd"
                    refine iteEq (fun ck => ?_) (fun _ => .mk smc nFc eFc hbc (by omega) hflc hLc hWc hcc ncc)
                    refine ⟨_, rfl, Fc, _, rfl, sqL eFc, fun pr hpr => ?_⟩
                    refine .mk (ps := psc.reverse) (smc.trans (same_upd hpr)) (smc.free hpr) ?_ ((hbc.mono (same_upd hpr)).sub fun p hp => List.mem_reverse.mp hp) (by rw [List.length_reverse]; omega) (same_upd hpr _ _ hflc) hLc hWc (same_upd hpr _ _ hcc) (ne_of_none hcc hpr)
                    rw [upd_same]
                    unfold refs
                    rw [List.map_reverse]
          · rintro _ H9 @⟨_, fl9, F9, ps9, L9, W9, _, _, _, _, _, _, _, _, _, _, _, _, _, sm9, nF9, eF9, hb9, hp9, hfl9, hL9, hW9, hc9, nc9⟩
            rw [List.length_map] at hp9
            walk_at "rd"
            intro pz hpz
            exact q pz fl9 F9 L9 W9 fi se ps9 _ (sm9.trans (same_upd hpz)) nF9 upd_same (same_upd hpz _ _ hfl9) (same_upd hpz _ _ eF9) (hb9.mono (same_upd hpz)) (by omega) hL9 hW9 (by omega) (by omega)
end
end BF

/-! ### judging.py -/
namespace BF
open PySem PySem.Spec PyProof.Rows L2
inductive SpIsBrick : Sp where
  | mk {o : Addr} {b : Brick} {H : Hp} {Q : VK} {E : XK} (ho : H o = some (.tup b.vs)) (q : Q (.bl true) H) : SpIsBrick [.ref o] H Q E
/-- an answer that is as told -/
def IsJ (L W f s : Int) (bs : List Brick) : D5 → Prop
  | .beyond i => beyAt L W f s bs i = true
  | .bare c => bs.any (beyB L W f s) = false ∧ cellB L W c = true ∧ oftN f s bs c = 0
  | .twice c => bs.any (beyB L W f s) = false ∧ cellB L W c = true ∧ 1 < oftN f s bs c
  | .full => bs.any (beyB L W f s) = false ∧ ∀ c, cellB L W c = true → oftN f s bs c = 1
theorem IsJ.due {L W f s : Int} {bs : List Brick} {d : D5} (hL : 0 < L) (hW : 0 < W) (h : IsJ L W f s bs d) : due5 L W f s bs d = true := by
  cases d with
  | beyond i => exact h
  | bare c =>
    show (cellB L W c && decide (oftN f s bs c = 0)) = true
    rw [h.2.1, decide_eq_true h.2.2]
    rfl
  | twice c =>
    show (cellB L W c && decide (1 < oftN f s bs c)) = true
    rw [h.2.1, decide_eq_true h.2.2]
    rfl
  | full =>
    show (!(bs.any (beyB L W f s)) && (gridL L W).all fun c => decide (oftN f s bs c = 1)) = true
    rw [h.1]
    show (gridL L W).all (fun c => decide (oftN f s bs c = 1)) = true
    rw [List.all_eq_true]
    intro c hc
    exact decide_eq_true (h.2 c ((mem_grid (by omega) (by omega)).mp hc))
theorem beyAt_any {L W f s : Int} {bs : List Brick} {i : Int} (h : beyAt L W f s bs i = true) : bs.any (beyB L W f s) = true := by
  unfold beyAt at h
  rw [Bool.and_eq_true] at h
  cases e : bs[i.toNat]? with
  | none => rw [e] at h; exact nomatch h.2
  | some b =>
    rw [e] at h
    exact List.any_eq_true.mpr ⟨b, List.mem_of_getElem? e, h.2⟩
theorem IsJ.full {L W f s : Int} {bs : List Brick} {d : D5} (hL : 0 < L) (hW : 0 < W) (h : IsJ L W f s bs d) : decide (d.cl = .full) = fullB L W f s bs := by
  cases d with
  | beyond i =>
    have e : fullB L W f s bs = false := by
      unfold fullB
      rw [beyAt_any h]
      rfl
    rw [e]
    rfl
  | bare c =>
    have e : fullB L W f s bs = false := by
      apply Bool.eq_false_iff.mpr
      intro z
      unfold fullB at z
      rw [Bool.and_eq_true] at z
      have := of_decide_eq_true (List.all_eq_true.mp z.2 c ((mem_grid (by omega) (by omega)).mpr h.2.1))
      have := h.2.2
      omega
    rw [e]
    rfl
  | twice c =>
    have e : fullB L W f s bs = false := by
      apply Bool.eq_false_iff.mpr
      intro z
      unfold fullB at z
      rw [Bool.and_eq_true] at z
      have := of_decide_eq_true (List.all_eq_true.mp z.2 c ((mem_grid (by omega) (by omega)).mpr h.2.1))
      have := h.2.2
      omega
    rw [e]
    rfl
  | full => exact (show fullB L W f s bs = true from h.due (d := .full) hL hW).symm
inductive SpJudged (K : PySem.W.Frag) : Sp where
  | mk {l : Addr} {ps : List (Addr × Brick)} {L W f s : Int} {H : Hp} {Q : VK} {E : XK} (hL : 0 < L) (hW : 0 < W) (hm : L * W ≤ 400) (hf : 0 < f) (hs : 0 < s) (el : H l = some (.lst (refs ps))) (hb : BrT H ps) (hn : ps.length ≤ 1000)
      (q : ∀ p H' d, Same H H' → At5 K H' p d → IsJ L W f s (vals ps) d → Q (.ref p) H') : SpJudged K [.int L, .int W, .int f, .int s, .ref l] H Q E
inductive JuI (l : Addr) (L W f s : Int) (bs : List Brick) (H : Hp) (i : Nat) : L2.St → Hp → Prop where
  | mk {H' : Hp} {y5 y6 : Option V} (sm : Same H H') (h : ∀ b ∈ bs.take i, beyB L W f s b = false) : JuI l L W f s bs H i [some (.int L), some (.int W), some (.int f), some (.int s), some (.ref l), y5, y6, none, none, none] H'
inductive JuA (l : Addr) (L W f s : Int) (bs : List Brick) (H : Hp) (i : Nat) : L2.St → Hp → Prop where
  | mk {H' : Hp} {y5 y6 y7 y8 y9 : Option V} (sm : Same H H') (h : ∀ x y : Int, 0 ≤ x → x < i → 0 ≤ y → y < W → oftN f s bs (x, y) = 1) : JuA l L W f s bs H i [some (.int L), some (.int W), some (.int f), some (.int s), some (.ref l), y5, y6, y7, y8, y9] H'
inductive JuB (l : Addr) (L W f s : Int) (bs : List Brick) (H : Hp) (x : Int) (j : Nat) : L2.St → Hp → Prop where
  | mk {H' : Hp} {y5 y6 y8 y9 : Option V} (sm : Same H H') (h : ∀ y : Int, 0 ≤ y → y < j → oftN f s bs (x, y) = 1) : JuB l L W f s bs H x j [some (.int L), some (.int W), some (.int f), some (.int s), some (.ref l), y5, y6, some (.int x), y8, y9] H'
section
variable {P : Program} {w : World} {K : PySem.W.Frag} {mg : Str → Option Value} {base : Heap}
theorem H_is_brick (p : Pl K mg "is_brick" s_is_brick) (B : Bi mg) (h_is_number : Has P w K mg base CX0 1 "is_number" ["thing"] (SpIsNumber K)) : Has P w K mg base CX0 2 "is_brick" ["thing"] SpIsBrick := by
  refine p.mk0 sc_is_brick (fun _ _ _ _ _ _ us hl => match us, hl with | [_], _ => rfl) (fun vs H Q E h => ?_) (fun f cdv A outer s H vs Q E hr h => ?_)
  · cases h; rfl
  · obtain @⟨o, ⟨x, y, l⟩, _, _, _, ho, q⟩ := h
    refine ⟨_, (pss_cons (ps_if (PW.pt (pw_or (pt_not (pt_val (pe_callB (r := rIsi K) call_isi (by rfl) B.isinstance (by decide +kernel) (pa_cons (pv 0) (pa_cons (pe_bltn (v := .ty "tuple") (by rfl) B.tuple (by decide +kernel) rfl) pa_nil))))) (pw_or (pt_cmpR op_ne (pe_callB (r := rLen2 K) call_len_seq (by rfl) B.len PySem.boot_len (pa_cons (pv 0) pa_nil)) pe_int (nomark _)) (pw_or1 (pt_not (pt_val (pe_callB (r := rIsi K) call_isi (by rfl) B.isinstance (by decide +kernel) (pa_cons (pe_ix (r := rIxT K) ix_tup (pv 0) pe_int (fun _ _ => rfl)) (pa_cons (pe_bltn (v := .ty "bool") (by rfl) B.bool (by decide +kernel) rfl) pa_nil))))))))) (pss_one (ps_ret pe_bl)) pss_nil)
      (pss_one (ps_ret (pe_and (pe_fn h_is_number (hr.mono (by decide)) pass0 (pa_cons (pe_ix (r := rIxT K) ix_tup (pv 0) pe_int (fun _ _ => rfl)) pa_nil)) (pe_one (pe_fn h_is_number (hr.mono (by decide)) pass0 (pa_cons (pe_ix (r := rIxT K) ix_tup (pv 0) pe_int (fun _ _ => rfl)) pa_nil))))))), ?_⟩
    refine ⟨_, rfl, _, _, _, _, true, rfl, .ty "tuple", .base (.tup ho), kit_ty (by decide +kernel), true, rfl, iteF ?_⟩
    refine ⟨_, rfl, o, _, rfl, .inr (sqT ho), rfl, _, rfl, iteNe (fun z => absurd rfl z) (fun _ => ?_)⟩
    refine ⟨_, rfl, o, _, 2, _, rfl, rfl, sqT ho, rfl, _, _, _, _, true, rfl, .ty "bool", .base (.bl l), kit_ty (by decide +kernel), true, rfl, iteF ?_⟩
    refine ⟨_, rfl, o, _, 0, _, rfl, rfl, sqT ho, rfl, num_int ⟨true, rfl, iteT ?_⟩⟩
    exact ⟨_, rfl, o, _, 1, _, rfl, rfl, sqT ho, rfl, num_int q⟩
theorem H_judged (p : Pl K mg "judged" s_judged) (B : Bi mg) (G : ClG K mg) (CI : ClI P w K mg base) (M_MOST : ∃ t, mg "MOST" = some (.int 400 t)) (h_check_sizes : Has P w K mg base CX0 2 "check_sizes" ["some"] (SpCheckSizes K)) (h_is_brick : Has P w K mg base CX0 2 "is_brick" ["thing"] SpIsBrick)
    (h_is_beyond : Has P w K mg base CX0 1 "is_beyond" ["length", "width", "first", "second", "brick"] (SpBeyond K)) (h_often : Has P w K mg base CX0 2 "often" ["first", "second", "bricks", "cell"] (SpOften K)) : Has P w K mg base CX0 3 "judged" ["length", "width", "first", "second", "bricks"] (SpJudged K) := by
  refine p.mk0 sc_judged (fun _ _ _ _ _ _ us hl => match us, hl with | [_, _, _, _, _], _ => rfl) (fun vs H Q E h => ?_) (fun f cdv A outer s H vs Q E hr h => ?_)
  · cases h; rfl
  · obtain @⟨l, ps, L, W, fi, se, _, _, _, hL, hW, hm, hf, hs, el, hb, hn, q⟩ := h
    refine ⟨_, (pss_cons (ps_expr (pe_fn h_check_sizes (hr.mono (by decide)) pass0 (pa_cons (pe_lst (pa_cons (pv 0) (pa_cons (pv 1) (pa_cons (pv 2) (pa_cons (pv 3) pa_nil))))) pa_nil)))
      (pss_cons (ps_if (pt_cmpR op_gt (pe_op op_mulX (pv 0) (pv 1)) (pe_const (by rfl) M_MOST) (nomark _)) (pss_one ps_never) pss_nil)
      (pss_cons (ps_if (PW.pt (pw_or (pt_not (pt_val (pe_callB (r := rIsi K) call_isi (by rfl) B.isinstance (by decide +kernel) (pa_cons (pv 4) (pa_cons (pe_bltn (v := .ty "list") (by rfl) B.list (by decide +kernel) rfl) pa_nil))))) (pw_or1 (pt_not (pt_val (pe_callB (cr_all rfl) (by rfl) B.all (by decide +kernel) (pa_cons (pe_lc (own := [("brick", 6)]) (by rfl) sc_judged.nd (pi_list (pv 4)) (blkOk_by (own := [("brick", 6)]) (N := ["length", "width", "first", "second", "bricks", "count", "brick", "along", "up", "many"]) (sc := defScope s_judged) (by decide +kernel)) (fun _ _ _ _ _ => (pg_name (i := 6) sc_judged.nd rfl (Or.inl rfl))) (fun _ _ _ _ _ => pts_nil) (fun _ _ _ _ _ => (pe_fn h_is_brick (hr.mono (by decide)) pass0 (pa_cons (pv 6) pa_nil)))) pa_nil))))))) (pss_one ps_never) pss_nil)
      (pss_cons (ps_for PassesOwn.never (by rfl) (pi_enum (by rfl) B.enumerate (pa_cons (pv 4) pa_nil)) (pg_tup (by rfl) (pgs_cons (pg_name (i := 5) sc_judged.nd rfl (Or.inl rfl)) (pgs_cons (pg_name (i := 6) sc_judged.nd rfl (Or.inl rfl)) pgs_nil))) (pss_one (ps_if (pt_val (pe_fn h_is_beyond (hr.mono (by decide)) pass0 (pa_cons (pv 0) (pa_cons (pv 1) (pa_cons (pv 2) (pa_cons (pv 3) (pa_cons (pv 6) pa_nil))))))) (pss_one (ps_ret (pe_mkI (x := .beyond) CI G (by decide) trivial (hr.mono (by decide)) (pa_cons (pv 5) pa_nil)))) pss_nil)))
      (pss_cons (ps_for PassesOwn.never (by rfl) (pi_range1 (by rfl) B.range (pa_cons (pv 0) pa_nil)) (pg_name (i := 7) sc_judged.nd rfl (Or.inl rfl)) (pss_one (ps_for PassesOwn.never (by rfl) (pi_range1 (by rfl) B.range (pa_cons (pv 1) pa_nil)) (pg_name (i := 8) sc_judged.nd rfl (Or.inl rfl)) (pss_cons (ps_set (i := 9) sc_judged.nd rfl (Or.inl rfl) (pe_fn h_often (hr.mono (by decide)) pass0 (pa_cons (pv 2) (pa_cons (pv 3) (pa_cons (pv 4) (pa_cons (pe_tup (pa_cons (pv 7) (pa_cons (pv 8) pa_nil))) pa_nil))))))
      (pss_one (ps_if (pt_cmpR op_ne (pv 9) pe_int (nomark _)) (pss_one (ps_ret (pe_ifExp (pt_cmpR op_eq (pv 9) pe_int (nomark _)) (pe_mkI (x := .bare) CI G (by decide) trivial (hr.mono (by decide)) (pa_cons (pe_tup (pa_cons (pv 7) (pa_cons (pv 8) pa_nil))) pa_nil)) (pe_mkI (x := .twice) CI G (by decide) trivial (hr.mono (by decide)) (pa_cons (pe_tup (pa_cons (pv 7) (pa_cons (pv 8) pa_nil))) pa_nil))))) pss_nil))))))
      (pss_one (ps_ret (pe_mkN (x := .full) CI G (by decide) (by decide))))))))), ?_⟩
    have hL2 : L ≤ 400 := by
      have := Int.mul_le_mul_of_nonneg_left (show (1 : Int) ≤ W by omega) (show 0 ≤ L by omega)
      omega
    have hW2 : W ≤ 400 := by
      have := Int.mul_le_mul_of_nonneg_right (show (1 : Int) ≤ L by omega) (show 0 ≤ W by omega)
      omega
    have bL : Bn 20 L := bnl (by omega)
    have bW : Bn 20 W := bnl (by omega)
    walk_at "rd"
    intro l1 hl1
    generalize hH1 : upd H l1 _ = H1
    obtain ⟨sm1, up1⟩ : Same H H1 ∧ H1 l1 = some (.lst ([L, W, fi, se].map V.int)) := newH hH1 hl1
    clear hH1
    refine .mk (ns := [L, W, fi, se]) (sqL up1) ?_ ?_
    · intro n hn
      have e : n = L ∨ n = W ∨ n = fi ∨ n = se := by simpa using hn
      rcases e with rfl | rfl | rfl | rfl
      · exact hL
      · exact hW
      · exact hf
      · exact hs
    walk_at "rd"
    refine iteN (show ¬ (400 : Int) < L * W by omega) ?_
    have el1 := sm1 _ _ el
    have hb1 := hb.mono sm1
    refine ⟨_, rfl, _, _, _, _, true, rfl, .ty "list", .base (.lst el1), kit_ty (by decide +kernel), true, rfl, iteF ?_⟩
    refine ⟨_, rfl, l, rfl, ⟨_, sqL el1⟩, fun D hD => ?_⟩
    refine lc_list (K := K) (a := l) (xs := refs ps) (fun i H' => Same H1 H' ∧ H' D = some (.lst ((List.replicate i true).map V.bl))) ⟨same_upd hD, upd_same⟩ (fun i H' _ ⟨sm, _⟩ => sqL (sm _ _ el1)) ?_ ?_
    · rintro i v H' hi ⟨sm, eD⟩
      obtain ⟨pb, hpb, rfl, hmm⟩ := refs_at hi
      have hlt := (List.getElem?_eq_some_iff.mp hpb).1
      refine ⟨rfl, lc_yes ?_⟩
      walk_at "rd"
      refine .mk (sm _ _ (hb1 _ hmm)) ⟨_, eD, ?_, same_mut sm hD, ?_⟩
      · rw [List.length_map, List.length_replicate]
        exact Nat.lt_of_lt_of_le hlt (Nat.le_trans hn (by decide))
      · rw [upd_same, List.replicate_succ', List.map_append]
        rfl
    rintro H2 ⟨sm2, eD⟩
    refine ⟨D, _, rfl, sqL eD, ?_⟩
    have ea : (List.replicate (refs ps).length true).all id = true := by
      rw [List.all_eq_true]
      intro x hx
      exact (List.mem_replicate.mp hx).2
    rw [ea]
    refine ⟨_, rfl, iteF ?_⟩
    have s02 : Same H H2 := sm1.trans sm2
    have el2 := s02 _ _ el
    refine ⟨_, rfl, l, _, rfl, sqL el2, for_enumL (K := K) (a := l) (xs := refs ps) (fun i σ H' => JuI l L W fi se (vals ps) H2 i σ H') (.mk (Same.refl _) (by simp)) ?_ ?_ ?_⟩
    · rintro _ _ _ _ ⟨sm⟩
      exact sqL (sm _ _ el2)
    · rintro i v T _ H3 hi @⟨_, _, _, sm3, hall⟩ hT
      obtain ⟨pb, hpb, rfl, hmm⟩ := refs_at hi
      have hlt := (List.getElem?_eq_some_iff.mp hpb).1
      generalize hH4 : upd H3 T _ = H4
      obtain ⟨sm4, up4⟩ : Same H3 H4 ∧ H4 T = some (.tup [.int (i : Nat), .ref pb.1]) := newH hH4 hT
      clear hH4
      have s04 := s02.trans (sm3.trans sm4)
      refine ⟨T, _, rfl, sqT up4, rfl, ?_⟩
      walk_at "rd"
      refine .mk (sqT (s04 _ _ (hb _ hmm))) fun H5 sm5 => ⟨_, rfl, iteB (fun c => ?_) (fun c => ?_)⟩
      · refine ⟨_, rfl, _, rfl, fun p1 H6 np1 sm6 ha => ?_⟩
        refine q p1 H6 (.beyond (i : Nat)) (s04.trans (sm5.trans sm6)) (.beyond ha) ?_
        show beyAt L W fi se (vals ps) (i : Nat) = true
        unfold beyAt
        have hv : (vals ps)[((i : Nat) : Int).toNat]? = some pb.2 := by
          unfold vals
          rw [Int.toNat_natCast, List.getElem?_map, hpb]
          rfl
        rw [vals_len, hv, decide_eq_true (by omega), decide_eq_true (by omega)]
        exact c
      · refine .mk (sm3.trans (sm4.trans sm5)) fun b hb2 => ?_
        have et : (vals ps).take (i + 1) = (vals ps).take i ++ [pb.2] := by
          unfold vals
          rw [List.take_add_one, List.getElem?_map, hpb]
          rfl
        rw [et] at hb2
        rcases List.mem_append.mp hb2 with z | z
        · exact hall b z
        · rw [List.mem_singleton.mp z]
          exact c
    rintro _ H3 @⟨_, _, _, sm3, hall⟩
    rw [refs_len, ← vals_len ps, List.take_length] at hall
    have nob : (vals ps).any (beyB L W fi se) = false := by
      rw [List.any_eq_false]
      intro b hbm
      rw [hall b hbm]
      decide
    have s03 := s02.trans sm3
    refine ⟨_, rfl, _, rfl, by omega, by omega, for_range (lo := 0) (n := L.toNat) (fun i σ H' => JuA l L W fi se (vals ps) H3 i σ H') (.mk (Same.refl _) (fun x y h0 h1 => by omega)) ?_ ?_⟩
    · rintro i _ H4 hi @⟨_, _, _, _, _, _, sm4, ha4⟩
      refine ⟨_, rfl, _, rfl, by omega, by omega, for_range (lo := 0) (n := W.toNat) (fun j σ H' => JuB l L W fi se (vals ps) H4 (0 + (i : Int)) j σ H') (.mk (Same.refl _) (fun y h0 h1 => by omega)) ?_ ?_⟩
      · rintro j _ H5 hj @⟨_, _, _, _, _, sm5, hb5⟩
        walk_at "rd"
        intro t6 ht6
        generalize hH6 : upd H5 t6 _ = H6
        obtain ⟨sm6, up6⟩ : Same H5 H6 ∧ H6 t6 = some (.tup (cellV (0 + (i : Int), 0 + (j : Int)))) := newH hH6 ht6
        clear hH6
        have s06 := s03.trans (sm4.trans (sm5.trans sm6))
        refine .mk (c := (0 + (i : Int), 0 + (j : Int))) (sqL (s06 _ _ el)) (hb.mono s06).all (by omega) (sqT up6) fun H7 sm7 => ?_
        have cc : cellB L W (0 + (i : Int), 0 + (j : Int)) = true := by
          unfold cellB
          simp only [Bool.and_eq_true, decide_eq_true_eq]
          omega
        walk_at "rd"
        refine iteNe (fun c => ?_) (fun c => ?_)
        · walk_at "rd"
          refine iteEq (fun d => ?_) (fun d => ?_)
          · walk_at "rd"
            intro t8 ht8
            generalize hH8 : upd H7 t8 _ = H8
            obtain ⟨sm8, up8⟩ : Same H7 H8 ∧ H8 t8 = some (.tup (cellV (0 + (i : Int), 0 + (j : Int)))) := newH hH8 ht8
            clear hH8
            refine ⟨_, rfl, fun p9 H9 np9 sm9 ha9 => ?_⟩
            refine q p9 H9 (.bare (0 + (i : Int), 0 + (j : Int))) (s06.trans (sm7.trans (sm8.trans sm9))) (.bare ha9 (sm9 _ _ up8)) ⟨nob, cc, by omega⟩
          · walk_at "rd"
            intro t8 ht8
            generalize hH8 : upd H7 t8 _ = H8
            obtain ⟨sm8, up8⟩ : Same H7 H8 ∧ H8 t8 = some (.tup (cellV (0 + (i : Int), 0 + (j : Int)))) := newH hH8 ht8
            clear hH8
            refine ⟨_, rfl, fun p9 H9 np9 sm9 ha9 => ?_⟩
            refine q p9 H9 (.twice (0 + (i : Int), 0 + (j : Int))) (s06.trans (sm7.trans (sm8.trans sm9))) (.twice ha9 (sm9 _ _ up8)) ⟨nob, cc, by omega⟩
        · refine .mk (sm5.trans (sm6.trans sm7)) fun y h0 h1 => ?_
          by_cases ey : y = (j : Int)
          · subst ey
            have e0 : (0 : Int) + (j : Int) = j := by omega
            rw [e0] at c
            omega
          · exact hb5 y h0 (by omega)
      · rintro _ H5 @⟨_, _, _, _, _, sm5, hb5⟩
        refine .mk (sm4.trans sm5) fun x y h0 h1 h2 h3 => ?_
        by_cases ex : x = (i : Int)
        · subst ex
          have := hb5 y h2 (by omega)
          rw [show (0 : Int) + (i : Int) = i by omega] at this
          exact this
        · exact ha4 x y h0 (by omega) h2 h3
    · rintro _ H4 @⟨_, _, _, _, _, _, sm4, ha4⟩
      refine fun p9 H9 np9 sm9 ha9 => q p9 H9 .full (s03.trans (sm4.trans sm9)) (.full ha9) ⟨nob, fun c hc => ?_⟩
      obtain ⟨x, y⟩ := c
      unfold cellB at hc
      simp only [Bool.and_eq_true, decide_eq_true_eq] at hc
      exact ha4 x y (by omega) (by omega) (by omega) (by omega)
end
end BF

/-! ### the law k05 -/
namespace BF
open PySem PySem.Spec PyProof.Rows L2
inductive SpLCell (K : PySem.W.Frag) : Sp where
  | mk {fl t : Addr} {c : Int × Int} {L W : Int} {H : Hp} {Q : VK} {E : XK} (hfl : SqT K H fl [.int L, .int W]) (ht : H t = some (.tup (cellV c))) (q : Q (.bl (cellB L W c)) H) : SpLCell K [.ref fl, .ref t] H Q E
inductive SpDue (K : PySem.W.Frag) : Sp where
  | mk {fl l p : Addr} {d : D5} {ps : List (Addr × Brick)} {L W f s : Int} {H : Hp} {Q : VK} {E : XK} (hfl : SqT K H fl [.int L, .int W]) (hL : 0 < L ∧ L ≤ 1000) (hW : 0 < W ∧ W ≤ 1000) (hf : 0 < f) (hs : 0 < s) (hl : SqL K H l (refs ps)) (hb : BrAll K H ps) (hn : ps.length ≤ 10000) (ha : At5 K H p d)
      (q : ∀ H', Same H H' → Q (.bl (due5 L W f s (vals ps) d)) H') : SpDue K [.ref fl, .int f, .int s, .ref l, .ref p] H Q E
section
variable {P : Program} {w : World} {K : PySem.W.Frag} {mg : Str → Option Value} {base : Heap}
theorem H__law_is_cell (p : Pl K mg "_law_is_cell" s__law_is_cell) (B : Bi mg) (h__law_whole : Has P w K mg base CX0 1 "_law_whole" ["_law_found"] (SpIsNumber K)) : Has P w K mg base CX0 2 "_law_is_cell" ["_law_floor", "_law_cell"] (SpLCell K) := by
  refine p.mk0 sc__law_is_cell (fun _ _ _ _ _ _ us hl => match us, hl with | [_, _], _ => rfl) (fun vs H Q E h => ?_) (fun f cdv A outer s H vs Q E hr h => ?_)
  · cases h; rfl
  · obtain @⟨fl, t, ⟨c1, c2⟩, L, W, _, _, _, hfl, ht, q⟩ := h
    refine ⟨_, (pss_cons (ps_if (PW.pt (pw_or (pt_not (pt_val (pe_callB (r := rIsi K) call_isi (by rfl) B.isinstance (by decide +kernel) (pa_cons (pv 1) (pa_cons (pe_bltn (v := .ty "tuple") (by rfl) B.tuple (by decide +kernel) rfl) pa_nil))))) (pw_or (pt_cmpR op_ne (pe_callB (r := rLen2 K) call_len_seq (by rfl) B.len PySem.boot_len (pa_cons (pv 1) pa_nil)) pe_int (nomark _)) (pw_or (pt_not (pt_val (pe_fn h__law_whole (hr.mono (by decide)) pass0 (pa_cons (pe_ix (r := rIxT K) ix_tup (pv 1) pe_int (fun _ _ => rfl)) pa_nil)))) (pw_or1 (pt_not (pt_val (pe_fn h__law_whole (hr.mono (by decide)) pass0 (pa_cons (pe_ix (r := rIxT K) ix_tup (pv 1) pe_int (fun _ _ => rfl)) pa_nil))))))))) (pss_one (ps_ret pe_bl)) pss_nil)
      (pss_one (ps_ret (pe_and (pe_chain op_le op_lt pe_int (pe_ix (r := rIxT K) ix_tup (pv 1) pe_int (fun _ _ => rfl)) (pe_ix (r := rIxT K) ix_tup (pv 0) pe_int (fun _ _ => rfl))) (pe_one (pe_chain op_le op_lt pe_int (pe_ix (r := rIxT K) ix_tup (pv 1) pe_int (fun _ _ => rfl)) (pe_ix (r := rIxT K) ix_tup (pv 0) pe_int (fun _ _ => rfl)))))))), ?_⟩
    unfold cellB at q
    refine ⟨_, rfl, _, _, _, _, true, rfl, .ty "tuple", .base (.tup ht), kit_ty (by decide +kernel), true, rfl, iteF ?_⟩
    refine ⟨_, rfl, t, _, rfl, .inr (sqT ht), rfl, _, rfl, iteNe (fun z => absurd rfl z) (fun _ => ?_)⟩
    refine ⟨_, rfl, t, _, 0, _, rfl, rfl, sqT ht, rfl, num_int ⟨true, rfl, iteF ?_⟩⟩
    refine ⟨_, rfl, t, _, 1, _, rfl, rfl, sqT ht, rfl, num_int ⟨true, rfl, iteF ?_⟩⟩
    refine ⟨_, rfl, t, _, 0, _, rfl, rfl, sqT ht, rfl, ?_⟩
    walk_at "rd"
    refine iteD (fun c => ?_) (fun c => ?_)
    · simp only [decide_eq_true c, Bool.true_and] at q
      refine ⟨_, rfl, fl, _, 0, _, rfl, rfl, hfl, rfl, ?_⟩
      walk_at "rd"
      refine iteD (fun c => ?_) (fun c => ?_)
      · simp only [decide_eq_true c, Bool.true_and] at q
        refine ⟨_, rfl, t, _, 1, _, rfl, rfl, sqT ht, rfl, ?_⟩
        walk_at "rd"
        refine iteD (fun c => ?_) (fun c => ?_)
        · simp only [decide_eq_true c, Bool.true_and] at q
          refine ⟨_, rfl, fl, _, 1, _, rfl, rfl, hfl, rfl, ?_⟩
          walk_at "rd"
          exact q
        · simp only [decide_eq_false c, Bool.false_and] at q
          exact q
      · simp only [decide_eq_false c, Bool.false_and] at q
        exact q
    · simp only [decide_eq_false c, Bool.false_and] at q
      exact ⟨_, rfl, iteF q⟩
theorem H__law_due (p : Pl K mg "_law_due" s__law_due) (B : Bi mg) (G : ClG K mg) (h__law_full : Has P w K mg base CX0 3 "_law_full" ["_law_floor", "_law_first", "_law_second", "_law_bricks_here"] (SpLFull K)) (h__law_out : Has P w K mg base CX0 2 "_law_out" ["_law_floor", "_law_first", "_law_second", "_law_brick"] (SpLOut K))
    (h__law_is_cell : Has P w K mg base CX0 2 "_law_is_cell" ["_law_floor", "_law_cell"] (SpLCell K)) (h__law_over : Has P w K mg base CX0 2 "_law_over" ["_law_first", "_law_second", "_law_bricks_here", "_law_cell"] (SpOften K)) :
    Has P w K mg base CX0 4 "_law_due" ["_law_floor", "_law_first", "_law_second", "_law_bricks_here", "_law_found"] (SpDue K) := by
  refine p.mk0 sc__law_due (fun _ _ _ _ _ _ us hl => match us, hl with | [_, _, _, _, _], _ => rfl) (fun vs H Q E h => ?_) (fun f cdv A outer s H vs Q E hr h => ?_)
  · cases h; rfl
  · obtain @⟨fl, l, p, d, ps, L, W, fi, se, _, _, _, hfl, hL, hW, hf, hs, hl, hb, hn, ha, q⟩ := h
    refine ⟨_, (pss_cons (ps_if (pt_val (pe_callB (r := rIsi K) call_isi (by rfl) B.isinstance (by decide +kernel) (pa_cons (pv 4) (pa_cons (pe_glob (v := .ref (cl _ .full)) (by rfl) (G.g .full (by decide)) rfl) pa_nil)))) (pss_one (ps_ret (pe_fn h__law_full (hr.mono (by decide)) pass0 (pa_cons (pv 0) (pa_cons (pv 1) (pa_cons (pv 2) (pa_cons (pv 3) pa_nil))))))) pss_nil)
      (pss_cons (ps_if (pt_val (pe_callB (r := rIsi K) call_isi (by rfl) B.isinstance (by decide +kernel) (pa_cons (pv 4) (pa_cons (pe_glob (v := .ref (cl _ .beyond)) (by rfl) (G.g .beyond (by decide)) rfl) pa_nil)))) (pss_one (ps_ret (pe_and (pe_chain op_le op_lt pe_int (pe_fld (pv 4) rfl) (pe_callB (r := rLen2 K) call_len_seq (by rfl) B.len PySem.boot_len (pa_cons (pv 3) pa_nil))) (pe_one (pe_fn h__law_out (hr.mono (by decide)) pass0 (pa_cons (pv 0) (pa_cons (pv 1) (pa_cons (pv 2) (pa_cons (pe_ix (r := rIxL K) ix_list (pv 3) (pe_fld (pv 4) rfl) (fun _ _ => rfl)) pa_nil))))))))) pss_nil)
      (pss_cons (ps_if (pt_not (pt_val (pe_fn h__law_is_cell (hr.mono (by decide)) pass0 (pa_cons (pv 0) (pa_cons (pe_fld (pv 4) rfl) pa_nil))))) (pss_one (ps_ret pe_bl)) pss_nil)
      (pss_cons (ps_set (i := 5) sc__law_due.nd rfl (Or.inl rfl) (pe_fn h__law_over (hr.mono (by decide)) pass0 (pa_cons (pv 1) (pa_cons (pv 2) (pa_cons (pv 3) (pa_cons (pe_fld (pv 4) rfl) pa_nil))))))
      (pss_one (ps_ret (pe_ifExp (pt_val (pe_callB (r := rIsi K) call_isi (by rfl) B.isinstance (by decide +kernel) (pa_cons (pv 4) (pa_cons (pe_glob (v := .ref (cl _ .twice)) (by rfl) (G.g .twice (by decide)) rfl) pa_nil)))) (pe_cmpR op_gt (pv 5) pe_int (nomark _)) (pe_cmpR op_eq (pv 5) pe_int (nomark _))))))))), ?_⟩
    cases ha with
    | full h =>
      refine ⟨_, rfl, _, _, _, _, _, rfl, .own _, tyA G h, kitA G .full .full, _, rfl, iteT ?_⟩
      walk_at "rd"
      exact .mk hfl hL hW hl hb hn q
    | @beyond i h =>
      refine ⟨_, rfl, _, _, _, _, _, rfl, .own _, tyA G h, kitA G (.beyond _) .full, _, rfl, iteF ?_⟩
      refine ⟨_, rfl, _, _, _, _, _, rfl, .own _, tyA G h, kitA G (.beyond _) .beyond, _, rfl, iteT ?_⟩
      obtain ⟨dx, hp⟩ := h
      have F := G.f .beyond (by decide)
      have q : ∀ H', Same H H' → Q (.bl (beyAt L W fi se (vals ps) i)) H' := q
      unfold beyAt at q
      rw [vals_len] at q
      refine ⟨_, rfl, p, _, dx, _, _, rfl, hp, F.c, F.no, rfl, ?_⟩
      walk_at "rd"
      refine iteD (fun c => ?_) (fun c => ?_)
      · have c : 0 ≤ i := c
        simp only [decide_eq_true c, Bool.true_and] at q
        refine ⟨_, rfl, l, _, rfl, .inl hl, ?_⟩
        walk_at "rd"
        rw [refs_len]
        refine iteD (fun c2 => ?_) (fun c2 => ?_)
        · have c2 : i < (ps.length : Int) := c2
          simp only [decide_eq_true c2, Bool.true_and] at q
          obtain ⟨pb, hpb, hpbi, epb⟩ := at_refs c c2
          have hv : (vals ps)[i.toNat]? = some pb.2 := by
            unfold vals
            rw [List.getElem?_map, hpbi]
            rfl
          rw [hv] at q
          refine ⟨_, rfl, _, rfl, _, rfl, _, rfl, _, rfl, p, _, dx, _, _, rfl, hp, F.c, F.no, rfl, l, _, _, _, rfl, rfl, hl, epb, ?_⟩
          exact .mk hfl (hb _ hpb) q
        · have c2 : ¬ i < (ps.length : Int) := c2
          simp only [decide_eq_false c2, Bool.false_and] at q
          exact q _ (Same.refl _)
      · have c : ¬ 0 ≤ i := c
        simp only [decide_eq_false c, Bool.false_and] at q
        exact ⟨_, rfl, iteF (q _ (Same.refl _))⟩
    | @twice t c h ht =>
      refine ⟨_, rfl, _, _, _, _, _, rfl, .own _, tyA G h, kitA G (.twice _) .full, _, rfl, iteF ?_⟩
      refine ⟨_, rfl, _, _, _, _, _, rfl, .own _, tyA G h, kitA G (.twice _) .beyond, _, rfl, iteF ?_⟩
      obtain ⟨dx, hp⟩ := id h
      have F := G.f .twice (by decide)
      have q : ∀ H', Same H H' → Q (.bl (cellB L W c && decide (1 < oftN fi se (vals ps) c))) H' := q
      refine ⟨_, rfl, _, rfl, p, _, dx, _, _, rfl, hp, F.c, F.no, rfl, .mk hfl ht ?_⟩
      cases hcb : cellB L W c with
      | false =>
        rw [hcb] at q
        exact ⟨_, rfl, iteT (q _ (Same.refl _))⟩
      | true =>
        rw [hcb] at q
        refine ⟨_, rfl, iteF ?_⟩
        refine ⟨_, rfl, _, rfl, _, rfl, _, rfl, p, _, dx, _, _, rfl, hp, F.c, F.no, rfl, .mk hl hb hn (sqT ht) fun H1 sm1 => ?_⟩
        refine ⟨_, rfl, _, _, _, _, _, rfl, .own _, tyA G (h.mono sm1), kitA G (.twice _) .twice, _, rfl, iteT ?_⟩
        walk_at "rd"
        show Q (.bl (decide ((1 : Int) < (oftN fi se (vals ps) c : Nat)))) H1
        rw [show decide ((1 : Int) < (oftN fi se (vals ps) c : Nat)) = decide (1 < oftN fi se (vals ps) c) from decide_eq_decide.mpr (by omega)]
        exact q _ sm1
    | @bare t c h ht =>
      refine ⟨_, rfl, _, _, _, _, _, rfl, .own _, tyA G h, kitA G (.bare _) .full, _, rfl, iteF ?_⟩
      refine ⟨_, rfl, _, _, _, _, _, rfl, .own _, tyA G h, kitA G (.bare _) .beyond, _, rfl, iteF ?_⟩
      obtain ⟨dx, hp⟩ := id h
      have F := G.f .bare (by decide)
      have q : ∀ H', Same H H' → Q (.bl (cellB L W c && decide (oftN fi se (vals ps) c = 0))) H' := q
      refine ⟨_, rfl, _, rfl, p, _, dx, _, _, rfl, hp, F.c, F.no, rfl, .mk hfl ht ?_⟩
      cases hcb : cellB L W c with
      | false =>
        rw [hcb] at q
        exact ⟨_, rfl, iteT (q _ (Same.refl _))⟩
      | true =>
        rw [hcb] at q
        refine ⟨_, rfl, iteF ?_⟩
        refine ⟨_, rfl, _, rfl, _, rfl, _, rfl, p, _, dx, _, _, rfl, hp, F.c, F.no, rfl, .mk hl hb hn (sqT ht) fun H1 sm1 => ?_⟩
        refine ⟨_, rfl, _, _, _, _, _, rfl, .own _, tyA G (h.mono sm1), kitA G (.bare _) .twice, _, rfl, iteF ?_⟩
        walk_at "rd"
        show Q (.bl (decide (V.int (oftN fi se (vals ps) c : Nat) = V.int 0))) H1
        rw [show decide (V.int (oftN fi se (vals ps) c : Nat) = V.int 0) = decide (oftN fi se (vals ps) c = 0) from decide_eq_decide.mpr ⟨fun z => by have := V.int.inj z; omega, fun z => by rw [z]; rfl⟩]
        exact q _ sm1
end
end BF

/-! ### the law k05: one judged list -/
namespace BF
open PySem PySem.Spec PyProof.Rows L2
def brD (b : Brick) : PyData := .tuple [.int b.x, .int b.y, .bool b.l]
theorem dp_bricks {K : PySem.W.Frag} {H : Hp} : ∀ {ps : List (Addr × Brick)}, BrT H ps → DpAll K H (refs ps) (ps.map fun p => brD p.2)
  | [], _ => .nil
  | p :: ps, h => .cons (.tup (sqT (h p (by simp))) (.cons (.int _) (.cons (.int _) (.cons (.bl _) .nil)))) (dp_bricks (ps := ps) fun q hq => h q (List.mem_cons_of_mem _ hq))
theorem shp_bricks (ps : List (Addr × Brick)) : Shp 3 (.list (ps.map fun p => brD p.2)) := shp_list (n := 2) fun d hd => by
  obtain ⟨p, _, rfl⟩ := List.mem_map.mp hd
  refine shp_tuple (n := 1) fun e he => ?_
  have z : e = .int p.2.x ∨ e = .int p.2.y ∨ e = .bool p.2.l := by simpa using he
  rcases z with rfl | rfl | rfl
  · exact shp_int _
  · exact shp_int _
  · exact shp_bool _
/-- the answer itself -/
theorem At5.ans {K : PySem.W.Frag} {H : Hp} {p : Addr} {d : D5} (h : At5 K H p d) : ∃ a : Ans, AnsAt K H p a ∧ a.cl = d.cl ∧ a.fs.lookup ("shows" : Str) = none ∧ (a.cl = .beyond → ∃ i : Int, a = .beyond (.int i)) := by
  cases h with
  | full h => exact ⟨_, h, rfl, rfl, fun z => nomatch z⟩
  | beyond h => exact ⟨_, h, rfl, rfl, fun _ => ⟨_, rfl⟩⟩
  | twice h ht => exact ⟨_, h, rfl, rfl, fun z => nomatch z⟩
  | bare h ht => exact ⟨_, h, rfl, rfl, fun z => nomatch z⟩
theorem if_noM {T : TT} {R U : TS} {D : Ends} {σ : L2.St} {H : Hp} (M : Hp → Prop) (hT : ∀ r : Bool → Hp → Prop, (∀ H', M H' → r false H') → T σ H r) (hU : ∀ H', M H' → U D σ H') : tSeq (tIfS T R tNext) U D σ H :=
  hT _ (fun H' m => by
    show if false = true then _ else _
    exact iteF (hU H' m))
theorem gN {i : Nat} {v : V} {σ : L2.St} {H : Hp} {Q : L2.St → Hp → Prop} (h : Q (σ.set i (some v)) H) : gName i v σ H Q := h
def SomeAt (H : Hp) (v : V) : Prop := ∃ l ps, v = .ref l ∧ H l = some (.lst (refs ps)) ∧ BrT H ps ∧ ps.length ≤ 300
theorem SomeAt.mono {H H' : Hp} {v : V} (h : SomeAt H v) (sm : Same H H') : SomeAt H' v := let ⟨l, ps, e, h1, h2, h3⟩ := h; ⟨l, ps, e, sm _ _ h1, h2.mono sm, h3⟩
inductive SpRight (K : PySem.W.Frag) : Sp where
  | mk {fl l ol : Addr} {ps : List (Addr × Brick)} {L W f s : Int} {os : List V} {H : Hp} {Q : VK} {E : XK} (hfl : H fl = some (.tup [.int L, .int W])) (hL : 0 < L) (hW : 0 < W) (hm : L * W ≤ 400) (hf : 0 < f) (hs : 0 < s) (el : H l = some (.lst (refs ps))) (hb : BrT H ps) (hn : ps.length ≤ 300)
      (ho : H ol = some (.lst os)) (hos : ∀ v ∈ os, SomeAt H v) (q : ∀ H', Same H H' → Q (.bl true) H') : SpRight K [.ref fl, .int f, .int s, .ref l, .ref ol] H Q E
inductive RightI (fl l ol kp p1 p2 kl wl : Addr) (f s : Int) (b : Bool) (H : Hp) : L2.St → Hp → Prop where
  | mk {H' : Hp} {y : Option V} (sm : Same H H') : RightI fl l ol kp p1 p2 kl wl f s b H [some (.ref fl), some (.int f), some (.int s), some (.ref l), some (.ref ol), some (.ref kp), some (.bl b), some (.ref p1), some (.ref kl), some (.ref wl), some (.ref p2), y] H'
section
variable {P : Program} {w : World} {K : PySem.W.Frag} {mg : Str → Option Value} {base : Heap}
theorem H__law_right (p : Pl K mg "_law_right" s__law_right) (B : Bi mg) (G : ClG K mg) (h__law_full : Has P w K mg base CX0 3 "_law_full" ["_law_floor", "_law_first", "_law_second", "_law_bricks_here"] (SpLFull K))
    (h_judged : Has P w K mg base CX0 3 "judged" ["length", "width", "first", "second", "bricks"] (SpJudged K)) (h__law_whole : Has P w K mg base CX0 1 "_law_whole" ["_law_found"] (SpIsNumber K))
    (h__law_due : Has P w K mg base CX0 4 "_law_due" ["_law_floor", "_law_first", "_law_second", "_law_bricks_here", "_law_found"] (SpDue K))
    (h_shows5 : ∀ x, Ok5 x → HasM P w K mg base CX0 3 x "shows" ["self", "length", "width", "first", "second", "bricks"] (SpShows5 K x)) :
    Has P w K mg base CX0 5 "_law_right" ["_law_floor", "_law_first", "_law_second", "_law_bricks_here", "_law_others"] (SpRight K) := by
  refine p.mk0 sc__law_right (fun _ _ _ _ _ _ us hl => match us, hl with | [_, _, _, _, _], _ => rfl) (fun vs H Q E h => ?_) (fun f cdv A outer s H vs Q E hr h => ?_)
  · cases h; rfl
  · obtain @⟨fl, l, ol, ps, L, W, fi, se, os, _, _, _, hfl, hL, hW, hm, hf, hs, el, hb, hn, ho, hos, q⟩ := h
    refine ⟨_, (pss_cons (ps_par (i := 5) (j := 6) (by rfl) sc__law_right.nd rfl rfl (by decide) rfl rfl (pa_cons (pe_callTy call_list_of (by rfl) B.list (by decide +kernel) (pa_cons (pv 3) pa_nil)) (pa_cons (pe_fn h__law_full (hr.mono (by decide)) pass0 (pa_cons (pv 0) (pa_cons (pv 1) (pa_cons (pv 2) (pa_cons (pv 3) pa_nil))))) pa_nil)) (by rfl))
      (pss_cons (ps_set (i := 7) sc__law_right.nd rfl (Or.inl rfl) (pe_fn h_judged (hr.mono (by decide)) pass0 (pa_cons (pe_ix (r := rIxT K) ix_tup (pv 0) pe_int (fun _ _ => rfl)) (pa_cons (pe_ix (r := rIxT K) ix_tup (pv 0) pe_int (fun _ _ => rfl)) (pa_cons (pv 1) (pa_cons (pv 2) (pa_cons (pv 3) pa_nil)))))))
      (pss_cons (ps_set (i := 8) sc__law_right.nd rfl (Or.inl rfl) (pe_lst (pa_cons (pe_callB (r := rIsi K) call_isi (by rfl) B.isinstance (by decide +kernel) (pa_cons (pv 7) (pa_cons (pe_glob (v := .ref (cl _ .full)) (by rfl) (G.g .full (by decide)) rfl) pa_nil))) (pa_cons (pe_callB (r := rIsi K) call_isi (by rfl) B.isinstance (by decide +kernel) (pa_cons (pv 7) (pa_cons (pe_glob (v := .ref (cl _ .beyond)) (by rfl) (G.g .beyond (by decide)) rfl) pa_nil))) (pa_cons (pe_callB (r := rIsi K) call_isi (by rfl) B.isinstance (by decide +kernel) (pa_cons (pv 7) (pa_cons (pe_glob (v := .ref (cl _ .twice)) (by rfl) (G.g .twice (by decide)) rfl) pa_nil))) (pa_cons (pe_callB (r := rIsi K) call_isi (by rfl) B.isinstance (by decide +kernel) (pa_cons (pv 7) (pa_cons (pe_glob (v := .ref (cl _ .bare)) (by rfl) (G.g .bare (by decide)) rfl) pa_nil))) pa_nil))))))
      (pss_cons (ps_set (i := 9) sc__law_right.nd rfl (Or.inl rfl) (pe_lst (pa_cons (pe_callB (r := rIsi K) call_isi (by rfl) B.isinstance (by decide +kernel) (pa_cons (pv 7) (pa_cons (pe_glob (v := .ref (cl _ .laid)) (by rfl) (G.g .laid (by decide)) rfl) pa_nil))) (pa_cons (pe_callB (r := rIsi K) call_isi (by rfl) B.isinstance (by decide +kernel) (pa_cons (pv 7) (pa_cons (pe_glob (v := .ref (cl _ .striped)) (by rfl) (G.g .striped (by decide)) rfl) pa_nil))) (pa_cons (pe_callB (r := rIsi K) call_isi (by rfl) B.isinstance (by decide +kernel) (pa_cons (pv 7) (pa_cons (pe_glob (v := .ref (cl _ .short)) (by rfl) (G.g .short (by decide)) rfl) pa_nil))) pa_nil)))))
      (pss_cons (ps_if (PW.pt (pw_or (pt_not (pt_val (pe_callB (r := rIsi K) call_isi (by rfl) B.isinstance (by decide +kernel) (pa_cons (pv 7) (pa_cons (pe_glob (v := .ref (cl _ .answer)) (by rfl) (G.g .answer (by decide)) rfl) pa_nil))))) (pw_or (pt_cmpR op_ne (pe_bm PySem.F.plainAttrs_list PySem.F.slot_list_count PySem.F.type_list_count mt_count (pv 8) (pa_cons pe_bl pa_nil)) pe_int (nomark _)) (pw_or (pt_val (pe_callB (cr_any rfl) (by rfl) B.any (by decide +kernel) (pa_cons (pv 9) pa_nil))) (pw_or1 (pt_cmpR op_ne (pe_ix (r := rIxL K) ix_list (pv 8) pe_int (fun _ _ => rfl)) (pv 6) (nomark _))))))) (pss_one (ps_ret pe_bl)) pss_nil)
      (pss_cons (ps_if (PW.pt (pw_or (PW.pt (pw_and (pt_val (pe_ix (r := rIxL K) ix_list (pv 8) pe_int (fun _ _ => rfl))) (pw_and1 (pt_not (pt_val (pe_fn h__law_whole (hr.mono (by decide)) pass0 (pa_cons (pe_fld (pv 7) rfl) pa_nil))))))) (pw_or1 (PW.pt (pw_and (pt_not (pt_val (pv 6))) (pw_and1 (pt_not (pt_val (pe_fn h__law_due (hr.mono (by decide)) pass0 (pa_cons (pv 0) (pa_cons (pv 1) (pa_cons (pv 2) (pa_cons (pv 3) (pa_cons (pv 7) pa_nil)))))))))))))) (pss_one (ps_ret pe_bl)) pss_nil)
      (pss_cons (ps_if (PW.pt (pw_or (pt_cmpR op_notBl (pe_methA h_shows5 (fun x hx => (G.f x (ok5 hx)).c) (hr.mono (by decide)) pass0 (pv 7) (pa_cons (pe_ix (r := rIxT K) ix_tup (pv 0) pe_int (fun _ _ => rfl)) (pa_cons (pe_ix (r := rIxT K) ix_tup (pv 0) pe_int (fun _ _ => rfl)) (pa_cons (pv 1) (pa_cons (pv 2) (pa_cons (pv 3) pa_nil)))))) pe_bl (nomark _)) (pw_or1 (pt_cmpR (r := rNeD K) (op_neD hr.units) (pv 3) (pv 5) (nomark _))))) (pss_one (ps_ret pe_bl)) pss_nil)
      (pss_cons (ps_set (i := 10) sc__law_right.nd rfl (Or.inl rfl) (pe_fn h_judged (hr.mono (by decide)) pass0 (pa_cons (pe_ix (r := rIxT K) ix_tup (pv 0) pe_int (fun _ _ => rfl)) (pa_cons (pe_ix (r := rIxT K) ix_tup (pv 0) pe_int (fun _ _ => rfl)) (pa_cons (pv 1) (pa_cons (pv 2) (pa_cons (pv 3) pa_nil)))))))
      (pss_cons (ps_if (PW.pt (pw_or (PW.pt (pw_and (pt_not (pt_val (pv 6))) (pw_and1 (pt_not (pt_val (pe_fn h__law_due (hr.mono (by decide)) pass0 (pa_cons (pv 0) (pa_cons (pv 1) (pa_cons (pv 2) (pa_cons (pv 3) (pa_cons (pv 10) pa_nil))))))))))) (pw_or1 (pt_cmpR op_ne (pe_callB (r := rIsi K) call_isi (by rfl) B.isinstance (by decide +kernel) (pa_cons (pv 10) (pa_cons (pe_glob (v := .ref (cl _ .full)) (by rfl) (G.g .full (by decide)) rfl) pa_nil))) (pv 6) (nomark _))))) (pss_one (ps_ret pe_bl)) pss_nil)
      (pss_cons (ps_for PassesOwn.never (by rfl) (pi_list (pv 4)) (pg_name (i := 11) sc__law_right.nd rfl (Or.inl rfl)) (pss_one (ps_if (pt_cmpR op_ne (pe_methA h_shows5 (fun x hx => (G.f x (ok5 hx)).c) (hr.mono (by decide)) pass0 (pv 7) (pa_cons (pe_ix (r := rIxT K) ix_tup (pv 0) pe_int (fun _ _ => rfl)) (pa_cons (pe_ix (r := rIxT K) ix_tup (pv 0) pe_int (fun _ _ => rfl)) (pa_cons (pv 1) (pa_cons (pv 2) (pa_cons (pv 11) pa_nil)))))) (pe_fn h__law_due (hr.mono (by decide)) pass0 (pa_cons (pv 0) (pa_cons (pv 1) (pa_cons (pv 2) (pa_cons (pv 11) (pa_cons (pv 7) pa_nil)))))) (nomark _)) (pss_one (ps_ret pe_bl)) pss_nil)))
      (pss_one (ps_ret pe_bl)))))))))))), ?_⟩
    have hL2 : L ≤ 400 := by
      have := Int.mul_le_mul_of_nonneg_left (show (1 : Int) ≤ W by omega) (show 0 ≤ L by omega)
      omega
    have hW2 : W ≤ 400 := by
      have := Int.mul_le_mul_of_nonneg_right (show (1 : Int) ≤ L by omega) (show 0 ≤ W by omega)
      omega
    have hL3 : 0 < L ∧ L ≤ 1000 := ⟨hL, by omega⟩
    have hW3 : 0 < W ∧ W ≤ 1000 := ⟨hW, by omega⟩
    have hn3 : ps.length ≤ 10000 := by omega
    refine ⟨_, rfl, l, _, rfl, .inl (sqL el), fun kp hkp => ?_⟩
    generalize hH1 : upd H kp _ = H1
    obtain ⟨sm1, up1⟩ : Same H H1 ∧ H1 kp = some (.lst (refs ps)) := newH hH1 hkp
    clear hH1
    walk_at "rd"
    refine .mk (sqT (sm1 _ _ hfl)) hL3 hW3 (sqL (sm1 _ _ el)) (hb.mono sm1).all hn3 fun H2 sm2 => ⟨_, _, rfl, ?_⟩
    have s02 := sm1.trans sm2
    have hfl2 := sqT (K := K) (s02 _ _ hfl)
    refine ⟨_, rfl, fl, _, 0, _, rfl, rfl, hfl2, rfl, _, rfl, fl, _, 1, _, rfl, rfl, hfl2, rfl, ?_⟩
    walk_at "rd"
    refine .mk hL hW hm hf hs (s02 _ _ el) (hb.mono s02) (by omega) fun p1 H3 d sm3 at1 ij1 => ?_
    have s03 := s02.trans sm3
    have hfull := ij1.full hL hW
    have hdue := ij1.due hL hW
    obtain ⟨a, ha1, ecl, nosh, hbe⟩ := at1.ans
    have acl : a.cl = .full ∨ a.cl = .beyond ∨ a.cl = .twice ∨ a.cl = .bare := by
      rw [ecl]
      cases d <;> simp [D5.cl]
    -- kinds
    refine ⟨_, rfl, _, _, _, _, _, rfl, .own _, tyA G ha1, kitA G a .full, _, rfl, _, _, _, _, _, rfl, .own _, tyA G ha1, kitA G a .beyond, _, rfl, _, _, _, _, _, rfl, .own _, tyA G ha1, kitA G a .twice, _, rfl, _, _, _, _, _, rfl, .own _, tyA G ha1, kitA G a .bare, ?_⟩
    walk_at "rd"
    intro kl hkl
    generalize hH4 : upd H3 kl _ = H4
    obtain ⟨sm4, up4⟩ : Same H3 H4 ∧ H4 kl = some (.lst [.bl (decide (Cl.full = a.cl) || false), .bl (decide (Cl.beyond = a.cl) || false), .bl (decide (Cl.twice = a.cl) || false), .bl (decide (Cl.bare = a.cl) || false)]) := newH hH4 hkl
    clear hH4
    replace ha1 := ha1.mono sm4
    refine ⟨_, rfl, _, _, _, _, _, rfl, .own _, tyA G ha1, kitA G a .laid, _, rfl, _, _, _, _, _, rfl, .own _, tyA G ha1, kitA G a .striped, _, rfl, _, _, _, _, _, rfl, .own _, tyA G ha1, kitA G a .short, ?_⟩
    walk_at "rd"
    intro wl hwl
    generalize hH5 : upd H4 wl _ = H5
    obtain ⟨sm5, up5⟩ : Same H4 H5 ∧ H5 wl = some (.lst ([decide (Cl.laid = a.cl) || false, decide (Cl.striped = a.cl) || false, decide (Cl.short = a.cl) || false].map V.bl)) := newH hH5 hwl
    clear hH5
    replace ha1 := ha1.mono sm5
    replace up4 := sm5 _ _ up4
    have s05 := s03.trans (sm4.trans sm5)
    have at5 := at1.mono (sm4.trans sm5)
    refine ⟨_, rfl, _, _, _, _, _, rfl, .own _, tyA G ha1, kitA G a .answer, _, rfl, ?_⟩
    rw [show (decide (Cl.answer = a.cl) || decide (Cl.answer = Cl.answer)) = true by rw [decide_eq_true (rfl : Cl.answer = Cl.answer), Bool.or_true]]
    refine iteF ?_
    refine ⟨_, rfl, .inl ⟨rfl, _, sqL up4⟩, kl, _, _, rfl, rfl, sqL up4, rfl, rfl, ?_⟩
    have cnt : [V.bl (decide (Cl.full = a.cl) || false), V.bl (decide (Cl.beyond = a.cl) || false), V.bl (decide (Cl.twice = a.cl) || false), V.bl (decide (Cl.bare = a.cl) || false)].countP (fun z => eqV z (V.bl true)) = 1 := by
      rcases acl with e | e | e | e <;> rw [e] <;> rfl
    rw [cnt]
    refine ⟨rfl, _, rfl, iteNe (fun z => absurd rfl z) (fun _ => ?_)⟩
    have wr : [decide (Cl.laid = a.cl) || false, decide (Cl.striped = a.cl) || false, decide (Cl.short = a.cl) || false].any id = false := by
      rcases acl with e | e | e | e <;> rw [e] <;> rfl
    refine ⟨_, rfl, wl, _, rfl, sqL up5, ?_⟩
    rw [wr]
    refine ⟨_, rfl, iteF ?_⟩
    refine ⟨_, rfl, kl, _, 0, _, rfl, rfl, sqL up4, rfl, _, rfl, rfl, _, rfl, ?_⟩
    have kd : V.bl (decide (Cl.full = a.cl) || false) = V.bl (fullB L W fi se (vals ps)) := by
      rw [Bool.or_false, ecl, show decide (Cl.full = d.cl) = decide (d.cl = Cl.full) from decide_eq_decide.mpr ⟨Eq.symm, Eq.symm⟩, hfull]
    refine iteNP kd (tn ?_)
    dsimp only
    clear cnt wr kd
    have hfl5 := sqT (K := K) (s05 _ _ hfl)
    refine if_noM (Same H5) (fun r hr0 => ?_) fun H6 sm6 => ?_
    · have nxt : ∀ H6, Same H5 H6 → (tAnd (tNot (tB (tVar 6))) (tNot (tB (tCall (SpDue K) [] E0 (tCons (tVar 0) (tCons (tVar 1) (tCons (tVar 2) (tCons (tVar 3) (tCons (tVar 7) tNil)))))))))
          [some (.ref fl), some (.int fi), some (.int se), some (.ref l), some (.ref ol), some (.ref kp), some (.bl (fullB L W fi se (vals ps))), some (.ref p1), some (.ref kl), some (.ref wl), none, none] H6 r := fun H6 sm6 => by
        refine ⟨_, rfl, _, rfl, ?_⟩
        cases hfb : fullB L W fi se (vals ps) with
        | true => exact iteF (hr0 _ sm6)
        | false =>
          refine iteT ?_
          walk_at "rd"
          have s06 := s05.trans sm6
          refine .mk (sqT (s06 _ _ hfl)) hL3 hW3 hf hs (sqL (s06 _ _ el)) (hb.mono s06).all hn3 (at5.mono sm6) fun H7 sm7 => ?_
          rw [hdue]
          exact ⟨_, rfl, hr0 _ (sm6.trans sm7)⟩
      refine ⟨_, rfl, kl, _, 1, _, rfl, rfl, sqL up4, rfl, _, rfl, ?_⟩
      by_cases eb : a.cl = .beyond
      · obtain ⟨i, rfl⟩ := hbe eb
        obtain ⟨dx, hp⟩ := ha1
        have F := G.f .beyond (by decide)
        refine iteT ?_
        exact ⟨_, rfl, p1, _, dx, _, _, rfl, hp, F.c, F.no, rfl, num_int ⟨_, rfl, iteF (nxt _ (Same.refl _))⟩⟩
      · rw [decide_eq_false (fun z => eb z.symm)]
        exact iteF (iteF (nxt _ (Same.refl _)))
    have s06 := s05.trans sm6
    have at6 := at5.mono sm6
    have ha6 := ha1.mono sm6
    have okx := D5.ok d
    rw [← ecl] at okx
    have hfl6 := sqT (K := K) (s06 _ _ hfl)
    obtain ⟨dx, hp⟩ := id ha6
    refine ⟨a.cl, okx, _, rfl, p1, dx, _, rfl, hp, nosh, ?_⟩
    refine ⟨_, rfl, fl, _, 0, _, rfl, rfl, hfl6, rfl, _, rfl, fl, _, 1, _, rfl, rfl, hfl6, rfl, ?_⟩
    walk_at "rd"
    refine .mk at6 ecl.symm hL3 hW3 hf hs (sqL (s06 _ _ el)) (hb.mono s06).all hn3 fun H7 sm7 => ?_
    rw [hdue]
    refine ⟨_, _, rfl, rfl, _, rfl, iteF ?_⟩
    have s07 := s06.trans sm7
    have kp7 := sm7 _ _ (sm6 _ _ (sm5 _ _ (sm4 _ _ (sm3 _ _ (sm2 _ _ up1)))))
    have sh := shp_bricks ps
    refine ⟨_, rfl, _, rfl, _, _, .lst (sqL (s07 _ _ el)) (dp_bricks (hb.mono s07)), .lst (sqL kp7) (dp_bricks (hb.mono s07)), sh.ok (by decide), sh.ok (by decide), ?_⟩
    rw [SeqAt.eqv_refl _ sh.c]
    refine ⟨_, rfl, iteF ?_⟩
    have hfl7 := sqT (K := K) (s07 _ _ hfl)
    refine ⟨_, rfl, fl, _, 0, _, rfl, rfl, hfl7, rfl, _, rfl, fl, _, 1, _, rfl, rfl, hfl7, rfl, ?_⟩
    walk_at "rd"
    refine .mk hL hW hm hf hs (s07 _ _ el) (hb.mono s07) (by omega) fun p2 H8 d2 sm8 at2 ij2 => ?_
    have s08 := s07.trans sm8
    have hfull2 := ij2.full hL hW
    have hdue2 := ij2.due hL hW
    obtain ⟨a2, ha2, ecl2, _, _⟩ := at2.ans
    have at8 := at6.mono (sm7.trans sm8)
    refine gN ?_
    dsimp only
    refine if_noM (Same H8) (fun r hr0 => ?_) fun H9 sm9 => ?_
    · have nxt : ∀ H6, Same H8 H6 → (tTest (tOp rNe (tCB (rIsi K) (tCons (tVar 10) (tCons (tC (V.ref (cl K Cl.full))) tNil))) (tVar 6)))
          [some (.ref fl), some (.int fi), some (.int se), some (.ref l), some (.ref ol), some (.ref kp), some (.bl (fullB L W fi se (vals ps))), some (.ref p1), some (.ref kl), some (.ref wl), some (.ref p2), none] H6 r := fun H6 sm6 => by
        refine ⟨_, rfl, _, _, _, _, _, rfl, .own _, tyA G (ha2.mono sm6), kitA G a2 .full, _, rfl, rfl, _, rfl, ?_⟩
        have kd : V.bl (decide (Cl.full = a2.cl) || false) = V.bl (fullB L W fi se (vals ps)) := by
          rw [Bool.or_false, ecl2, show decide (Cl.full = d2.cl) = decide (d2.cl = Cl.full) from decide_eq_decide.mpr ⟨Eq.symm, Eq.symm⟩, hfull2]
        rw [show (!decide (V.bl (decide (Cl.full = a2.cl) || decide (Cl.full = Cl.answer)) = V.bl (fullB L W fi se (vals ps)))) = false by rw [decide_eq_true (show V.bl (decide (Cl.full = a2.cl) || decide (Cl.full = Cl.answer)) = V.bl (fullB L W fi se (vals ps)) from kd)]; rfl]
        exact hr0 _ sm6
      refine ⟨_, rfl, _, rfl, ?_⟩
      cases hfb : fullB L W fi se (vals ps) with
      | true =>
        rw [hfb] at nxt
        exact iteF (iteF (nxt _ (Same.refl _)))
      | false =>
        rw [hfb] at nxt
        refine iteT ?_
        walk_at "rd"
        refine .mk (sqT (s08 _ _ hfl)) hL3 hW3 hf hs (sqL (s08 _ _ el)) (hb.mono s08).all hn3 at2 fun H9 sm9 => ?_
        rw [hdue2]
        exact ⟨_, rfl, iteF (nxt _ sm9)⟩
    have s09 := s08.trans sm9
    have at9 := at8.mono sm9
    have ha9 := ha6.mono (sm7.trans (sm8.trans sm9))
    have ho9 := s09 _ _ ho
    refine ⟨_, rfl, ol, rfl, ⟨_, sqL ho9⟩, for_list (K := K) (a := ol) (xs := os) (fun j σ H' => RightI fl l ol kp p1 p2 kl wl fi se (fullB L W fi se (vals ps)) H9 σ H') (.mk (Same.refl _)) ?_ ?_ ?_⟩
    · rintro _ _ _ _ ⟨sm⟩
      exact sqL (sm _ _ ho9)
    · rintro j v _ H10 hj @⟨_, _, sm10⟩
      obtain ⟨l2, ps2, rfl, el2, hb2, hn2⟩ := (hos v (List.mem_of_getElem? hj)).mono (s09.trans sm10)
      have s10 := s09.trans sm10
      have hfl10 := sqT (K := K) (s10 _ _ hfl)
      obtain ⟨dx, hp⟩ := ha9.mono sm10
      have at10 := at9.mono sm10
      refine ⟨a.cl, okx, _, rfl, p1, dx, _, rfl, hp, nosh, ?_⟩
      refine ⟨_, rfl, fl, _, 0, _, rfl, rfl, hfl10, rfl, _, rfl, fl, _, 1, _, rfl, rfl, hfl10, rfl, ?_⟩
      walk_at "rd"
      refine .mk at10 ecl.symm hL3 hW3 hf hs (sqL el2) hb2.all (by omega) fun H11 sm11 => ?_
      walk_at "rd"
      refine .mk (Same.tup sm11 hfl10) hL3 hW3 hf hs (sqL (sm11 _ _ el2)) (hb2.mono sm11).all (by omega) (at10.mono sm11) fun H12 sm12 => ?_
      refine ⟨rfl, _, rfl, iteNP rfl (.mk (sm10.trans (sm11.trans sm12)))⟩
    · rintro _ H10 @⟨_, _, sm10⟩
      exact q _ (s09.trans sm10)
end
end BF

/-! ### the law k05 -/
namespace BF
open PySem PySem.Spec PyProof.Rows L2
inductive LB (a fl F : Addr) (wh f s : Int) (H : Hp) : L2.St → Hp → Prop where
  | mk {H' : Hp} {y6 : Option V} (sm : Same H H') : LB a fl F wh f s H [some (.ref a), some (.int wh), some (.ref fl), some (.int f), some (.int s), some (.ref F), y6, none, none] H'
theorem pick2 {x0 x1 : V} (k : Int) : ∃ v, atI [x0, x1] (k % 2) = some v ∧ (v = x0 ∨ v = x1) := by
  rcases Int.emod_two_eq k with e | e <;> rw [e]
  · exact ⟨_, rfl, .inl rfl⟩
  · exact ⟨_, rfl, .inr rfl⟩
theorem cut_br (ps : List (Addr × Brick)) (lo hi : Option Int) : ∃ ps4 : List (Addr × Brick), cutV (refs ps) lo hi = refs ps4 ∧ (∀ p ∈ ps4, p ∈ ps) ∧ ps4.length ≤ ps.length := by
  unfold cutV refs
  refine ⟨_, cut_map _ ps _ _, fun z hz => List.mem_of_mem_drop (List.mem_of_mem_take hz), ?_⟩
  rw [List.length_take, List.length_drop]
  omega
theorem IsJ.is_full {L W f s : Int} {bs : List Brick} {d : D5} (hL : 0 < L) (hW : 0 < W) (h : IsJ L W f s bs d) (e : fullB L W f s bs = true) : d.cl = .full := of_decide_eq_true ((h.full hL hW).trans e)
theorem isj_bare {d : D5} (h : IsJ 2 1 1 1 [⟨0, 0, true⟩] d) : d = .bare (1, 0) := by
  have nb : ([⟨0, 0, true⟩] : List Brick).any (beyB 2 1 1 1) = false := by decide
  cases d with
  | beyond i => exact absurd (beyAt_any h) (by rw [nb]; decide)
  | full => exact absurd (h.2 (1, 0) (by decide)) (by decide)
  | twice c =>
    have h1 := h.2.2
    have h2 : oftN 1 1 [⟨0, 0, true⟩] c ≤ 1 := List.length_filter_le _ _
    omega
  | bare c =>
    obtain ⟨x, y⟩ := c
    have h1 := h.2.1
    have h2 := h.2.2
    unfold cellB at h1
    simp only [Bool.and_eq_true, decide_eq_true_eq] at h1
    have hy : y = 0 := by omega
    have hx : x = 0 ∨ x = 1 := by omega
    subst hy
    rcases hx with rfl | rfl
    · exact absurd h2 (by decide)
    · rfl
theorem isj_bey {d : D5} (h : IsJ 1 1 1 2 [⟨0, 0, false⟩] d) : d = .beyond 0 := by
  have nb : ([⟨0, 0, false⟩] : List Brick).any (beyB 1 1 1 2) = true := by decide
  cases d with
  | beyond i =>
    have h : beyAt 1 1 1 2 [⟨0, 0, false⟩] i = true := h
    unfold beyAt at h
    simp only [Bool.and_eq_true, decide_eq_true_eq] at h
    have h1 := h.1
    have : i = 0 := by
      have h2 : i < ((([⟨0, 0, false⟩] : List Brick).length : Nat) : Int) := h1.2
      have h3 : (([⟨0, 0, false⟩] : List Brick).length) = 1 := rfl
      rw [h3] at h2
      omega
    rw [this]
  | full => exact absurd h.1 (by rw [nb]; decide)
  | twice c => exact absurd h.1 (by rw [nb]; decide)
  | bare c => exact absurd h.1 (by rw [nb]; decide)
section
variable {P : Program} {w : World} {K : PySem.W.Frag} {mg : Str → Option Value} {base : Heap}
theorem H_law (p : Pl K mg "law" s_law) (B : Bi mg) (G : ClG K mg) (h__law_bricks : Has P w K mg base CX0 2 "_law_bricks" ["_law_script"] (SpBricks K)) (h_judged : Has P w K mg base CX0 3 "judged" ["length", "width", "first", "second", "bricks"] (SpJudged K))
    (h__law_right : Has P w K mg base CX0 5 "_law_right" ["_law_floor", "_law_first", "_law_second", "_law_bricks_here", "_law_others"] (SpRight K)) : Has P w K mg base CX0 6 "law" ["_law_script"] (SpLaw K) := by
  refine p.mk0 sc_law (fun _ _ _ _ _ _ us hl => match us, hl with | [_], _ => rfl) (fun vs H Q E h => ?_) (fun f cdv A outer s H vs Q E hr h => ?_)
  · cases h; rfl
  · obtain @⟨a, ns, _, _, _, hl, hbits, hS, q⟩ := h
    refine ⟨_, (pss_cons (ps_set (i := 1) sc_law.nd rfl (Or.inl rfl) (pe_callB (cr_sum rfl) (by rfl) B.sum (by decide +kernel) (pa_cons (pe_slice sl_list (pv 0) po_none (po_some pe_int)) pa_nil)))
      (pss_cons (ps_asg (pe_fn h__law_bricks (hr.mono (by decide)) pass0 (pa_cons (pv 0) pa_nil)) (pg_tup (by rfl) (pgs_cons (pg_name (i := 2) sc_law.nd rfl (Or.inl rfl)) (pgs_cons (pg_name (i := 3) sc_law.nd rfl (Or.inl rfl)) (pgs_cons (pg_name (i := 4) sc_law.nd rfl (Or.inl rfl)) (pgs_cons (pg_name (i := 5) sc_law.nd rfl (Or.inl rfl)) pgs_nil))))))
      (pss_cons (ps_for PassesOwn.never (by rfl) (pi_list (pe_lst (pa_cons (pv 5) (pa_cons (pe_slice sl_list (pv 5) (po_some pe_int) po_none) (pa_cons (pe_op op_cat (pv 5) (pe_slice sl_list (pv 5) po_none (po_some pe_int))) (pa_cons (pe_ix (r := rIxL K) ix_list (pe_lst (pa_cons (pe_slice sl_list (pv 5) po_none (po_some pe_int)) (pa_cons (pe_lst pa_nil) pa_nil))) (pe_op op_mod (pv 1) pe_int) (fun _ _ => rfl)) pa_nil)))))) (pg_name (i := 6) sc_law.nd rfl (Or.inl rfl)) (pss_one (ps_if (pt_not (pt_val (pe_fn h__law_right (hr.mono (by decide)) pass0 (pa_cons (pv 2) (pa_cons (pv 3) (pa_cons (pv 4) (pa_cons (pv 6) (pa_cons (pe_lst (pa_cons (pe_ifExp (pt_cmpR (r := rNeD K) (op_neD hr.units) (pv 6) (pv 5) (nomark _)) (pv 5) (pe_slice sl_list (pv 5) (po_some pe_int) po_none)) pa_nil)) pa_nil)))))))) (pss_one (ps_ret pe_bl)) pss_nil)))
      (pss_cons (ps_set (i := 7) sc_law.nd rfl (Or.inl rfl) (pe_callTy call_list_of (by rfl) B.list (by decide +kernel) (pa_cons (pv 5) pa_nil)))
      (pss_cons (ps_set (i := 8) sc_law.nd rfl (Or.inl rfl) (pe_ix (r := rIxL K) ix_list (pv 7) (pe_op op_mod (pv 1) (pe_callB (r := rLen2 K) call_len_seq (by rfl) B.len PySem.boot_len (pa_cons (pv 7) pa_nil))) (fun _ _ => rfl)))
      (pss_cons (ps_asg (pe_tup (pa_cons (pe_op op_sub (pe_op op_add (pe_ix (r := rIxT K) ix_tup (pv 8) pe_int (fun _ _ => rfl)) pe_int) (pe_op op_mod (pe_op op_fdivW (pv 1) pe_int) pe_int)) (pa_cons (pe_op op_sub (pe_op op_add (pe_ix (r := rIxT K) ix_tup (pv 8) pe_int (fun _ _ => rfl)) (pe_op op_mod (pe_op op_fdivW (pv 1) pe_int) pe_int)) pe_int) (pa_cons (pe_not (pe_ix (r := rIxT K) ix_tup (pv 8) pe_int (fun _ _ => rfl))) pa_nil)))) (pg_sub (pv 7) (pe_op op_mod (pv 1) (pe_callB (r := rLen2 K) call_len_seq (by rfl) B.len PySem.boot_len (pa_cons (pv 7) pa_nil))) set_list))
      (pss_cons (ps_if (PW.pt (pw_or (pt_not (pt_val (pe_fn h__law_right (hr.mono (by decide)) pass0 (pa_cons (pv 2) (pa_cons (pv 3) (pa_cons (pv 4) (pa_cons (pv 7) (pa_cons (pe_lst (pa_cons (pv 5) pa_nil)) pa_nil)))))))) (pw_or1 (pt_not (pt_val (pe_callB (r := rIsi K) call_isi (by rfl) B.isinstance (by decide +kernel) (pa_cons (pe_fn h_judged (hr.mono (by decide)) pass0 (pa_cons pe_int (pa_cons pe_int (pa_cons pe_int (pa_cons pe_int (pa_cons (pe_lst (pa_cons (pe_tup (pa_cons pe_int (pa_cons pe_int (pa_cons pe_bl pa_nil)))) pa_nil)) pa_nil)))))) (pa_cons (pe_glob (v := .ref (cl _ .full)) (by rfl) (G.g .full (by decide)) rfl) pa_nil)))))))) (pss_one (ps_ret pe_bl)) pss_nil)
      (pss_cons (ps_if (pt_not (pt_val (pe_callB (r := rIsi K) call_isi (by rfl) B.isinstance (by decide +kernel) (pa_cons (pe_fn h_judged (hr.mono (by decide)) pass0 (pa_cons pe_int (pa_cons pe_int (pa_cons pe_int (pa_cons pe_int (pa_cons (pe_lst (pa_cons (pe_tup (pa_cons pe_int (pa_cons pe_int (pa_cons pe_bl pa_nil)))) pa_nil)) pa_nil)))))) (pa_cons (pe_glob (v := .ref (cl _ .full)) (by rfl) (G.g .full (by decide)) rfl) pa_nil))))) (pss_one (ps_ret pe_bl)) pss_nil)
      (pss_cons (ps_if (pt_not (pt_val (pe_fn h__law_right (hr.mono (by decide)) pass0 (pa_cons (pe_tup (pa_cons pe_int (pa_cons pe_int pa_nil))) (pa_cons pe_int (pa_cons pe_int (pa_cons (pe_lst (pa_cons (pe_tup (pa_cons pe_int (pa_cons pe_int (pa_cons pe_bl pa_nil)))) pa_nil)) (pa_cons (pe_lst pa_nil) pa_nil)))))))) (pss_one (ps_ret pe_bl)) pss_nil)
      (pss_one (ps_ret (pe_and (pe_cmpR (r := rEqD K) (op_eqD hr.units) (pe_fld (pe_fn h_judged (hr.mono (by decide)) pass0 (pa_cons pe_int (pa_cons pe_int (pa_cons pe_int (pa_cons pe_int (pa_cons (pe_lst (pa_cons (pe_tup (pa_cons pe_int (pa_cons pe_int (pa_cons pe_bl pa_nil)))) pa_nil)) pa_nil)))))) rfl) (pe_tup (pa_cons pe_int (pa_cons pe_int pa_nil))) (nomark _)) (pe_one (pe_cmpR op_eq (pe_fld (pe_fn h_judged (hr.mono (by decide)) pass0 (pa_cons pe_int (pa_cons pe_int (pa_cons pe_int (pa_cons pe_int (pa_cons (pe_lst (pa_cons (pe_tup (pa_cons pe_int (pa_cons pe_int (pa_cons pe_bl pa_nil)))) pa_nil)) pa_nil)))))) rfl) pe_int (nomark _))))))))))))))), ?_⟩
    obtain ⟨ms, ems⟩ := cut_ints ns none (some 63)
    refine ⟨_, rfl, 63, rfl, a, _, rfl, hS, fun p1 hp1 => ⟨p1, ms, rfl, sqL (by rw [← ems]; exact upd_same), ?_⟩⟩
    have sm1 : Same H (upd H p1 (.lst (cutV (ns.map V.int) none (some 63)))) := same_upd hp1
    generalize upd H p1 (.lst (cutV (ns.map V.int) none (some 63))) = H1 at sm1 ⊢
    generalize hwh : ms.sum = wh
    walk_at "rd"
    refine .mk hbits hl (sm1.seq hS) fun pz fl F L W fi se ps H3 sm3 nF epz efl eF hb hp hL hW hf hs => ?_
    refine ⟨pz, _, rfl, sqT epz, rfl, ?_⟩
    have hm : L * W ≤ 400 := (mul_in (x := L) (y := W) (A := 20) (B := 20) (by omega) (by omega) (by omega) (by omega)).2
    have s03 := sm1.trans sm3
    walk_at "rd"
    refine ⟨F, _, rfl, sqL eF, fun l4 hl4 => ?_⟩
    obtain ⟨ps4, eps4, hps4, hlen4⟩ := cut_br ps (some 1) none
    generalize hH4 : upd H3 l4 _ = H4
    obtain ⟨sm4, up4⟩ : Same H3 H4 ∧ H4 l4 = some (.lst (refs ps4)) := by rw [← eps4]; exact newH hH4 hl4
    clear hH4
    obtain ⟨ps5, eps5, hps5, hlen5⟩ := cut_br ps none (some 1)
    have hlen1 : ps5.length ≤ 100 := by
      have e := congrArg List.length eps5
      rw [refs_len] at e
      rw [← e]
      unfold cutV
      rw [List.length_take]
      refine Nat.le_trans (Nat.min_le_left _ _) (Nat.le_trans (Nat.sub_le _ _) ?_)
      have : HT.sIx (refs ps).length (refs ps).length (some 1) ≤ 1 := by
        unfold HT.sIx
        simp
        omega
      omega
    walk_at "rd"
    refine ⟨F, _, rfl, sqL (sm4 _ _ eF), fun l5 hl5 => ?_⟩
    generalize hH5 : upd H4 l5 _ = H5
    obtain ⟨sm5, up5⟩ : Same H4 H5 ∧ H5 l5 = some (.lst (refs ps5)) := by rw [← eps5]; exact newH hH5 hl5
    clear hH5
    have s35 := sm4.trans sm5
    refine ⟨F, l5, _, _, rfl, rfl, s35 _ _ eF, up5, ?_, fun l6 hl6 => ?_⟩
    · rw [refs_len, refs_len]
      exact size4 (by omega)
    generalize hH6 : upd H5 l6 _ = H6
    obtain ⟨sm6, up6⟩ : Same H5 H6 ∧ H6 l6 = some (.lst (refs (ps ++ ps5))) := by rw [refs_app]; exact newH hH6 hl6
    clear hH6
    have s36 := s35.trans sm6
    walk_at "rd"
    refine ⟨F, _, rfl, sqL (s36 _ _ eF), fun l7 hl7 => ?_⟩
    generalize hH7 : upd H6 l7 _ = H7
    obtain ⟨sm7, up7⟩ : Same H6 H7 ∧ H7 l7 = some (.lst (refs ps5)) := by rw [← eps5]; exact newH hH7 hl7
    clear hH7
    walk_at "rd"
    intro l8 hl8
    generalize hH8 : upd H7 l8 _ = H8
    obtain ⟨sm8, up8⟩ : Same H7 H8 ∧ H8 l8 = some (.lst (refs ([] : List (Addr × Brick)))) := newH hH8 hl8
    clear hH8
    walk_at "rd"
    intro l9 hl9
    generalize hH9 : upd H8 l9 _ = H9
    obtain ⟨sm9, up9⟩ : Same H8 H9 ∧ H9 l9 = some (.lst [.ref l7, .ref l8]) := newH hH9 hl9
    clear hH9
    obtain ⟨v9, ev9, hv9⟩ := pick2 (x0 := .ref l7) (x1 := .ref l8) wh
    walk_at "rd"
    refine ⟨l9, _, _, _, rfl, rfl, sqL up9, ev9, ?_⟩
    walk_at "rd"
    intro l10 hl10
    generalize hH10 : upd H9 l10 _ = H10
    obtain ⟨sm10, up10⟩ : Same H9 H10 ∧ H10 l10 = some (.lst [.ref F, .ref l4, .ref l6, v9]) := newH hH10 hl10
    clear hH10
    have s810 : Same H8 H10 := sm9.trans sm10
    have s710 : Same H7 H10 := sm8.trans s810
    have s610 : Same H6 H10 := sm7.trans s710
    have s410 : Same H4 H10 := sm5.trans (sm6.trans s610)
    have s310 : Same H3 H10 := sm4.trans s410
    have hb10 := hb.mono s310
    have bs10 : ∀ v ∈ [V.ref F, V.ref l4, V.ref l6, v9], SomeAt H10 v := by
      intro v hv
      have e : v = .ref F ∨ v = .ref l4 ∨ v = .ref l6 ∨ v = v9 := by simpa using hv
      rcases e with rfl | rfl | rfl | rfl
      · exact ⟨F, ps, rfl, s310 _ _ eF, hb10, by omega⟩
      · exact ⟨l4, ps4, rfl, s410 _ _ up4, hb10.sub hps4, by omega⟩
      · refine ⟨l6, _, rfl, s610 _ _ up6, hb10.app (hb10.sub hps5), ?_⟩
        rw [List.length_append]
        omega
      · rcases hv9 with rfl | rfl
        · exact ⟨l7, ps5, rfl, s710 _ _ up7, hb10.sub hps5, by omega⟩
        · exact ⟨l8, [], rfl, s810 _ _ up8, (fun p hp => nomatch hp), by simp⟩
    generalize [V.ref F, V.ref l4, V.ref l6, v9] = vs at up10 bs10
    have efl10 := s310 _ _ efl
    have eF10 := s310 _ _ eF
    refine ⟨l10, rfl, ⟨_, sqL up10⟩, for_list (K := K) (a := l10) (xs := vs) (fun i σ H' => LB a fl F wh fi se H10 σ H') (.mk (Same.refl _)) ?_ ?_ ?_⟩
    · rintro _ _ _ _ ⟨sm⟩
      exact sqL (sm _ _ up10)
    · rintro i v _ Ha hi @⟨_, _, sma⟩
      obtain ⟨l, bps, rfl, el, hbl, hln⟩ := (bs10 v (List.mem_of_getElem? hi)).mono sma
      have efla := sma _ _ efl10
      have eFa := sma _ _ eF10
      have hba := hb10.mono sma
      walk_at "rd"
      refine ⟨_, _, .lst (sqL el) (dp_bricks hbl), .lst (sqL eFa) (dp_bricks hba), (shp_bricks _).ok (by decide), (shp_bricks _).ok (by decide), ?_⟩
      refine ⟨_, rfl, iteB (fun c => ?_) (fun c => ?_)⟩
      · walk_at "rd"
        intro o hoo
        generalize hHo : upd Ha o _ = Ho
        obtain ⟨smo, upo⟩ : Same Ha Ho ∧ Ho o = some (.lst [.ref F]) := newH hHo hoo
        clear hHo
        refine .mk (smo _ _ efla) hL.1 hW.1 hm hf.1 hs.1 (smo _ _ el) (hbl.mono smo) hln upo (fun v hv => ?_) fun Hc smc => ⟨_, rfl, iteF (.mk (sma.trans (smo.trans smc)))⟩
        rw [List.mem_singleton.mp hv]
        exact ⟨F, ps, rfl, smo _ _ eFa, hba.mono smo, by omega⟩
      · walk_at "rd"
        refine ⟨F, _, rfl, sqL eFa, fun lb hlb => ?_⟩
        generalize hHb : upd Ha lb _ = Hb
        obtain ⟨smb, upb⟩ : Same Ha Hb ∧ Hb lb = some (.lst (refs ps4)) := by rw [← eps4]; exact newH hHb hlb
        clear hHb
        walk_at "rd"
        intro o hoo
        generalize hHo : upd Hb o _ = Ho
        obtain ⟨smo, upo⟩ : Same Hb Ho ∧ Ho o = some (.lst [.ref lb]) := newH hHo hoo
        clear hHo
        have sao := smb.trans smo
        refine .mk (sao _ _ efla) hL.1 hW.1 hm hf.1 hs.1 (sao _ _ el) (hbl.mono sao) hln upo (fun v hv => ?_) fun Hc smc => ⟨_, rfl, iteF (.mk (sma.trans (sao.trans smc)))⟩
        rw [List.mem_singleton.mp hv]
        exact ⟨lb, ps4, rfl, smo _ _ upb, (hba.mono sao).sub hps4, by omega⟩
    rintro _ Ha @⟨_, _, sma⟩
    have s0a := s03.trans (s310.trans sma)
    have efla := sma _ _ efl10
    have eFa := sma _ _ eF10
    have hba := hb10.mono sma
    refine ⟨_, rfl, F, _, rfl, .inl (sqL eFa), fun bt hbt => ?_⟩
    generalize hHb : upd Ha bt _ = Hb
    obtain ⟨smb, upb⟩ : Same Ha Hb ∧ Hb bt = some (.lst (refs ps)) := newH hHb hbt
    clear hHb
    have hlen : 0 < ((refs ps).length : Int) := by rw [refs_len]; omega
    obtain ⟨k, hk⟩ : ∃ k, wh % ((refs ps).length : Int) = k := ⟨_, rfl⟩
    have k0 : 0 ≤ k := by rw [← hk]; exact Int.emod_nonneg _ (by omega)
    have k1 : k < (ps.length : Int) := by
      have := Int.emod_lt_of_pos wh hlen
      rw [hk, refs_len] at this
      exact this
    obtain ⟨pb, hpb, hpbi, epb⟩ := at_refs k0 k1
    refine ⟨_, rfl, _, rfl, _, rfl, bt, _, rfl, .inl (sqL upb), _, _, rfl, rfl, hlen, ?_⟩
    refine ⟨bt, _, _, _, rfl, rfl, sqL upb, (by rw [hk]; exact epb), ?_⟩
    obtain ⟨o, ⟨x, y, b⟩⟩ := pb
    have hob := sqT (K := K) (smb _ _ (hba _ hpb))
    refine ⟨_, rfl, o, _, 0, _, rfl, rfl, hob, rfl, ?_⟩
    walk_at "rd"
    refine ⟨o, _, 1, _, rfl, rfl, hob, rfl, ?_⟩
    walk_at "rd"
    refine ⟨o, _, 2, _, rfl, rfl, hob, rfl, ?_⟩
    walk_at "rd"
    intro t11 ht11
    generalize hHc : upd Hb t11 _ = Hc
    obtain ⟨smc, upc⟩ : Same Hb Hc ∧ Hc t11 = some (.tup (Brick.vs ⟨x + 1 - wh / 5 % 3, y + wh / 15 % 3 - 1, !b⟩)) := newH hHc ht11
    clear hHc
    walk_at "rd"
    obtain ⟨n, rfl⟩ := Int.eq_ofNat_of_zero_le k0
    refine ⟨bt, _, rfl, .inl (sqL (smc _ _ upb)), _, _, rfl, rfl, hlen, ?_⟩
    refine ⟨bt, _, _, n, rfl, rfl, smc _ _ upb, (by rw [hk]; exact Evl.ixN_nat (by rw [refs_len]; omega)), ?_⟩
    have er : (refs ps).set n (.ref t11) = refs (ps.set n (t11, ⟨x + 1 - wh / 5 % 3, y + wh / 15 % 3 - 1, !b⟩)) := by
      unfold refs
      rw [List.map_set]
    have sad : Same Ha (upd Hc bt (.lst ((refs ps).set n (.ref t11)))) := same_mut (smb.trans smc) hbt
    have upd1 : (upd Hc bt (.lst ((refs ps).set n (.ref t11)))) bt = some (.lst (refs (ps.set n (t11, ⟨x + 1 - wh / 5 % 3, y + wh / 15 % 3 - 1, !b⟩)))) := by rw [upd_same, er]
    have hbd : BrT (upd Hc bt (.lst ((refs ps).set n (.ref t11)))) (ps.set n (t11, ⟨x + 1 - wh / 5 % 3, y + wh / 15 % 3 - 1, !b⟩)) := by
      refine BrT.lst (fun p hp => ?_) (smc _ _ upb)
      rcases List.mem_or_eq_of_mem_set hp with z | z
      · exact smc _ _ (smb _ _ (hba p z))
      · rw [z]
        exact upc
    generalize upd Hc bt (.lst ((refs ps).set n (.ref t11))) = Hd at sad upd1 hbd ⊢
    walk_at "rd"
    intro ol hol
    generalize hHe : upd Hd ol _ = He
    obtain ⟨sme, upe⟩ : Same Hd He ∧ He ol = some (.lst [.ref F]) := newH hHe hol
    clear hHe
    have sae := sad.trans sme
    refine .mk (sae _ _ efla) hL.1 hW.1 hm hf.1 hs.1 (sme _ _ upd1) (hbd.mono sme) (by rw [List.length_set]; omega) upe (fun v hv => ?_) fun Hf smf => ⟨_, rfl, iteF ?_⟩
    · rw [List.mem_singleton.mp hv]
      exact ⟨F, ps, rfl, sae _ _ eFa, hba.mono sae, by omega⟩
    have s0f := s0a.trans (sae.trans smf)
    walk_at "rd"
    intro t21 ht21
    generalize hHt21 : upd Hf t21 _ = Ht21
    obtain ⟨smt21, upt21⟩ : Same Hf Ht21 ∧ Ht21 t21 = some (.tup (Brick.vs ⟨0, 0, true⟩)) := newH hHt21 ht21
    clear hHt21
    walk_at "rd"
    intro l21 hl21
    generalize hHl21 : upd Ht21 l21 _ = Hl21
    obtain ⟨sml21, upl21⟩ : Same Ht21 Hl21 ∧ Hl21 l21 = some (.lst (refs [((t21 : Addr), (⟨0, 0, true⟩ : Brick))])) := newH hHl21 hl21
    clear hHl21
    refine .mk (by decide) (by decide) (by decide) (by decide) (by decide) upl21 (.one (sml21 _ _ upt21)) (by simp) fun p21 Hj21 d21 smj21 at21 ij21 => ?_
    have sj21 := smt21.trans (sml21.trans smj21)
    obtain ⟨a21, ha21, ecl21, _, _⟩ := at21.ans
    have ea21 : a21.cl = .full := ecl21.trans (ij21.is_full (by decide) (by decide) (show fullB 1 1 1 1 [⟨0, 0, true⟩] = true by decide))
    refine ⟨_, _, _, _, _, rfl, .own _, tyA G ha21, kitA G a21 .full, ?_⟩
    rw [show (decide (Cl.full = a21.cl) || decide (Cl.full = Cl.answer)) = true by rw [ea21]; rfl]
    refine ⟨_, rfl, iteF ?_⟩
    walk_at "rd"
    intro t22 ht22
    generalize hHt22 : upd Hj21 t22 _ = Ht22
    obtain ⟨smt22, upt22⟩ : Same Hj21 Ht22 ∧ Ht22 t22 = some (.tup (Brick.vs ⟨0, 0, false⟩)) := newH hHt22 ht22
    clear hHt22
    walk_at "rd"
    intro l22 hl22
    generalize hHl22 : upd Ht22 l22 _ = Hl22
    obtain ⟨sml22, upl22⟩ : Same Ht22 Hl22 ∧ Hl22 l22 = some (.lst (refs [((t22 : Addr), (⟨0, 0, false⟩ : Brick))])) := newH hHl22 hl22
    clear hHl22
    refine .mk (by decide) (by decide) (by decide) (by decide) (by decide) upl22 (.one (sml22 _ _ upt22)) (by simp) fun p22 Hj22 d22 smj22 at22 ij22 => ?_
    have sj22 := smt22.trans (sml22.trans smj22)
    obtain ⟨a22, ha22, ecl22, _, _⟩ := at22.ans
    have ea22 : a22.cl = .full := ecl22.trans (ij22.is_full (by decide) (by decide) (show fullB 20 20 20 20 [⟨0, 0, false⟩] = true by decide +kernel))
    refine ⟨_, _, _, _, _, rfl, .own _, tyA G ha22, kitA G a22 .full, ?_⟩
    rw [show (decide (Cl.full = a22.cl) || decide (Cl.full = Cl.answer)) = true by rw [ea22]; rfl]
    refine ⟨_, rfl, iteF ?_⟩
    walk_at "rd"
    intro fl3 hfl3
    generalize hHg : upd Hj22 fl3 _ = Hg
    obtain ⟨smg, upg⟩ : Same Hj22 Hg ∧ Hg fl3 = some (.tup [.int 20, .int 20]) := newH hHg hfl3
    clear hHg
    walk_at "rd"
    intro t23 ht23
    generalize hHt23 : upd Hg t23 _ = Ht23
    obtain ⟨smt23, upt23⟩ : Same Hg Ht23 ∧ Ht23 t23 = some (.tup (Brick.vs ⟨0, 0, true⟩)) := newH hHt23 ht23
    clear hHt23
    walk_at "rd"
    intro l23 hl23
    generalize hHl23 : upd Ht23 l23 _ = Hl23
    obtain ⟨sml23, upl23⟩ : Same Ht23 Hl23 ∧ Hl23 l23 = some (.lst (refs [((t23 : Addr), (⟨0, 0, true⟩ : Brick))])) := newH hHl23 hl23
    clear hHl23
    walk_at "rd"
    intro o3 ho3
    generalize hHo3 : upd Hl23 o3 _ = Ho3
    obtain ⟨smo3, upo3⟩ : Same Hl23 Ho3 ∧ Ho3 o3 = some (.lst []) := newH hHo3 ho3
    clear hHo3
    have slo := sml23.trans smo3
    refine .mk (slo _ _ (smt23 _ _ upg)) (by decide) (by decide) (by decide) (by decide) (by decide) (smo3 _ _ upl23) (.one (slo _ _ upt23)) (by simp) upo3 (fun v hv => nomatch hv) fun Hh smh => ⟨_, rfl, iteF ?_⟩
    have s0h : Same H Hh := s0f.trans (sj21.trans (sj22.trans (smg.trans (smt23.trans (slo.trans smh)))))
    walk_at "rd"
    intro t24 ht24
    generalize hHt24 : upd Hh t24 _ = Ht24
    obtain ⟨smt24, upt24⟩ : Same Hh Ht24 ∧ Ht24 t24 = some (.tup (Brick.vs ⟨0, 0, true⟩)) := newH hHt24 ht24
    clear hHt24
    walk_at "rd"
    intro l24 hl24
    generalize hHl24 : upd Ht24 l24 _ = Hl24
    obtain ⟨sml24, upl24⟩ : Same Ht24 Hl24 ∧ Hl24 l24 = some (.lst (refs [((t24 : Addr), (⟨0, 0, true⟩ : Brick))])) := newH hHl24 hl24
    clear hHl24
    refine .mk (by decide) (by decide) (by decide) (by decide) (by decide) upl24 (.one (sml24 _ _ upt24)) (by simp) fun p24 Hj24 d24 smj24 at24 ij24 => ?_
    have sj24 := smt24.trans (sml24.trans smj24)
    obtain rfl := isj_bare ij24
    obtain ⟨t, h24, ht⟩ : ∃ t, AnsAt K Hj24 p24 (.bare (.ref t)) ∧ Hj24 t = some (.tup (cellV (1, 0))) := by
      cases at24 with
      | bare h ht => exact ⟨_, h, ht⟩
    obtain ⟨dx, hp24⟩ := h24
    have F4 := G.f .bare (by decide)
    refine ⟨p24, _, dx, _, _, rfl, hp24, F4.c, F4.no, rfl, ?_⟩
    walk_at "rd"
    intro t25 ht25
    generalize hHk : upd Hj24 t25 _ = Hk
    obtain ⟨smk, upk⟩ : Same Hj24 Hk ∧ Hk t25 = some (.tup [.int 1, .int 0]) := newH hHk ht25
    clear hHk
    refine ⟨.tuple [.int 1, .int 0], .tuple [.int 1, .int 0], .tup (sqT (smk _ _ ht)) (.cons (.int 1) (.cons (.int 0) .nil)), .tup (sqT upk) (.cons (.int 1) (.cons (.int 0) .nil)), rfl, rfl, ?_⟩
    rw [SeqAt.eqv_refl]
    · refine ⟨_, rfl, iteT ?_⟩
      walk_at "rd"
      intro t26 ht26
      generalize hHt26 : upd Hk t26 _ = Ht26
      obtain ⟨smt26, upt26⟩ : Same Hk Ht26 ∧ Ht26 t26 = some (.tup (Brick.vs ⟨0, 0, false⟩)) := newH hHt26 ht26
      clear hHt26
      walk_at "rd"
      intro l26 hl26
      generalize hHl26 : upd Ht26 l26 _ = Hl26
      obtain ⟨sml26, upl26⟩ : Same Ht26 Hl26 ∧ Hl26 l26 = some (.lst (refs [((t26 : Addr), (⟨0, 0, false⟩ : Brick))])) := newH hHl26 hl26
      clear hHl26
      refine .mk (by decide) (by decide) (by decide) (by decide) (by decide) upl26 (.one (sml26 _ _ upt26)) (by simp) fun p26 Hj26 d26 smj26 at26 ij26 => ?_
      have sj26 := smt26.trans (sml26.trans smj26)
      obtain rfl := isj_bey ij26
      have h26 : AnsAt K Hj26 p26 (.beyond (.int 0)) := by
        cases at26 with
        | beyond h => exact h
      obtain ⟨dx, hp26⟩ := h26
      have F6 := G.f .beyond (by decide)
      refine ⟨p26, _, dx, _, _, rfl, hp26, F6.c, F6.no, rfl, ?_⟩
      walk_at "rd"
      exact q _
    · rfl
end
end BF

/-! ### what the top leaves of the classes -/
namespace BF
open PySem PySem.Spec PyProof.Rows L2
def Cl.one : Cl → Bool
  | .striped => true
  | .short => true
  | .beyond => true
  | .twice => true
  | .bare => true
  | _ => false
def Cl.zero : Cl → Bool
  | .laid => true
  | .full => true
  | _ => false
def shB (K : PySem.W.Frag) (x : Cl) : Bool := x == .answer || (He.Fa.meth x.nm "shows").ok K
def oneB (K : PySem.W.Frag) (x : Cl) : Bool := !x.one || ((He.Fa.mkr x.nm).ok K && (He.Fa.meth x.nm "__init__").ok K)
def zeroB (K : PySem.W.Frag) (x : Cl) : Bool := !x.zero || decide (PySem.W.findIn K (.ref (cl K x)) "__init__" = some (some (.builtin "object.__init__")))
def exB (K : PySem.W.Frag) : Bool := Cl.has.all (clB K) && ((Cl.has.all fun x => shB K x && (oneB K x && zeroB K x)) && true)
section
variable {K : PySem.W.Frag} {x : Cl}
theorem exB_cl (c : exB K = true) : Cl.has.all (clB K) = true := (He.ba c).1
theorem exB_all (c : exB K = true) (hx : x ∈ Cl.has) : shB K x = true ∧ oneB K x = true ∧ zeroB K x = true := by
  have a := List.all_eq_true.mp (He.ba (He.ba c).2).1 x hx
  exact ⟨(He.ba a).1, (He.ba (He.ba a).2).1, (He.ba (He.ba a).2).2⟩
theorem exB_shows (c : exB K = true) (hx : x ∈ Cl.has) (hn : (x == .answer) = false) : Meth K (cl K x) "shows" (He.ma K (cl K x) "shows") := by
  have a := (exB_all c hx).1
  unfold shB at a
  rw [hn] at a
  exact He.meth_ok a
theorem exB_one (c : exB K = true) (hx : x ∈ Cl.has) (h1 : x.one = true) : Mk K (cl K x) (He.ma K (cl K x) "__init__") ∧ Meth K (cl K x) "__init__" (He.ma K (cl K x) "__init__") := by
  have a := (exB_all c hx).2.1
  unfold oneB at a
  rw [h1] at a
  exact ⟨He.mkr_ok (He.ba a).1, He.meth_ok (He.ba a).2⟩
theorem exB_zero (c : exB K = true) (hx : x ∈ Cl.has) (h1 : x.zero = true) : PySem.W.findIn K (.ref (cl K x)) "__init__" = some (some (.builtin "object.__init__")) := by
  have a := (exB_all c hx).2.2
  unfold zeroB at a
  rw [h1] at a
  exact of_decide_eq_true a
end
end BF

namespace BF
open PySem PySem.Spec PyProof.Rows L2
/-! ### what the top leaves: each def by name -/
def d_is_number : He.DefD := ⟨("is_number", none), "is_number", "is_number", defArgs s_is_number, defBody s_is_number, defScope s_is_number, [], []⟩
def d_check_sizes : He.DefD := ⟨("check_sizes", none), "check_sizes", "check_sizes", defArgs s_check_sizes, defBody s_check_sizes, defScope s_check_sizes, [], []⟩
def d_shared : He.DefD := ⟨("shared", none), "shared", "shared", defArgs s_shared, defBody s_shared, defScope s_shared, [], []⟩
def d_parts_of : He.DefD := ⟨("parts_of", none), "parts_of", "parts_of", defArgs s_parts_of, defBody s_parts_of, defScope s_parts_of, [], []⟩
def d_is_striped : He.DefD := ⟨("is_striped", none), "is_striped", "is_striped", defArgs s_is_striped, defBody s_is_striped, defScope s_is_striped, [], []⟩
def d_what_bars : He.DefD := ⟨("what_bars", none), "what_bars", "what_bars", defArgs s_what_bars, defBody s_what_bars, defScope s_what_bars, [], []⟩
def d_Laid_shows : He.DefD := ⟨("Laid", some "shows"), "shows", "Laid.shows", defArgs s_Laid_shows, defBody s_Laid_shows, defScope s_Laid_shows, [], []⟩
def d_Striped___init__ : He.DefD := ⟨("Striped", some "__init__"), "__init__", "Striped.__init__", defArgs s_Striped___init__, defBody s_Striped___init__, defScope s_Striped___init__, [], []⟩
def d_Striped_shows : He.DefD := ⟨("Striped", some "shows"), "shows", "Striped.shows", defArgs s_Striped_shows, defBody s_Striped_shows, defScope s_Striped_shows, [], []⟩
def d_Short___init__ : He.DefD := ⟨("Short", some "__init__"), "__init__", "Short.__init__", defArgs s_Short___init__, defBody s_Short___init__, defScope s_Short___init__, [], []⟩
def d_Short_shows : He.DefD := ⟨("Short", some "shows"), "shows", "Short.shows", defArgs s_Short_shows, defBody s_Short_shows, defScope s_Short_shows, [], []⟩
def d_cells_of : He.DefD := ⟨("cells_of", none), "cells_of", "cells_of", defArgs s_cells_of, defBody s_cells_of, defScope s_cells_of, [], []⟩
def d_is_beyond : He.DefD := ⟨("is_beyond", none), "is_beyond", "is_beyond", defArgs s_is_beyond, defBody s_is_beyond, defScope s_is_beyond, [], []⟩
def d_covers : He.DefD := ⟨("covers", none), "covers", "covers", defArgs s_covers, defBody s_covers, defScope s_covers, [], []⟩
def d_is_cell : He.DefD := ⟨("is_cell", none), "is_cell", "is_cell", defArgs s_is_cell, defBody s_is_cell, defScope s_is_cell, [], []⟩
def d_often : He.DefD := ⟨("often", none), "often", "often", defArgs s_often, defBody s_often, defScope s_often, [], []⟩
def d_Full_shows : He.DefD := ⟨("Full", some "shows"), "shows", "Full.shows", defArgs s_Full_shows, defBody s_Full_shows, defScope s_Full_shows, [], []⟩
def d_Beyond___init__ : He.DefD := ⟨("Beyond", some "__init__"), "__init__", "Beyond.__init__", defArgs s_Beyond___init__, defBody s_Beyond___init__, defScope s_Beyond___init__, [], []⟩
def d_Beyond_shows : He.DefD := ⟨("Beyond", some "shows"), "shows", "Beyond.shows", defArgs s_Beyond_shows, defBody s_Beyond_shows, defScope s_Beyond_shows, [], []⟩
def d_Twice___init__ : He.DefD := ⟨("Twice", some "__init__"), "__init__", "Twice.__init__", defArgs s_Twice___init__, defBody s_Twice___init__, defScope s_Twice___init__, [], []⟩
def d_Twice_shows : He.DefD := ⟨("Twice", some "shows"), "shows", "Twice.shows", defArgs s_Twice_shows, defBody s_Twice_shows, defScope s_Twice_shows, [], []⟩
def d_Bare___init__ : He.DefD := ⟨("Bare", some "__init__"), "__init__", "Bare.__init__", defArgs s_Bare___init__, defBody s_Bare___init__, defScope s_Bare___init__, [], []⟩
def d_Bare_shows : He.DefD := ⟨("Bare", some "shows"), "shows", "Bare.shows", defArgs s_Bare_shows, defBody s_Bare_shows, defScope s_Bare_shows, [], []⟩
def d_is_brick : He.DefD := ⟨("is_brick", none), "is_brick", "is_brick", defArgs s_is_brick, defBody s_is_brick, defScope s_is_brick, [], []⟩
def d_judged : He.DefD := ⟨("judged", none), "judged", "judged", defArgs s_judged, defBody s_judged, defScope s_judged, [], []⟩
def d__law_number : He.DefD := ⟨("_law_number", none), "_law_number", "_law_number", defArgs s__law_number, defBody s__law_number, defScope s__law_number, [], []⟩
def d__law_whole : He.DefD := ⟨("_law_whole", none), "_law_whole", "_law_whole", defArgs s__law_whole, defBody s__law_whole, defScope s__law_whole, [], []⟩
def d__law_sides : He.DefD := ⟨("_law_sides", none), "_law_sides", "_law_sides", defArgs s__law_sides, defBody s__law_sides, defScope s__law_sides, [], []⟩
def d__law_over : He.DefD := ⟨("_law_over", none), "_law_over", "_law_over", defArgs s__law_over, defBody s__law_over, defScope s__law_over, [], []⟩
def d__law_out : He.DefD := ⟨("_law_out", none), "_law_out", "_law_out", defArgs s__law_out, defBody s__law_out, defScope s__law_out, [], []⟩
def d__law_full : He.DefD := ⟨("_law_full", none), "_law_full", "_law_full", defArgs s__law_full, defBody s__law_full, defScope s__law_full, [], []⟩
def d__law_bricks : He.DefD := ⟨("_law_bricks", none), "_law_bricks", "_law_bricks", defArgs s__law_bricks, defBody s__law_bricks, defScope s__law_bricks, [], []⟩
def d__law_is_cell : He.DefD := ⟨("_law_is_cell", none), "_law_is_cell", "_law_is_cell", defArgs s__law_is_cell, defBody s__law_is_cell, defScope s__law_is_cell, [], []⟩
def d__law_due : He.DefD := ⟨("_law_due", none), "_law_due", "_law_due", defArgs s__law_due, defBody s__law_due, defScope s__law_due, [], []⟩
def d__law_right : He.DefD := ⟨("_law_right", none), "_law_right", "_law_right", defArgs s__law_right, defBody s__law_right, defScope s__law_right, [], []⟩
def d_law : He.DefD := ⟨("law", none), "law", "law", defArgs s_law, defBody s_law, defScope s_law, [], []⟩
def fns : List He.DefD := [d_is_number, d_check_sizes, d_shared, d_parts_of, d_is_striped, d_what_bars, d_Laid_shows, d_Striped___init__, d_Striped_shows, d_Short___init__, d_Short_shows, d_cells_of, d_is_beyond, d_covers, d_is_cell, d_often, d_Full_shows, d_Beyond___init__, d_Beyond_shows, d_Twice___init__, d_Twice_shows, d_Bare___init__, d_Bare_shows, d_is_brick, d_judged, d__law_number, d__law_whole, d__law_sides, d__law_over, d__law_out, d__law_full, d__law_bricks, d__law_is_cell, d__law_due, d__law_right, d_law]
def fas : List He.Fa := [.glo "is_number", .glo "check_sizes", .glo "shared", .glo "parts_of", .glo "is_striped", .glo "what_bars", .glo "cells_of", .glo "is_beyond", .glo "covers", .glo "is_cell", .glo "often", .glo "is_brick", .glo "judged", .glo "_law_number", .glo "_law_whole", .glo "_law_sides", .glo "_law_over", .glo "_law_out", .glo "_law_full", .glo "_law_bricks", .glo "_law_is_cell", .glo "_law_due", .glo "_law_right", .glo "law", .free "all", .free "any", .free "bool", .free "enumerate", .free "int", .free "isinstance", .free "len", .free "list", .free "min", .free "range", .free "sum", .free "tuple", .int "MOST" 400]
def loose0 : List PySem.Str := ["FloorError", "BadSize", "BadBricks", "TooGreat", "is_number", "check_sizes", "shared", "parts_of", "Answer", "is_striped", "what_bars", "Laid", "Striped", "Short", "cells_of", "is_beyond", "covers", "is_cell", "often", "Full", "Beyond", "Twice", "Bare", "is_brick", "judged", "_law_number", "_law_whole", "_law_sides", "_law_over", "_law_out"]
def loose1 : List PySem.Str := ["_law_full", "_law_bricks", "_law_is_cell", "_law_due", "_law_right", "MOST"]
def looseN : List PySem.Str := loose0 ++ loose1
def tfs : List He.Defn := []
abbrev R : PySem.W.OpenRow := PySem.W.OpenLaw.row PySem.Challenge.rw_brickfloor_k05_whole_judged
abbrev hk : PySem.W.Hook := He.hookX 7 fas fns [] tfs exB
def ob (s : PySem.W.SharedT) : He.AlX := He.obsX 7 fas fns [] tfs exB (HandSHeadRun.getT s)
theorem ob_eq (s : PySem.W.SharedT) : ob s = hk.obs s.abs := He.obsX_eq (HandSHeadRun.getT_eq s)
theorem run (w : World) : HandSHeadRun.RunEq R (PySem.W.view R.prog [41]) hk ob 4000 looseN w := by
  intro os
  kernel_rfl
abbrev Says (w : World) (h : Heap) (K : PySem.W.Frag) : Prop := He.SaysX fas fns [] tfs exB w h K
section
variable {w : World} {K : PySem.W.Frag} {h : Heap} {mg : Str → Option Value}
theorem pl_is_number (X : K.In h) (G : h.Ns mainGlobals mg) (c : Says w h K) : Pl K mg "is_number" s_is_number := by
  obtain ⟨fd, F⟩ := c.t.d.def_ 0 (d := d_is_number) rfl
  exact ⟨_, fd, F, He.glo_ok X G (c.t.d.fact 0 (f := .glo "is_number") rfl)⟩
theorem pl_check_sizes (X : K.In h) (G : h.Ns mainGlobals mg) (c : Says w h K) : Pl K mg "check_sizes" s_check_sizes := by
  obtain ⟨fd, F⟩ := c.t.d.def_ 1 (d := d_check_sizes) rfl
  exact ⟨_, fd, F, He.glo_ok X G (c.t.d.fact 1 (f := .glo "check_sizes") rfl)⟩
theorem pl_shared (X : K.In h) (G : h.Ns mainGlobals mg) (c : Says w h K) : Pl K mg "shared" s_shared := by
  obtain ⟨fd, F⟩ := c.t.d.def_ 2 (d := d_shared) rfl
  exact ⟨_, fd, F, He.glo_ok X G (c.t.d.fact 2 (f := .glo "shared") rfl)⟩
theorem pl_parts_of (X : K.In h) (G : h.Ns mainGlobals mg) (c : Says w h K) : Pl K mg "parts_of" s_parts_of := by
  obtain ⟨fd, F⟩ := c.t.d.def_ 3 (d := d_parts_of) rfl
  exact ⟨_, fd, F, He.glo_ok X G (c.t.d.fact 3 (f := .glo "parts_of") rfl)⟩
theorem pl_is_striped (X : K.In h) (G : h.Ns mainGlobals mg) (c : Says w h K) : Pl K mg "is_striped" s_is_striped := by
  obtain ⟨fd, F⟩ := c.t.d.def_ 4 (d := d_is_striped) rfl
  exact ⟨_, fd, F, He.glo_ok X G (c.t.d.fact 4 (f := .glo "is_striped") rfl)⟩
theorem pl_what_bars (X : K.In h) (G : h.Ns mainGlobals mg) (c : Says w h K) : Pl K mg "what_bars" s_what_bars := by
  obtain ⟨fd, F⟩ := c.t.d.def_ 5 (d := d_what_bars) rfl
  exact ⟨_, fd, F, He.glo_ok X G (c.t.d.fact 5 (f := .glo "what_bars") rfl)⟩
theorem pl_cells_of (X : K.In h) (G : h.Ns mainGlobals mg) (c : Says w h K) : Pl K mg "cells_of" s_cells_of := by
  obtain ⟨fd, F⟩ := c.t.d.def_ 11 (d := d_cells_of) rfl
  exact ⟨_, fd, F, He.glo_ok X G (c.t.d.fact 6 (f := .glo "cells_of") rfl)⟩
theorem pl_is_beyond (X : K.In h) (G : h.Ns mainGlobals mg) (c : Says w h K) : Pl K mg "is_beyond" s_is_beyond := by
  obtain ⟨fd, F⟩ := c.t.d.def_ 12 (d := d_is_beyond) rfl
  exact ⟨_, fd, F, He.glo_ok X G (c.t.d.fact 7 (f := .glo "is_beyond") rfl)⟩
theorem pl_covers (X : K.In h) (G : h.Ns mainGlobals mg) (c : Says w h K) : Pl K mg "covers" s_covers := by
  obtain ⟨fd, F⟩ := c.t.d.def_ 13 (d := d_covers) rfl
  exact ⟨_, fd, F, He.glo_ok X G (c.t.d.fact 8 (f := .glo "covers") rfl)⟩
theorem pl_is_cell (X : K.In h) (G : h.Ns mainGlobals mg) (c : Says w h K) : Pl K mg "is_cell" s_is_cell := by
  obtain ⟨fd, F⟩ := c.t.d.def_ 14 (d := d_is_cell) rfl
  exact ⟨_, fd, F, He.glo_ok X G (c.t.d.fact 9 (f := .glo "is_cell") rfl)⟩
theorem pl_often (X : K.In h) (G : h.Ns mainGlobals mg) (c : Says w h K) : Pl K mg "often" s_often := by
  obtain ⟨fd, F⟩ := c.t.d.def_ 15 (d := d_often) rfl
  exact ⟨_, fd, F, He.glo_ok X G (c.t.d.fact 10 (f := .glo "often") rfl)⟩
theorem pl_is_brick (X : K.In h) (G : h.Ns mainGlobals mg) (c : Says w h K) : Pl K mg "is_brick" s_is_brick := by
  obtain ⟨fd, F⟩ := c.t.d.def_ 23 (d := d_is_brick) rfl
  exact ⟨_, fd, F, He.glo_ok X G (c.t.d.fact 11 (f := .glo "is_brick") rfl)⟩
theorem pl_judged (X : K.In h) (G : h.Ns mainGlobals mg) (c : Says w h K) : Pl K mg "judged" s_judged := by
  obtain ⟨fd, F⟩ := c.t.d.def_ 24 (d := d_judged) rfl
  exact ⟨_, fd, F, He.glo_ok X G (c.t.d.fact 12 (f := .glo "judged") rfl)⟩
theorem pl__law_number (X : K.In h) (G : h.Ns mainGlobals mg) (c : Says w h K) : Pl K mg "_law_number" s__law_number := by
  obtain ⟨fd, F⟩ := c.t.d.def_ 25 (d := d__law_number) rfl
  exact ⟨_, fd, F, He.glo_ok X G (c.t.d.fact 13 (f := .glo "_law_number") rfl)⟩
theorem pl__law_whole (X : K.In h) (G : h.Ns mainGlobals mg) (c : Says w h K) : Pl K mg "_law_whole" s__law_whole := by
  obtain ⟨fd, F⟩ := c.t.d.def_ 26 (d := d__law_whole) rfl
  exact ⟨_, fd, F, He.glo_ok X G (c.t.d.fact 14 (f := .glo "_law_whole") rfl)⟩
theorem pl__law_sides (X : K.In h) (G : h.Ns mainGlobals mg) (c : Says w h K) : Pl K mg "_law_sides" s__law_sides := by
  obtain ⟨fd, F⟩ := c.t.d.def_ 27 (d := d__law_sides) rfl
  exact ⟨_, fd, F, He.glo_ok X G (c.t.d.fact 15 (f := .glo "_law_sides") rfl)⟩
theorem pl__law_over (X : K.In h) (G : h.Ns mainGlobals mg) (c : Says w h K) : Pl K mg "_law_over" s__law_over := by
  obtain ⟨fd, F⟩ := c.t.d.def_ 28 (d := d__law_over) rfl
  exact ⟨_, fd, F, He.glo_ok X G (c.t.d.fact 16 (f := .glo "_law_over") rfl)⟩
theorem pl__law_out (X : K.In h) (G : h.Ns mainGlobals mg) (c : Says w h K) : Pl K mg "_law_out" s__law_out := by
  obtain ⟨fd, F⟩ := c.t.d.def_ 29 (d := d__law_out) rfl
  exact ⟨_, fd, F, He.glo_ok X G (c.t.d.fact 17 (f := .glo "_law_out") rfl)⟩
theorem pl__law_full (X : K.In h) (G : h.Ns mainGlobals mg) (c : Says w h K) : Pl K mg "_law_full" s__law_full := by
  obtain ⟨fd, F⟩ := c.t.d.def_ 30 (d := d__law_full) rfl
  exact ⟨_, fd, F, He.glo_ok X G (c.t.d.fact 18 (f := .glo "_law_full") rfl)⟩
theorem pl__law_bricks (X : K.In h) (G : h.Ns mainGlobals mg) (c : Says w h K) : Pl K mg "_law_bricks" s__law_bricks := by
  obtain ⟨fd, F⟩ := c.t.d.def_ 31 (d := d__law_bricks) rfl
  exact ⟨_, fd, F, He.glo_ok X G (c.t.d.fact 19 (f := .glo "_law_bricks") rfl)⟩
theorem pl__law_is_cell (X : K.In h) (G : h.Ns mainGlobals mg) (c : Says w h K) : Pl K mg "_law_is_cell" s__law_is_cell := by
  obtain ⟨fd, F⟩ := c.t.d.def_ 32 (d := d__law_is_cell) rfl
  exact ⟨_, fd, F, He.glo_ok X G (c.t.d.fact 20 (f := .glo "_law_is_cell") rfl)⟩
theorem pl__law_due (X : K.In h) (G : h.Ns mainGlobals mg) (c : Says w h K) : Pl K mg "_law_due" s__law_due := by
  obtain ⟨fd, F⟩ := c.t.d.def_ 33 (d := d__law_due) rfl
  exact ⟨_, fd, F, He.glo_ok X G (c.t.d.fact 21 (f := .glo "_law_due") rfl)⟩
theorem pl__law_right (X : K.In h) (G : h.Ns mainGlobals mg) (c : Says w h K) : Pl K mg "_law_right" s__law_right := by
  obtain ⟨fd, F⟩ := c.t.d.def_ 34 (d := d__law_right) rfl
  exact ⟨_, fd, F, He.glo_ok X G (c.t.d.fact 22 (f := .glo "_law_right") rfl)⟩
theorem pl_law (X : K.In h) (G : h.Ns mainGlobals mg) (c : Says w h K) : Pl K mg "law" s_law := by
  obtain ⟨fd, F⟩ := c.t.d.def_ 35 (d := d_law) rfl
  exact ⟨_, fd, F, He.glo_ok X G (c.t.d.fact 23 (f := .glo "law") rfl)⟩
theorem plm_Laid_shows (c : Says w h K) : PlM K .laid "shows" "Laid.shows" s_Laid_shows := by
  obtain ⟨fd, F⟩ := c.t.d.def_ 6 (d := d_Laid_shows) rfl
  exact ⟨_, fd, F, exB_shows c.more (by decide) (by decide)⟩
theorem plm_Striped___init__ (c : Says w h K) : PlM K .striped "__init__" "Striped.__init__" s_Striped___init__ := by
  obtain ⟨fd, F⟩ := c.t.d.def_ 7 (d := d_Striped___init__) rfl
  exact ⟨_, fd, F, (exB_one c.more (by decide) (by decide)).2⟩
theorem plm_Striped_shows (c : Says w h K) : PlM K .striped "shows" "Striped.shows" s_Striped_shows := by
  obtain ⟨fd, F⟩ := c.t.d.def_ 8 (d := d_Striped_shows) rfl
  exact ⟨_, fd, F, exB_shows c.more (by decide) (by decide)⟩
theorem plm_Short___init__ (c : Says w h K) : PlM K .short "__init__" "Short.__init__" s_Short___init__ := by
  obtain ⟨fd, F⟩ := c.t.d.def_ 9 (d := d_Short___init__) rfl
  exact ⟨_, fd, F, (exB_one c.more (by decide) (by decide)).2⟩
theorem plm_Short_shows (c : Says w h K) : PlM K .short "shows" "Short.shows" s_Short_shows := by
  obtain ⟨fd, F⟩ := c.t.d.def_ 10 (d := d_Short_shows) rfl
  exact ⟨_, fd, F, exB_shows c.more (by decide) (by decide)⟩
theorem plm_Full_shows (c : Says w h K) : PlM K .full "shows" "Full.shows" s_Full_shows := by
  obtain ⟨fd, F⟩ := c.t.d.def_ 16 (d := d_Full_shows) rfl
  exact ⟨_, fd, F, exB_shows c.more (by decide) (by decide)⟩
theorem plm_Beyond___init__ (c : Says w h K) : PlM K .beyond "__init__" "Beyond.__init__" s_Beyond___init__ := by
  obtain ⟨fd, F⟩ := c.t.d.def_ 17 (d := d_Beyond___init__) rfl
  exact ⟨_, fd, F, (exB_one c.more (by decide) (by decide)).2⟩
theorem plm_Beyond_shows (c : Says w h K) : PlM K .beyond "shows" "Beyond.shows" s_Beyond_shows := by
  obtain ⟨fd, F⟩ := c.t.d.def_ 18 (d := d_Beyond_shows) rfl
  exact ⟨_, fd, F, exB_shows c.more (by decide) (by decide)⟩
theorem plm_Twice___init__ (c : Says w h K) : PlM K .twice "__init__" "Twice.__init__" s_Twice___init__ := by
  obtain ⟨fd, F⟩ := c.t.d.def_ 19 (d := d_Twice___init__) rfl
  exact ⟨_, fd, F, (exB_one c.more (by decide) (by decide)).2⟩
theorem plm_Twice_shows (c : Says w h K) : PlM K .twice "shows" "Twice.shows" s_Twice_shows := by
  obtain ⟨fd, F⟩ := c.t.d.def_ 20 (d := d_Twice_shows) rfl
  exact ⟨_, fd, F, exB_shows c.more (by decide) (by decide)⟩
theorem plm_Bare___init__ (c : Says w h K) : PlM K .bare "__init__" "Bare.__init__" s_Bare___init__ := by
  obtain ⟨fd, F⟩ := c.t.d.def_ 21 (d := d_Bare___init__) rfl
  exact ⟨_, fd, F, (exB_one c.more (by decide) (by decide)).2⟩
theorem plm_Bare_shows (c : Says w h K) : PlM K .bare "shows" "Bare.shows" s_Bare_shows := by
  obtain ⟨fd, F⟩ := c.t.d.def_ 22 (d := d_Bare_shows) rfl
  exact ⟨_, fd, F, exB_shows c.more (by decide) (by decide)⟩
theorem const_MOST (X : K.In h) (G : h.Ns mainGlobals mg) (c : Says w h K) : ∃ t, mg "MOST" = some (.int 400 t) := He.int_ok X G (c.t.d.fact 36 (f := .int "MOST" 400) rfl)
theorem bi_ok (X : K.In h) (G : h.Ns mainGlobals mg) (c : Says w h K) : Bi mg := ⟨He.free_ok X G (c.t.d.fact 24 (f := .free "all") rfl), He.free_ok X G (c.t.d.fact 25 (f := .free "any") rfl), He.free_ok X G (c.t.d.fact 26 (f := .free "bool") rfl), He.free_ok X G (c.t.d.fact 27 (f := .free "enumerate") rfl), He.free_ok X G (c.t.d.fact 28 (f := .free "int") rfl), He.free_ok X G (c.t.d.fact 29 (f := .free "isinstance") rfl), He.free_ok X G (c.t.d.fact 30 (f := .free "len") rfl), He.free_ok X G (c.t.d.fact 31 (f := .free "list") rfl), He.free_ok X G (c.t.d.fact 32 (f := .free "min") rfl), He.free_ok X G (c.t.d.fact 33 (f := .free "range") rfl), He.free_ok X G (c.t.d.fact 34 (f := .free "sum") rfl), He.free_ok X G (c.t.d.fact 35 (f := .free "tuple") rfl)⟩
end
end BF

namespace BF
open PySem PySem.Spec PyProof.Rows L2
theorem ci_ok {w : World} {K : PySem.W.Frag} {h : Heap} {mg : Str → Option Value} {P : Program} {base : Heap} (X : K.In h) (G : h.Ns mainGlobals mg) (c : Says w h K) (GC : ClG K mg) : ClI P w K mg base := by
  refine ⟨fun x hx h1 => (exB_one c.more hx (by cases x <;> first | rfl | exact h1.elim)).1, fun x hx h1 => ?_, fun x hx h0 => exB_zero c.more hx (by rcases h0 with rfl | rfl <;> rfl)⟩
  cases x with
  | striped => exact H_Striped___init__ (plm_Striped___init__ c) GC
  | short => exact H_Short___init__ (plm_Short___init__ c) GC
  | beyond => exact H_Beyond___init__ (plm_Beyond___init__ c) GC
  | twice => exact H_Twice___init__ (plm_Twice___init__ c) GC
  | bare => exact H_Bare___init__ (plm_Bare___init__ c) GC
  | _ => exact h1.elim
end BF

namespace BF
open PySem PySem.Spec PyProof.Rows L2
def lawLevel : Nat := 6
section
variable {w : World} {K : PySem.W.Frag} {h : Heap} {mg : Str → Option Value} {P : Program} {base : Heap}
theorem has_law (X : K.In h) (G : h.Ns mainGlobals mg) (c : Says w h K) : Has P w K mg base CX0 6 "law" ["_law_script"] (SpLaw K) := by
  have B := bi_ok X G c
  have GC := clB_ok X G (exB_cl c.more)
  have CI := ci_ok (P := P) (base := base) X G c GC
  have M := const_MOST X G c
  have h1 := H_is_number (P := P) (w := w) (base := base) (pl_is_number X G c) B
  have h2 := H_check_sizes (pl_check_sizes X G c) h1
  have g1 := H_is_beyond (P := P) (w := w) (base := base) (pl_is_beyond X G c)
  have g2 := H_covers (P := P) (w := w) (base := base) (pl_covers X G c)
  have g3 := H_often (pl_often X G c) B g2
  have g4 := H_is_cell (pl_is_cell X G c) B h1
  have g5 := H_cells_of (P := P) (w := w) (base := base) (pl_cells_of X G c) B
  have g6 := H_shows5 B GC (plm_Full_shows c) (plm_Beyond_shows c) (plm_Twice_shows c) (plm_Bare_shows c) g1 g5 g4 g3
  have g7 := H_is_brick (pl_is_brick X G c) B h1
  have g8 := H_judged (pl_judged X G c) B GC CI M h2 g7 g1 g3
  have l1 := H__law_number (P := P) (w := w) (base := base) (pl__law_number X G c)
  have l2 := H__law_whole (P := P) (w := w) (base := base) (pl__law_whole X G c) B
  have l7 := H__law_sides (P := P) (w := w) (base := base) (pl__law_sides X G c)
  have l8 := H__law_over (pl__law_over X G c) l7
  have l9 := H__law_out (pl__law_out X G c) B l7
  have l10 := H__law_full (pl__law_full X G c) B l9 l8
  have l11 := H__law_bricks (pl__law_bricks X G c) B l1
  have l12 := H__law_is_cell (pl__law_is_cell X G c) B l2
  have l13 := H__law_due (pl__law_due X G c) B GC l10 l9 l12 l8
  have l14 := H__law_right (pl__law_right X G c) B GC l10 g8 l2 l13 g6
  exact H_law (pl_law X G c) B GC l11 g8 l14
theorem law_at {f : Addr} (X : K.In h) (G : h.Ns mainGlobals mg) (c : Says w h K) (g : mg ("law" : Str) = some (.ref f)) : LamX.LawAtS PySem.Challenge.rw_brickfloor_k05_whole_judged w K CX0 lawLevel 63 "_law_script" mg f h := by
  obtain ⟨f', fd, F, g'⟩ := pl_law X G c
  have e := g.symm.trans g'
  cases e
  refine ⟨fd, [], SpLaw K, (fun _ z => nomatch z), (fun _ z => nomatch z), (fun _ z => nomatch z), fun s u => FunD.bindsA (ps := ["_law_script"]) F (fun _ _ _ _ _ _ us hl => match us, hl with | [_], _ => rfl) s [u] rfl, fun H a ns hl hb _ hS => .mk hl hb hS fun _ => rfl, fun base hK hG _ => (has_law X G c).at F g'⟩
end
end BF

open PySem PySem.W PySem.Calls PyProof.Rows
set_option maxRecDepth 100000 in
set_option maxHeartbeats 8000000 in
theorem PySem.Challenge.cw_brickfloor_k05_whole_judged_holds : PySem.Challenge.rw_brickfloor_k05_whole_judged.Holds := by
  w_on; o_law
  refine HandSHeadRun.head_any (r := OpenLaw.row PySem.Challenge.rw_brickfloor_k05_whole_judged) (q := view (OpenLaw.row PySem.Challenge.rw_brickfloor_k05_whole_judged).prog [41]) (H := BF.hk) (ob := BF.ob) (loose := BF.looseN) (d := HandSHeadRun.topDef (OpenLaw.row PySem.Challenge.rw_brickfloor_k05_whole_judged).prog 41) (kwd := []) BF.ob_eq
    (by kernel_rfl) (fun s => by kernel_rfl) BF.run (by kernel_rfl) (by kernel_rfl) (by kernel_rfl) (by rfl) (by first | assumption | decide +kernel) (by decide +kernel) ⟨rfl, rfl, rfl, rfl, rfl, by decide +kernel⟩ ?hw ?hc
  case hw => w_witness2
  case hc =>
    refine LamX.walk_ofTsE (l := PySem.Challenge.rw_brickfloor_k05_whole_judged) (n := 63) (k := BF.lawLevel) (x := "_law_script") (CX := fun _ => L2.CX0) rfl (by decide) (by kernel_rfl) ⟨rfl, by decide, by decide⟩ ?F (fun _ _ _ _ _ z => z)
    intro w mg fa h Y G hmg0
    obtain ⟨K, KX, c⟩ := Y
    have hmg : mg ("law" : PySem.Str) = some (.ref fa) := by
      have e : (HandSHeadRun.topDef (OpenLaw.row PySem.Challenge.rw_brickfloor_k05_whole_judged).prog 41).name = ("law" : PySem.Str) := by kernel_rfl
      rw [← e]
      exact hmg0
    exact ⟨K, KX, BF.law_at KX G c hmg⟩
