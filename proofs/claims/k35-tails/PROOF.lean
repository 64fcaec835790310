import PyProof.Rows.All
import Wide.All
import OpenK.AllK
import Wide.FinOn
import HandS.ForMost
import HandS.ForExc
import HandS.IsInst
import HandS.Wide
import HandS.Flow
import HandS.Evl
import HandS.StrMore
import HandS.Walk
import HandS.Sort
import HandS.SortKw
import HandS.More
import HandS.SetFor
import KE.SortData
import KE.SortKeyHeap
import KE.DataMinMax
import KE.DataFind
import KE.KDictSum
import PySem.Challenge.RW_aheadword_k35_tails_and_places
set_option Elab.async false
set_option linter.all false
set_option maxRecDepth 100000
set_option maxHeartbeats 4000000
set_option Elab.async false
set_option linter.all false
set_option maxRecDepth 100000
set_option maxHeartbeats 4000000
/-! Ah: words of my own over the layer: a def at its name, boxes of draws, what changes and what stays. -/
namespace Ah
open PySem PySem.Spec PyProof.Rows L2

/-- the def x stands behind the top, as the text st says -/
structure DefAt (K : PySem.W.Frag) (mg : Str → Option Value) (x : Str) (st : Stmt) : Prop where
  ex : ∃ (f : Addr) (fd : FuncData), Fun K x x st f fd ∧ mg x = some (.ref f)
/-- the def x keeps the promise sp, by at most k calls one in another -/
structure Fn (P : Program) (w : World) (K : PySem.W.Frag) (mg : Str → Option Value) (base : Heap) (k : Nat) (x : Str) (ps : List Str) (sp : Sp) : Prop where
  ex : ∃ (f : Addr) (fd : FuncData), FnOk P w K mg base (L2.CX P w) k f fd ps sp ∧ mg x = some (.ref f) ∧ PySem.W.keepIn K (.ref f) = true ∧ Binds K fd ps []
section
variable {P : Program} {w : World} {K : PySem.W.Frag} {mg : Str → Option Value} {base : Heap} {j k : Nat} {x : Str} {ps : List Str} {sp sp' : Sp} {st : Stmt} {N : List Str}
theorem Fn.mono (F : Fn P w K mg base j x ps sp) (h : j ≤ k) : Fn P w K mg base k x ps sp := by
  obtain ⟨f, fd, a, b⟩ := F.ex
  exact ⟨f, fd, a.mono h, b⟩
theorem Fn.imp (F : Fn P w K mg base k x ps sp) (h : ∀ vs H Q E, sp' vs H Q E → sp vs H Q E) : Fn P w K mg base k x ps sp' := by
  obtain ⟨f, fd, a, b⟩ := F.ex
  exact ⟨f, fd, a.imp h, b⟩
/-- how arguments bind, as a premise on the text alone -/
abbrev BindOk (x : Str) (st : Stmt) (ps : List Str) : Prop := ∀ (kV doc pm : Value) (an : Option Addr) (cdv ct : Value) (us : List Value), us.length = ps.length → bindArgs (PySem.W.fnOf x x (defArgs st) (defBody st) (defScope st) .none kV doc pm an cdv ct) ⟨us, []⟩ = pure (ps.zip us)
/-- a def that raises nothing -/
theorem DefAt.ok (D : DefAt K mg x st) (S : FnScope N ps (defScope st)) (B : BindOk x st ps) (len : ∀ vs H Q E, sp vs H Q E → vs.length = ps.length)
    (hbody : ∀ (f : Addr) (cdv : Value) (A : Around) (outer : List Env) (s : Shared) (H : Hp) (vs : List V) (Q : VK) (E : XK), Room k (A.deeper (envOfC x (defScope st) s.heap.objs.size f cdv)) → sp vs H Q E →
      ∃ t, PSs (cxOf (L2.CX P w) P w K mg base N x (defScope st) f cdv A outer s H E).nox (defBody st) t ∧ t { nx := fun _ H' => Q .non H', rt := Q } (start N vs) H) : Fn P w K mg base (k + 1) x ps sp := by
  obtain ⟨f, fd, F, m⟩ := D.ex
  refine ⟨f, fd, F.okX S len fun cdv A outer s H vs Q E hr h => ?_, m, F.kp, F.binds B⟩
  obtain ⟨t, h1, h2⟩ := hbody f cdv A outer s H vs Q E hr h
  exact ⟨t, h1.nox, h2⟩
/-- a def that may raise -/
theorem DefAt.okX (D : DefAt K mg x st) (S : FnScope N ps (defScope st)) (B : BindOk x st ps) (len : ∀ vs H Q E, sp vs H Q E → vs.length = ps.length)
    (hbody : ∀ (f : Addr) (cdv : Value) (A : Around) (outer : List Env) (s : Shared) (H : Hp) (vs : List V) (Q : VK) (E : XK), Room k (A.deeper (envOfC x (defScope st) s.heap.objs.size f cdv)) → sp vs H Q E →
      ∃ t, PSs (cxOf (L2.CX P w) P w K mg base N x (defScope st) f cdv A outer s H E) (defBody st) t ∧ t { nx := fun _ H' => Q .non H', rt := Q } (start N vs) H) : Fn P w K mg base (k + 1) x ps sp := by
  obtain ⟨f, fd, F, m⟩ := D.ex
  exact ⟨f, fd, F.okX S len fun cdv A outer s H vs Q E hr h => hbody f cdv A outer s H vs Q E hr h, m, F.kp, F.binds B⟩
end
section
variable {X : Cx} {k : Nat} {ps : List Str} {sp : Sp} {E : XK} {x : Str} {p pos : Pos} {e : Expr} {es : List Expr} {t : TA}
theorem pe_fn (F : Fn X.prog X.w X.K X.mg X.base k x ps sp) (hr : Room k X.A) (hx : Passes (L2.CX X.prog X.w) X E) (ha : PA X (e :: es) t) (hg : Gl X x := by rfl)
    (hdb : (x == ("__debug__" : Str)) = false := by decide) (he : starEach (e :: es) X.env = (false, eval e X.env) :: starEach es X.env := by rfl) (hpl : (backTo pos (starEach es X.env)).any (·.1) = false := by rfl) :
    PE X (.Call (.Name x p) (e :: es) [] pos) (tCall sp [] E t) := by
  obtain ⟨f, fd, a, m, kp, b⟩ := F.ex
  exact pe_call a hr hg m kp b .nil hx ha hdb he hpl
end

/-! ### what stays -/
/-- all but the object at b stays -/
def But (b : Addr) (H H' : Hp) : Prop := ∀ a o, a ≠ b → H a = some o → H' a = some o
theorem But.refl {b : Addr} {H : Hp} : But b H H := fun _ _ _ h => h
theorem But.trans {b : Addr} {H H1 H2 : Hp} (x : But b H H1) (y : But b H1 H2) : But b H H2 := fun a o n h => y a o n (x a o n h)
theorem But.upd {b : Addr} {H H1 : Hp} {o : HO} (x : But b H H1) : But b H (upd H1 b o) := fun a u n h => by rw [upd_ne n]; exact x a u n h
theorem But.new {b p : Addr} {H H1 : Hp} {o : HO} (x : But b H H1) (h : H1 p = none) : But b H (L2.upd H1 p o) := fun a u n e => by
  have := x a u n e
  rw [upd_ne (ne_of_none this h)]; exact this
theorem Same.new {p : Addr} {H H1 : Hp} {o : HO} (x : Same H H1) (h : H1 p = none) : Same H (upd H1 p o) := fun a u e => by
  have := x a u e
  rw [upd_ne (ne_of_none this h)]; exact this
theorem But.of {b : Addr} {H H1 : Hp} (x : Same H H1) : But b H H1 := fun a o _ h => x a o h
theorem But.free {b p : Addr} {H H1 : Hp} {o : HO} (x : But b H H1) (hb : H1 b = some o) (h : H1 p = none) : H p = none := by
  cases e : H p with
  | none => rfl
  | some u => rw [x p u (by rintro rfl; rw [hb] at h; cases h) e] at h; cases h
theorem But.sql {K : PySem.W.Frag} {b a : Addr} {H H1 : Hp} {xs : List V} (x : But b H H1) (n : a ≠ b) (h : SqL K H a xs) : SqL K H1 a xs := by
  rcases h with (h | ⟨o, h⟩) | h
  · exact .inl (.inl (x _ _ n h))
  · exact .inl (.inr ⟨o, x _ _ n h⟩)
  · exact .inr h

/-! ### boxes of draws -/
/-- a box stands at b: four numbers, whichever -/
def BoxAt (H : Hp) (b : Addr) : Prop := ∃ x0 x1 x2 x3 : Int, H b = some (.lst [.int x0, .int x1, .int x2, .int x3])
theorem BoxAt.keep {H H' : Hp} {b c : Addr} (h : BoxAt H b) (x : But c H H') (n : b ≠ c) : BoxAt H' b := by
  obtain ⟨x0, x1, x2, x3, e⟩ := h
  exact ⟨x0, x1, x2, x3, x _ _ n e⟩
theorem BoxAt.new {H : Hp} {b p : Addr} {o : HO} (h : BoxAt H b) (n : H p = none) : BoxAt (upd H p o) b := by
  obtain ⟨x0, x1, x2, x3, e⟩ := h
  exact ⟨x0, x1, x2, x3, by rw [upd_ne (ne_of_none e n)]; exact e⟩
theorem BoxAt.ne {H : Hp} {b p : Addr} (h : BoxAt H b) (n : H p = none) : b ≠ p := by
  obtain ⟨x0, x1, x2, x3, e⟩ := h
  exact ne_of_none e n
/-- a draw: the box's numbers change, the answer lies below the number asked -/
def spTake : Sp := fun vs H Q _ => ∃ (b : Addr) (m : Int), vs = [.ref b, .int m] ∧ BoxAt H b ∧ 0 < m ∧ m < 18446744073709551616 ∧
  ∀ (r : Int) (H' : Hp), 0 ≤ r → r < m → BoxAt H' b → But b H H' → Q (.int r) H'
theorem use_take {H : Hp} {Q : VK} {E : XK} {b : Addr} {m : Int} (hb : BoxAt H b) (hm : 0 < m) (hl : m < 18446744073709551616)
    (k : ∀ (r : Int) (H' : Hp), 0 ≤ r → r < m → BoxAt H' b → But b H H' → Q (.int r) H') : spTake [.ref b, .int m] H Q E := ⟨b, m, rfl, hb, hm, hl, k⟩

/-! ### steps of a reading -/
theorem dT {p : Prop} [Decidable p] {A B : Prop} (h1 : p → A) (h2 : ¬ p → B) : if decide p = true then A else B := by
  by_cases h : p
  · rw [if_pos (decide_eq_true h)]; exact h1 h
  · rw [if_neg (by rw [decide_eq_false h]; decide)]; exact h2 h
theorem dF {p : Prop} [Decidable p] {A B : Prop} (h1 : ¬ p → A) (h2 : p → B) : if (!decide p) = true then A else B := by
  by_cases h : p
  · rw [decide_eq_true h]; exact iteF (h2 h)
  · rw [decide_eq_false h]; exact iteT (h1 h)
theorem bT {c : Bool} {A B : Prop} (h1 : c = true → A) (h2 : c = false → B) : if c = true then A else B := by
  cases c with
  | true => exact iteT (h1 rfl)
  | false => exact iteF (h2 rfl)
/-! ### the readings' steps, as lemmas -/
section
variable {K : PySem.W.Frag} {H : Hp} {Q : VK} {σ : L2.St} {p : Addr} {xs : List V} {i j : Int} {v x y : V}
theorem s_var {n : Nat} (h : σ[n]? = some (some v)) (q : Q v H) : tVar n σ H Q := ⟨v, h, q⟩
theorem s_ii {g : Int → Int → V} (q : Q (g i j) H) : rI0 g (.int i) (.int j) H Q := ⟨i, j, rfl, rfl, q⟩
theorem s_iiC {C : Int → Int → Prop} {g : Int → Int → V} (c : C i j) (q : Q (g i j) H) : rI C g (.int i) (.int j) H Q := ⟨i, j, rfl, rfl, c, q⟩
theorem s_un {g : Int → V} (q : Q (g i) H) : rU g (.int i) H Q := ⟨i, rfl, q⟩
theorem s_eq (h : scal x y = true) (q : Q (.bl (decide (x = y))) H) : rEq x y H Q := ⟨h, q⟩
theorem s_ne (h : scal x y = true) (q : Q (.bl (!decide (x = y))) H) : rNe x y H Q := ⟨h, q⟩
theorem s_ixL (h : SqL K H p xs) (a : atI xs i = some v) (q : Q v H) : rIxL K (.ref p) (.int i) H Q := ⟨p, xs, i, v, rfl, rfl, h, a, q⟩
theorem s_ixT (h : SqT K H p xs) (a : atI xs i = some v) (q : Q v H) : rIxT K (.ref p) (.int i) H Q := ⟨p, xs, i, v, rfl, rfl, h, a, q⟩
theorem s_setL {q : Hp → Prop} {n : Nat} (h : H p = some (.lst xs)) (a : ixN xs.length i = some n) (k : q (upd H p (.lst (xs.set n v)))) : rSetL (.ref p) (.int i) v H q := ⟨p, xs, i, n, rfl, rfl, h, a, k⟩
theorem s_bl {b : Bool} {q : Bool → Hp → Prop} (k : q b H) : ∃ c, V.bl b = .bl c ∧ q c H := ⟨b, rfl, k⟩
end
/-! ### the combinators opened, one at a time -/
section
variable {K : PySem.W.Frag} {H : Hp} {Q : VK} {σ : L2.St} {D : Ends} {t u : TS} {te ta tb tc : TE} {tt tu : TT} {g : TG} {r r' : R2} {v : V} {T : TA}
theorem u_seq (q : t { D with nx := u D } σ H) : tSeq t u D σ H := q
theorem u_asg (q : te σ H fun x H1 => g x σ H1 D.nx) : tAsg te g D σ H := q
theorem u_drop (q : te σ H fun _ H1 => D.nx σ H1) : tDrop te D σ H := q
theorem u_ret (q : te σ H D.rt) : tRet te D σ H := q
theorem u_retN (q : D.rt .non H) : tRetN D σ H := q
theorem u_next (q : D.nx σ H) : tNext D σ H := q
theorem u_brk (q : D.bk σ H) : tBreak D σ H := q
theorem u_cont (q : D.ct σ H) : tCont D σ H := q
theorem u_ifS (q : tt σ H fun b H1 => if b = true then t D σ H1 else u D σ H1) : tIfS tt t u D σ H := q
theorem u_op (q : ta σ H fun x H1 => tb σ H1 fun y H2 => r x y H2 Q) : tOp r ta tb σ H Q := q
theorem u_un {r : V → Hp → VK → Prop} (q : ta σ H fun x H1 => r x H1 Q) : tUn r ta σ H Q := q
theorem u_c (q : Q v H) : tC v σ H Q := q
theorem u_and {q : Bool → Hp → Prop} (k : tt σ H fun c H1 => if c = true then tu σ H1 q else q false H1) : tAnd tt tu σ H q := k
theorem u_or {q : Bool → Hp → Prop} (k : tt σ H fun c H1 => if c = true then q true H1 else tu σ H1 q) : tOr tt tu σ H q := k
theorem u_not {q : Bool → Hp → Prop} (k : tt σ H fun c H1 => q (!c) H1) : tNot tt σ H q := k
theorem u_andV (q : ta σ H fun x H1 => ∃ c, x = .bl c ∧ if c = true then tb σ H1 Q else Q (.bl false) H1) : tAndV ta tb σ H Q := q
theorem u_orV (q : ta σ H fun x H1 => ∃ c, x = .bl c ∧ if c = true then Q (.bl true) H1 else tb σ H1 Q) : tOrV ta tb σ H Q := q
theorem u_notV (q : ta σ H fun x H1 => ∃ c, x = .bl c ∧ Q (.bl (!c)) H1) : tNotV ta σ H Q := q
theorem u_if (q : tt σ H fun c H1 => if c = true then ta σ H1 Q else tb σ H1 Q) : tIf tt ta tb σ H Q := q
theorem u_test {q : Bool → Hp → Prop} (k : te σ H fun x H' => ∃ k, x = .bl k ∧ q k H') : tTest te σ H q := k
theorem u_B {q : Bool → Hp → Prop} (k : te σ H fun x H1 => ∃ c, x = .bl c ∧ q c H1) : tB te σ H q := k
theorem u_chain (q : ta σ H fun x H1 => tb σ H1 fun y H2 => r x y H2 fun z H3 => ∃ k, z = .bl k ∧ (if k = true then tc σ H3 fun w' H4 => r' y w' H4 Q else Q (.bl false) H3)) : tChain r r' ta tb tc σ H Q := q
theorem u_name {i : Nat} {q : L2.St → Hp → Prop} (k : q (σ.set i (some v)) H) : gName i v σ H q := k
theorem u_sub {s : TSet} {q : L2.St → Hp → Prop} (k : ta σ H fun o H1 => tb σ H1 fun i H2 => s o i v H2 fun H3 => q σ H3) : gSub ta tb s v σ H q := k
theorem u_nil {q : List V → Hp → Prop} (k : q [] H) : tNil σ H q := k
theorem u_cons {q : List V → Hp → Prop} (k : ta σ H fun x H1 => T σ H1 fun xs H2 => q (x :: xs) H2) : tCons ta T σ H q := k
theorem u_call {sp : Sp} {E : XK} (k : T σ H fun vs H1 => sp vs H1 Q E) : tCall sp [] E T σ H Q := by
  show T σ H fun vs H1 => sp (vs ++ []) H1 Q E
  simpa only [List.append_nil] using k
theorem u_CB {f : List V → Hp → VK → Prop} (k : T σ H fun vs H1 => f vs H1 Q) : tCB f T σ H Q := k
theorem u_tup (k : T σ H fun xs H1 => xs.length ≤ sizeLine ∧ ∀ p, H1 p = none → Q (.ref p) (upd H1 p (.tup xs))) : tTup T σ H Q := k
theorem u_lst (k : T σ H fun xs H1 => xs.length ≤ sizeLine ∧ ∀ p, H1 p = none → Q (.ref p) (upd H1 p (.lst xs))) : tLst T σ H Q := k
theorem u_cut {M : L2.St → Hp → Prop} (h : t { D with nx := M } σ H) (k : ∀ σ' H', M σ' H' → u D σ' H') : Evl.tCut t u D σ H := ⟨M, h, k⟩
end

theorem divW {i m : Int} (hm : 0 < m) (hl : m < 18446744073709551616) : CDivW i m := wide_div (b := 64) hm (by
  have e : (2 : Nat) ^ 64 = 18446744073709551616 := by decide
  rw [e]; omega) (by decide) (by decide)
theorem sz {n : Nat} (h : n ≤ 1000) : n ≤ sizeLine := Nat.le_trans h (by decide)
theorem sz16 {n : Nat} (h : n ≤ 16777216) : n ≤ sizeLine := Nat.le_trans h (by rw [sizeLine_eq]; decide)
theorem But.same {b : Addr} {H H1 H2 : Hp} (x : But b H1 H2) (s : Same H H1) (n : H b = none) : Same H H2 := fun a o e => x a o (ne_of_none e n) (s a o e)

/-! ### loops -/
section
variable {K : PySem.W.Frag} {H : Hp} {Q : VK} {σ : L2.St} {D : Ends} {c : TT} {tb : TS} {v : V} {a : Addr} {xs : List V}
theorem w_while (W : Nat → L2.St → Hp → Prop) (m : Nat) (h0 : W m σ H)
    (hs : ∀ m σ H, W m σ H → c σ H fun b H1 => if b = true then ∃ N : L2.St → Hp → Prop, (∀ σ' H', N σ' H' → ∃ m', m' < m ∧ W m' σ' H') ∧ tb { D with nx := N, ct := N, bk := D.nx } σ H1 else D.nx σ H1) : tWhile c tb D σ H := ⟨W, ⟨m, h0⟩, hs⟩
theorem w_turn {W : Nat → L2.St → Hp → Prop} {m : Nat} (k : tb { D with nx := fun σ' H' => ∃ m', m' < m ∧ W m' σ' H', ct := fun σ' H' => ∃ m', m' < m ∧ W m' σ' H', bk := D.nx } σ H) :
    ∃ N : L2.St → Hp → Prop, (∀ σ' H', N σ' H' → ∃ m', m' < m ∧ W m' σ' H') ∧ tb { D with nx := N, ct := N, bk := D.nx } σ H := ⟨_, fun _ _ n => n, k⟩
theorem u_for {wi : TI} {g : TG} (k : wi σ H fun J H1 => ∃ W : Nat → Nat → L2.St → Hp → Prop, (∃ m, W 0 m σ H1) ∧ ∀ i m σ H, W i m σ H →
      (J.stop i H ∧ D.nx σ H) ∨ (J.go i H ∧ ∃ N : L2.St → Hp → Prop, (∀ σ' H', N σ' H' → ∃ m', m' < m ∧ W (i + 1) m' σ' H') ∧ ∀ x H', J.yld i H x H' → g x σ H' fun σ2 H2 => tb { D with nx := N, ct := N, bk := D.nx } σ2 H2)) : tFor wi g tb D σ H := k
theorem u_iList {tl : TE} {R : It → Hp → Prop} (k : tl σ H fun x H1 => ∃ a, x = .ref a ∧ (∃ xs, SqL K H1 a xs) ∧ R (Itl K a) H1) : iList K tl σ H R := k
theorem u_iTup {tl : TE} {R : It → Hp → Prop} (k : tl σ H fun x H1 => ∃ a, x = .ref a ∧ (∃ xs, SqT K H1 a xs) ∧ R (Itt K a) H1) : iTup K tl σ H R := k
theorem u_iRng1 {ta : TA} {R : It → Hp → Prop} (k : ta σ H fun vs H1 => ∃ j : Int, vs = [.int j] ∧ -(2 ^ 62) ≤ j ∧ j < 2 ^ 62 ∧ R (Itr 0 j.toNat) H1) : iRng1 ta σ H R := k
theorem u_iRng2 {ta : TA} {R : It → Hp → Prop} (k : ta σ H fun vs H1 => ∃ i j : Int, vs = [.int i, .int j] ∧ (-(2 ^ 62) ≤ i ∧ i < 2 ^ 62 ∧ -(2 ^ 62) ≤ j ∧ j < 2 ^ 62) ∧ R (Itr i (j - i).toNat) H1) : iRng2 ta σ H R := k
theorem u_gcons {t : TG} {u : TGs} {r : List V} {q : L2.St → Hp → Prop} (k : t v σ H fun σ' H' => u r σ' H' q) : gCons t u (v :: r) σ H q := ⟨v, r, rfl, k⟩
theorem u_gnil {q : L2.St → Hp → Prop} (k : q σ H) : gNil [] σ H q := ⟨rfl, k⟩
theorem s_gtup {n : Nat} {t : TGs} {q : L2.St → Hp → Prop} (h : SqT K H a xs) (l : xs.length = n) (k : t xs σ H q) : gTup K n t (.ref a) σ H q := ⟨a, xs, rfl, h, l, k⟩
theorem s_isi {x : V} {t T : String} {b : Bool} (ty : TyX K H x (.type t)) (k : kitB t T = some b) (q : Q (.bl b) H) : rIsi K [x, .ty T] H Q := ⟨x, .ty T, .type t, .type T, b, rfl, .ty T, ty, kit_ty k, q⟩
end

/-! ### a law's first helpers -/
/-- a cell of the script: some number -/
def spCell (K : PySem.W.Frag) : Sp := fun vs H Q _ => ∃ (a : Addr) (ns : List Int) (i : Int), vs = [.ref a, .int i] ∧ SqL K H a (ns.map V.int) ∧ 0 ≤ i ∧ ∀ r : Int, Q (.int r) H
/-- a new box -/
def spBox : Sp := fun vs H Q _ => ∃ c : Int, vs = [.int c] ∧ ∀ (p : Addr) (H' : Hp), H p = none → Same H H' → BoxAt H' p → Q (.ref p) H'

theorem pow2_pos (k : Nat) : (0 : Int) < 2 ^ k := by
  induction k with
  | zero => decide
  | succ k ih => rw [Int.pow_succ]; omega
theorem pow2_mono {a b : Nat} (h : a ≤ b) : (2 : Int) ^ a ≤ 2 ^ b := by
  induction b with
  | zero => have : a = 0 := by omega
            subst this; exact Int.le_refl _
  | succ b ih =>
    by_cases e : a = b + 1
    · subst e; exact Int.le_refl _
    · have := ih (by omega)
      have := pow2_pos b
      rw [Int.pow_succ]; omega
section
variable {X : Cx} {x : Str} {pos : Pos}
theorem pe_ty (T : String) (hg : Gl X x) (hm : X.mg x = none) (hv : bootBuiltins x = some (.type T)) (hn : x ≠ "__name__" := by decide) (hd : (x == ("__debug__" : Str)) = false := by decide) : PE X (.Name x pos) (tC (.ty T)) := pe_bltn hg hm hv rfl hn hd
end
theorem kb_int_int : kitB "int" "int" = some true := by decide +kernel
theorem kb_int_bool : kitB "int" "bool" = some false := by decide +kernel
theorem kb_int_str : kitB "int" "str" = some false := by decide +kernel
theorem kb_int_list : kitB "int" "list" = some false := by decide +kernel
theorem kb_int_tuple : kitB "int" "tuple" = some false := by decide +kernel
theorem kb_bool_int : kitB "bool" "int" = some true := by decide +kernel
theorem kb_bool_bool : kitB "bool" "bool" = some true := by decide +kernel
theorem kb_bool_str : kitB "bool" "str" = some false := by decide +kernel
theorem kb_bool_list : kitB "bool" "list" = some false := by decide +kernel
theorem kb_bool_tuple : kitB "bool" "tuple" = some false := by decide +kernel
theorem kb_str_int : kitB "str" "int" = some false := by decide +kernel
theorem kb_str_bool : kitB "str" "bool" = some false := by decide +kernel
theorem kb_str_str : kitB "str" "str" = some true := by decide +kernel
theorem kb_str_list : kitB "str" "list" = some false := by decide +kernel
theorem kb_str_tuple : kitB "str" "tuple" = some false := by decide +kernel
theorem kb_NoneType_int : kitB "NoneType" "int" = some false := by decide +kernel
theorem kb_NoneType_bool : kitB "NoneType" "bool" = some false := by decide +kernel
theorem kb_NoneType_str : kitB "NoneType" "str" = some false := by decide +kernel
theorem kb_NoneType_list : kitB "NoneType" "list" = some false := by decide +kernel
theorem kb_NoneType_tuple : kitB "NoneType" "tuple" = some false := by decide +kernel
theorem kb_list_int : kitB "list" "int" = some false := by decide +kernel
theorem kb_list_bool : kitB "list" "bool" = some false := by decide +kernel
theorem kb_list_str : kitB "list" "str" = some false := by decide +kernel
theorem kb_list_list : kitB "list" "list" = some true := by decide +kernel
theorem kb_list_tuple : kitB "list" "tuple" = some false := by decide +kernel
theorem kb_tuple_int : kitB "tuple" "int" = some false := by decide +kernel
theorem kb_tuple_bool : kitB "tuple" "bool" = some false := by decide +kernel
theorem kb_tuple_str : kitB "tuple" "str" = some false := by decide +kernel
theorem kb_tuple_list : kitB "tuple" "list" = some false := by decide +kernel
theorem kb_tuple_tuple : kitB "tuple" "tuple" = some true := by decide +kernel
theorem kb_dict_int : kitB "dict" "int" = some false := by decide +kernel
theorem kb_dict_bool : kitB "dict" "bool" = some false := by decide +kernel
theorem kb_dict_str : kitB "dict" "str" = some false := by decide +kernel
theorem kb_dict_list : kitB "dict" "list" = some false := by decide +kernel
theorem kb_dict_tuple : kitB "dict" "tuple" = some false := by decide +kernel
theorem ntT {A B : Prop} (h : A) : if (!false) = true then A else B := iteT h
theorem ntF {A B : Prop} (h : B) : if (!true) = true then A else B := iteF h
section
variable {K : PySem.W.Frag} {H : Hp} {Q : VK} {σ : L2.St} {te : TE} {tl th : TO} {a : Addr} {xs : List V} {lo hi : Option Int} {z : Str}
theorem u_sl {r : V → Option Int → Option Int → Hp → VK → Prop} (k : te σ H fun x H1 => tl σ H1 fun l H2 => th σ H2 fun u H3 => r x l u H3 Q) : tSl r te tl th σ H Q := k
theorem u_part {q : Option Int → Hp → Prop} (k : te σ H fun x H1 => ∃ i, x = .int i ∧ q (some i) H1) : tPart te σ H q := k
theorem u_nopart {q : Option Int → Hp → Prop} (k : q none H) : tNoPart σ H q := k
theorem s_slL (h : SqL K H a xs) (q : ∀ p, H p = none → Q (.ref p) (upd H p (.lst (cutV xs lo hi)))) : rSlL K (.ref a) lo hi H Q := ⟨a, xs, rfl, h, q⟩
theorem s_slS (h : z.length ≤ sizeLine) (q : Q (.str (cutS z lo hi)) H) : rSlS (.str z) lo hi H Q := ⟨z, rfl, h, q⟩
/-- a part of a list of ints is a list of ints -/
theorem cutV_ints (ns : List Int) (lo hi : Option Int) : ∃ ms : List Int, cutV (ns.map V.int) lo hi = ms.map V.int ∧ ms.length ≤ ns.length := by
  refine ⟨(ns.drop (HT.sIx (ns.map V.int).length 0 lo)).take (HT.sIx (ns.map V.int).length (ns.map V.int).length hi - HT.sIx (ns.map V.int).length 0 lo), ?_, ?_⟩
  · unfold cutV; rw [List.map_take, List.map_drop]
  · rw [List.length_take, List.length_drop]; omega
theorem sql_new {p : Addr} {o : HO} (h : SqL K H a xs) (n : H p = none) : SqL K (upd H p o) a xs := (Same.new (Same.refl H) n).seq h
theorem Same.ne {H H1 : Hp} {b p : Addr} {o : HO} (_ : Same H H1) (h : H1 b = some o) (n : H1 p = none) : b ≠ p := ne_of_none h n
theorem ints_get {ns : List Int} {i : Nat} {x : V} (h : (ns.map V.int)[i]? = some x) : ∃ n, ns[i]? = some n ∧ x = .int n := by
  rw [List.getElem?_map] at h
  cases e : ns[i]? with
  | none => rw [e] at h; cases h
  | some n => rw [e] at h; exact ⟨n, rfl, (Option.some.inj h).symm⟩
end

/-! ### rules whose reading speaks of K, with K told (for a comprehension's block) -/
section
variable {X : Cx} {K : PySem.W.Frag}
theorem pg_tupK {es : List Expr} {k : Nat} {t : TGs} {n : Nat} {pos : Pos} (hK : X.K = K) (hc : X.calm = true) (h : PGs X es t)
    (hn : (assignEach es X.env).length = n := by rfl) (hst : (assignEach es X.env).findIdx? (·.1) = none := by rfl) : PG X (.Tuple es k pos) (gTup K n t) := hK ▸ pg_tup hc h hn hst
theorem pe_fldK {e : Expr} {f : Str} {pos : Pos} {ta : TE} (hK : X.K = K) (he : PE X e ta) (hb : attributeBase e f X.env (eval e X.env) = eval e X.env) : PE X (.Attribute e f pos) (tFld K ta f) := hK ▸ pe_fld he hb
theorem call_len_seqK (hK : X.K = K) : CallR X (.builtin "len") (fun xs H Q => ∃ p ys, xs = [.ref p] ∧ (SqL K H p ys ∨ SqT K H p ys) ∧ Q (.int ys.length) H) := hK ▸ call_len_seq
theorem ix_listK (hK : X.K = K) : IxR X (rIxL K) := hK ▸ ix_list
theorem ix_tupK (hK : X.K = K) : IxR X (rIxT K) := hK ▸ ix_tup
theorem op_in_seqK (hK : X.K = K) : OpR X (compareOp .In) (rIn K false) := hK ▸ op_in_seq
theorem op_notIn_seqK (hK : X.K = K) : OpR X (compareOp .NotIn) (rIn K true) := hK ▸ op_notIn_seq
theorem op_eqDK (hK : X.K = K) (hu : X.A.units + 64 < cLine) : OpR X (compareOp .Eq) (rEqD K) := hK ▸ op_eqD hu
theorem op_neDK (hK : X.K = K) (hu : X.A.units + 64 < cLine) : OpR X (compareOp .NotEq) (rNeD K) := hK ▸ op_neD hu
theorem call_isiK' (hK : X.K = K) : CallR X (.builtin "isinstance") (rIsi K) := hK ▸ call_isi
theorem call_isiTK (hK : X.K = K) : CallR X (.builtin "isinstance") (rIsiT K) := hK ▸ call_isiT
theorem sl_listK (hK : X.K = K) : SlR X (rSlL K) := hK ▸ sl_list
theorem cr_maxK (hK : X.K = K) (hc : X.calm = true) : CallR X (.builtin "max") (rMax K) := hK ▸ cr_max hc
theorem cr_minK' (hK : X.K = K) (hc : X.calm = true) : CallR X (.builtin "min") (rMin K) := hK ▸ cr_min hc
end
section
variable {X : Cx} {x : Str} {pos : Pos}
theorem pe_gstr {z : Str} (h : ∃ t, X.mg x = some (.str z t)) (hg : Gl X x := by rfl) (hd : (x == ("__debug__" : Str)) = false := by decide) : PE X (.Name x pos) (tC (.str z)) := by
  obtain ⟨t, h⟩ := h
  exact pe_glob hg h ⟨t, rfl⟩ hd
theorem pe_gint {z : Int} (h : ∃ t, X.mg x = some (.int z t)) (hg : Gl X x := by rfl) (hd : (x == ("__debug__" : Str)) = false := by decide) : PE X (.Name x pos) (tC (.int z)) := by
  obtain ⟨t, h⟩ := h
  exact pe_glob hg h ⟨t, rfl⟩ hd
end
section
variable {H : Hp} {Q : VK} {σ : L2.St}
theorem u_iStr {te : TE} {R : It → Hp → Prop} (k : te σ H fun v H1 => ∃ x, v = .str x ∧ R (Its x) H1) : iStr te σ H R := k
theorem u_M0 {r : V → List V → Hp → VK → Prop} {to : TE} (k : to σ H fun x H1 => (∃ a, x = .str a) ∧ r x [] H1 Q) : tM0 r to σ H Q := k
theorem u_M1 {r : V → List V → Hp → VK → Prop} {to te : TE} (k : to σ H fun x H1 => (∃ a, x = .str a) ∧ te σ H1 fun y H2 => r x [y] H2 Q) : tM1 r to te σ H Q := k
theorem s_isStr {z : Str} {B : Prop} (k : B) : (∃ a, V.str z = .str a) ∧ B := ⟨⟨z, rfl⟩, k⟩
end
theorem keepN {H : Hp} {p q : Addr} {o u : HO} (h : H p = some o) (n : H q = none) : upd H q u p = some o := by rw [upd_ne (ne_of_none h n)]; exact h
theorem tyX_tup {K : PySem.W.Frag} {H : Hp} {a : Addr} {xs : List V} (h : SqT K H a xs) : TyX K H (.ref a) (.type "tuple") := by
  rcases h with (h | ⟨o, h⟩) | ⟨o, _, _, e, c, _⟩
  · exact .base (.tup h)
  · exact .fTuple h
  · exact .kTuple e c
end Ah
set_option Elab.async false
set_option linter.all false
set_option maxRecDepth 100000
set_option maxHeartbeats 4000000
/-! worths in plain numbers -/
namespace Ah
open PySem PySem.Spec PyProof.Rows L2
/-- a count c of the era e is worth so much at the era n -/
def worth (c e n : Int) : Int := c / 2 ^ (n - e).toNat
theorem worth_at_begin {c e n : Int} (h : n ≤ e) : worth c e n = c := by
  unfold worth
  have : (n - e).toNat = 0 := by omega
  rw [this]; simp
theorem worth_step {c e n : Int} (h : e < n) : worth c e n = worth (c / 2) (e + 1) n := by
  unfold worth
  have h1 : (n - e).toNat = (n - (e + 1)).toNat + 1 := by omega
  rw [h1, Int.pow_succ, Int.mul_comm, Int.ediv_ediv_of_nonneg (by decide)]
theorem worth_zero (e n : Int) : worth 0 e n = 0 := by unfold worth; simp
theorem worth_nonneg {c e n : Int} (h : 0 ≤ c) : 0 ≤ worth c e n := Int.ediv_nonneg h (Int.le_of_lt (pow2_pos _))
theorem worth_le {c e n : Int} (h : 0 ≤ c) : worth c e n ≤ c := Int.ediv_le_self _ h
theorem worth_mono {c d e n : Int} (h : c ≤ d) : worth c e n ≤ worth d e n := Int.ediv_le_ediv (pow2_pos _) h
/-- halved some eras and then some more -/
theorem worth_worth {c e m n : Int} (h1 : e ≤ m) (h2 : m ≤ n) : worth (worth c e m) m n = worth c e n := by
  unfold worth
  rw [Int.ediv_ediv_of_nonneg (Int.le_of_lt (pow2_pos _)), ← Int.pow_add]
  congr 2; omega

/-! ### worth_at, used_mark -/
def spWorth (K : PySem.W.Frag) : Sp := fun vs H Q _ => ∃ (t : Addr) (c e n : Int), vs = [.ref t, .int n] ∧ SqT K H t [.int c, .int e] ∧ 0 ≤ c ∧ Q (.int (worth c e n)) H
def spUsed (K : PySem.W.Frag) : Sp := fun vs H Q _ => ∃ (t : Addr) (c e n m : Int), vs = [.ref t, .int n, .int m] ∧ SqT K H t [.int c, .int e] ∧ 0 ≤ c ∧ ∀ p, H p = none → Q (.ref p) (upd H p (.tup [.int (worth c e n + m), .int n]))
theorem pick2 {a b : Int} {r : Int} {P : Int → Prop} (h0 : 0 ≤ r) (h1 : r < 2) (ha : P a) (hb : P b) : ∃ c : Int, atI [V.int a, V.int b] r = some (.int c) ∧ P c := by
  have : r = 0 ∨ r = 1 := by omega
  rcases this with rfl | rfl
  · exact ⟨_, rfl, ha⟩
  · exact ⟨_, rfl, hb⟩
theorem pick3 {a b c : Int} {r : Int} {P : Int → Prop} (h0 : 0 ≤ r) (h1 : r < 3) (ha : P a) (hb : P b) (hc : P c) : ∃ x : Int, atI [V.int a, V.int b, V.int c] r = some (.int x) ∧ P x := by
  have : r = 0 ∨ r = 1 ∨ r = 2 := by omega
  rcases this with rfl | rfl | rfl
  · exact ⟨_, rfl, ha⟩
  · exact ⟨_, rfl, hb⟩
  · exact ⟨_, rfl, hc⟩
theorem pick4 {a b c d : Int} {r : Int} {P : Int → Prop} (h0 : 0 ≤ r) (h1 : r < 4) (ha : P a) (hb : P b) (hc : P c) (hd : P d) : ∃ x : Int, atI [V.int a, V.int b, V.int c, V.int d] r = some (.int x) ∧ P x := by
  have : r = 0 ∨ r = 1 ∨ r = 2 ∨ r = 3 := by omega
  rcases this with rfl | rfl | rfl | rfl
  · exact ⟨_, rfl, ha⟩
  · exact ⟨_, rfl, hb⟩
  · exact ⟨_, rfl, hc⟩
  · exact ⟨_, rfl, hd⟩
end Ah
set_option Elab.async false
set_option linter.all false
set_option maxRecDepth 100000
set_option maxHeartbeats 4000000
/-! data in the heap -/
namespace Ah
open PySem PySem.Spec PyProof.Rows L2
section
variable {K : PySem.W.Frag} {H H' : Hp}
theorem Same.seqT {a : Addr} {xs : List V} (e : Same H H') (h : SqT K H a xs) : SqT K H' a xs := by
  rcases h with (h | ⟨o, h⟩) | h
  · exact .inl (.inl (e _ _ h))
  · exact .inl (.inr ⟨o, e _ _ h⟩)
  · exact .inr h
mutual
theorem Dp.same (e : Same H H') : ∀ {v : V} {d : PyData}, Dp K H v d → Dp K H' v d
  | _, _, .non => .non
  | _, _, .bl b => .bl b
  | _, _, .int i => .int i
  | _, _, .str x => .str x
  | _, _, .lst h a => .lst (e.seq h) (DpAll.same e a)
  | _, _, .tup h a => .tup (Same.seqT e h) (DpAll.same e a)
theorem DpAll.same (e : Same H H') : ∀ {vs : List V} {ds : List PyData}, DpAll K H vs ds → DpAll K H' vs ds
  | _, _, .nil => .nil
  | _, _, .cons h t => .cons (Dp.same e h) (DpAll.same e t)
end
theorem DpAll.length {vs : List V} {ds : List PyData} : DpAll K H vs ds → vs.length = ds.length := by
  intro h
  induction vs generalizing ds with
  | nil => cases h; rfl
  | cons v vs ih => cases h with | cons _ t => simp [ih t]
theorem DpAll.append : ∀ {vs ws : List V} {ds es : List PyData}, DpAll K H vs ds → DpAll K H ws es → DpAll K H (vs ++ ws) (ds ++ es)
  | [], _, _, _, .nil, b => b
  | _ :: _, _, _, _, .cons h t, b => .cons h (DpAll.append t b)
theorem DpAll.get : ∀ {vs : List V} {ds : List PyData} {i : Nat} {v : V}, DpAll K H vs ds → vs[i]? = some v → ∃ d, ds[i]? = some d ∧ Dp K H v d
  | _, _, 0, _, .cons h _, e => by cases e; exact ⟨_, rfl, h⟩
  | _, _, i + 1, v, .cons _ t, e => by
    obtain ⟨d, h1, h2⟩ := DpAll.get (i := i) (v := v) t (by simpa using e)
    exact ⟨d, by simpa using h1, h2⟩
theorem DpAll.of_map {α : Type} {f : α → V} {g : α → PyData} : ∀ {l : List α}, (∀ a ∈ l, Dp K H (f a) (g a)) → DpAll K H (l.map f) (l.map g)
  | [], _ => .nil
  | a :: l, h => .cons (h a (by simp)) (DpAll.of_map fun b hb => h b (by simp [hb]))
theorem DpAll.mem : ∀ {vs : List V} {ds : List PyData} {v : V}, DpAll K H vs ds → v ∈ vs → ∃ d, d ∈ ds ∧ Dp K H v d
  | _, _, v, .cons h t, hm => by
    rcases List.mem_cons.mp hm with e | hm
    · subst e; exact ⟨_, by simp, h⟩
    · obtain ⟨d, h1, h2⟩ := DpAll.mem t hm
      exact ⟨d, by simp [h1], h2⟩
end
/-! ### flat data, of any depth: what == asks -/
mutual
/-- texts short, depth small -/
def okD : Nat → PyData → Bool
  | _, .none => true
  | _, .bool _ => true
  | _, .int _ => true
  | _, .str x => PyData.strOk x
  | 0, .list _ => false
  | n + 1, .list xs => okDs n xs
  | 0, .tuple _ => false
  | n + 1, .tuple xs => okDs n xs
  | _, .dict _ => false
def okDs : Nat → List PyData → Bool
  | _, [] => true
  | n, x :: xs => okD n x && okDs n xs
end
mutual
theorem okD_shape : ∀ (n : Nat) (d : PyData), okD n d = true → d.canLay0 = true ∧ d.depth ≤ n
  | n, .none, _ => by constructor <;> simp [PyData.canLay0, PyData.depth]
  | n, .bool _, _ => by constructor <;> simp [PyData.canLay0, PyData.depth]
  | n, .int _, _ => by constructor <;> simp [PyData.canLay0, PyData.depth]
  | n, .str x, h => by
    have h' : PyData.strOk x = true := by simpa [okD] using h
    constructor
    · simpa [PyData.canLay0] using h'
    · simp [PyData.depth]
  | 0, .list _, h => by simp [okD] at h
  | n + 1, .list xs, h => by
    obtain ⟨a, b⟩ := okDs_shape n xs (by simpa [okD] using h)
    exact ⟨by simpa [PyData.canLay0] using a, by simp only [PyData.depth]; omega⟩
  | 0, .tuple _, h => by simp [okD] at h
  | n + 1, .tuple xs, h => by
    obtain ⟨a, b⟩ := okDs_shape n xs (by simpa [okD] using h)
    exact ⟨by simpa [PyData.canLay0] using a, by simp only [PyData.depth]; omega⟩
  | n, .dict _, h => by cases n <;> simp [okD] at h
theorem okDs_shape : ∀ (n : Nat) (ds : List PyData), okDs n ds = true → PyData.canLayAll0 ds = true ∧ PyData.depthAll ds ≤ n
  | n, [], _ => by constructor <;> simp [PyData.canLayAll0, PyData.depthAll]
  | n, d :: ds, h => by
    have h' : okD n d = true ∧ okDs n ds = true := by simpa [okDs] using h
    obtain ⟨a, b⟩ := okD_shape n d h'.1
    obtain ⟨a', b'⟩ := okDs_shape n ds h'.2
    exact ⟨by simp [PyData.canLayAll0, a, a'], by simp only [PyData.depthAll]; omega⟩
end
theorem shaped_of {n : Nat} {d : PyData} (h : okD n d = true) (hn : n ≤ 64 := by decide) : SeqAt.shaped d = true := by
  obtain ⟨a, b⟩ := okD_shape n d h
  unfold SeqAt.shaped
  rw [a, Bool.true_and]
  exact decide_eq_true (by omega)
theorem okDs_map {α : Type} {n : Nat} {f : α → PyData} : ∀ {l : List α}, (∀ a ∈ l, okD n (f a) = true) → okDs n (l.map f) = true
  | [], _ => by simp [okDs]
  | a :: l, h => by
    show okDs n (f a :: l.map f) = true
    simp only [okDs, h a (by simp), Bool.true_and]
    exact okDs_map fun b hb => h b (by simp [hb])
theorem eqv_same {n : Nat} {d : PyData} (h : okD n d = true) : PyData.eqv d d = true := SeqAt.eqv_refl d (okD_shape n d h).1
section
variable {K : PySem.W.Frag} {H : Hp} {Q : VK} {x y : V} {d e : PyData}
theorem s_eqD (hx : Dp K H x d) (hy : Dp K H y e) (h1 : SeqAt.shaped d = true) (h2 : SeqAt.shaped e = true) (q : Q (.bl (PyData.eqv d e)) H) : rEqD K x y H Q := ⟨d, e, hx, hy, h1, h2, q⟩
theorem s_neD (hx : Dp K H x d) (hy : Dp K H y e) (h1 : SeqAt.shaped d = true) (h2 : SeqAt.shaped e = true) (q : Q (.bl (!PyData.eqv d e)) H) : rNeD K x y H Q := ⟨d, e, hx, hy, h1, h2, q⟩
end
/-! ### lists of marks: refs to tuples (count, era) -/
def mref (m : Addr × Int × Int) : V := .ref m.1
structure MarksAt (K : PySem.W.Frag) (H : Hp) (p : Addr) (ms : List (Addr × Int × Int)) : Prop where
  seq : SqL K H p (ms.map mref)
  tup : ∀ m ∈ ms, SqT K H m.1 [.int m.2.1, .int m.2.2] ∧ 0 ≤ m.2.1
theorem MarksAt.same {K : PySem.W.Frag} {H H' : Hp} {p : Addr} {ms : List (Addr × Int × Int)} (h : MarksAt K H p ms) (e : Same H H') : MarksAt K H' p ms := ⟨e.seq h.seq, fun m hm => ⟨Same.seqT e (h.tup m hm).1, (h.tup m hm).2⟩⟩
def dMarks (ms : List (Addr × Int × Int)) : PyData := .list (ms.map fun m => .tuple [.int m.2.1, .int m.2.2])
theorem MarksAt.data {K : PySem.W.Frag} {H : Hp} {p : Addr} {ms : List (Addr × Int × Int)} (h : MarksAt K H p ms) : Dp K H (.ref p) (dMarks ms) :=
  .lst h.seq (DpAll.of_map fun m hm => .tup (h.tup m hm).1 (.cons (.int _) (.cons (.int _) .nil)))
theorem ok_marks (ms : List (Addr × Int × Int)) : okD 2 (dMarks ms) = true := by
  unfold dMarks
  simp only [okD]
  exact okDs_map fun m _ => by simp [okD, okDs]
theorem map_get {α β : Type} {f : α → β} {l : List α} {i : Nat} {y : β} (h : (l.map f)[i]? = some y) : ∃ a, l[i]? = some a ∧ y = f a := by
  rw [List.getElem?_map] at h
  cases e : l[i]? with
  | none => rw [e] at h; cases h
  | some n => rw [e] at h; exact ⟨n, rfl, (Option.some.inj h).symm⟩
theorem take_more {α : Type} {l : List α} {i : Nat} {x : α} (h : l[i]? = some x) : l.take (i + 1) = l.take i ++ [x] := by
  obtain ⟨hi, e⟩ := List.getElem?_eq_some_iff.mp h
  rw [List.take_succ, h]; rfl
/-- a list's greatest worth -/
def spGreat (K : PySem.W.Frag) : Sp := fun vs H Q _ => ∃ (p : Addr) (ms : List (Addr × Int × Int)) (n : Int), vs = [.ref p, .int n] ∧ MarksAt K H p ms ∧ ms.length ≤ 1000 ∧
  (ms = [] → ∀ H', Same H H' → Q .non H') ∧ (∀ (g : Int) (H' : Hp), Same H H' → (∃ m ∈ ms, g = worth m.2.1 m.2.2 n) → (∀ m ∈ ms, worth m.2.1 m.2.2 n ≤ g) → Q (.int g) H')

/-! ### comprehensions whose values are told by the turn alone -/
def PvV (res : Nat → List V) (H1 : Hp) (D : Addr) (i : Nat) (H : Hp) : Prop := Same H1 H ∧ H D = some (.lst (res i))
section
variable {res : Nat → List V} {H1 H H4 : Hp} {D : Addr} {i : Nat} {y : V}
theorem lc_begin (hD : H1 D = none) (r0 : res 0 = []) : PvV res H1 D 0 (upd H1 D (.lst [])) := ⟨Same.new (Same.refl _) hD, by rw [upd_same, r0]⟩
theorem Same.mut {H1 H : Hp} {D : Addr} {o : HO} (s : Same H1 H) (hD : H1 D = none) : Same H1 (upd H D o) := fun a u e => by
  rw [upd_ne (ne_of_none e hD)]; exact s a u e
theorem lc_put (p : PvV res H1 D i H) (hD : H1 D = none) (e : Same H H4) (er : res (i + 1) = res i ++ [y]) (hl : (res i).length < sizeLine) :
    ∃ acc, H4 D = some (.lst acc) ∧ acc.length < sizeLine ∧ PvV res H1 D (i + 1) (upd H4 D (.lst (acc ++ [y]))) :=
  ⟨res i, e _ _ p.2, hl, Same.mut (p.1.trans e) hD, by rw [upd_same, er]⟩
theorem lc_skip (p : PvV res H1 D i H) (e : Same H H4) (er : res (i + 1) = res i) : PvV res H1 D (i + 1) H4 := ⟨p.1.trans e, by rw [er]; exact e _ _ p.2⟩
end
/-- the values of a map, so far -/
def resM {α : Type} (l : List α) (g : α → V) (i : Nat) : List V := (l.take i).map g
theorem resM_0 {α : Type} {l : List α} {g : α → V} : resM l g 0 = [] := by simp [resM]
theorem resM_s {α : Type} {l : List α} {g : α → V} {i : Nat} {x : α} (h : l[i]? = some x) : resM l g (i + 1) = resM l g i ++ [g x] := by
  unfold resM; rw [take_more h, List.map_append]; rfl
theorem resM_all {α : Type} {l : List α} {g : α → V} {n : Nat} (h : n = l.length) : resM l g n = l.map g := by subst h; simp [resM]
theorem resM_len {α : Type} {l : List α} {g : α → V} {i : Nat} (h : l.length ≤ 100000) : (resM l g i).length < sizeLine := by
  have : (resM l g i).length ≤ l.length := by simp [resM]; omega
  rw [sizeLine_eq]; omega
/-- those of a filter, then mapped, so far -/
def resF {α : Type} (l : List α) (p : α → Bool) (g : α → V) (i : Nat) : List V := ((l.take i).filter p).map g
theorem resF_0 {α : Type} {l : List α} {p : α → Bool} {g : α → V} : resF l p g 0 = [] := by simp [resF]
theorem resF_y {α : Type} {l : List α} {p : α → Bool} {g : α → V} {i : Nat} {x : α} (h : l[i]? = some x) (c : p x = true) : resF l p g (i + 1) = resF l p g i ++ [g x] := by
  unfold resF; rw [take_more h, List.filter_append, List.map_append]; simp [c]
theorem resF_n {α : Type} {l : List α} {p : α → Bool} {g : α → V} {i : Nat} {x : α} (h : l[i]? = some x) (c : p x = false) : resF l p g (i + 1) = resF l p g i := by
  unfold resF; rw [take_more h, List.filter_append, List.map_append]; simp [c]
theorem resF_all {α : Type} {l : List α} {p : α → Bool} {g : α → V} {n : Nat} (h : n = l.length) : resF l p g n = (l.filter p).map g := by subst h; simp [resF]
theorem resF_len {α : Type} {l : List α} {p : α → Bool} {g : α → V} {i : Nat} (h : l.length ≤ 100000) : (resF l p g i).length < sizeLine := by
  have h1 : (resF l p g i).length ≤ (l.take i).length := by unfold resF; rw [List.length_map]; exact List.length_filter_le _ _
  have h2 : (l.take i).length ≤ l.length := by simp; omega
  rw [sizeLine_eq]; omega
section
variable {H : Hp} {Q : VK} {σ : L2.St}
theorem u_lc {wi : TI} {g : TG} {tt : TT} {te : TE} {vs : List Nat} (k : wi σ H fun J H1 => ∀ D, H1 D = none → ∃ W : Nat → Nat → Hp → Prop, (∃ m, W 0 m (upd H1 D (.lst []))) ∧ ∀ i m H, W i m H →
  (J.stop i H ∧ Q (.ref D) H) ∨ (J.go i H ∧ ∃ Nx : Hp → Prop, (∀ H', Nx H' → ∃ m', m' < m ∧ W (i + 1) m' H') ∧ ∀ x H', J.yld i H x H' → g x (wipe σ vs) H' fun σ2 H2 => wipe σ2 vs = wipe σ vs ∧ tt σ2 H2 fun b H3 =>
    if b = true then te σ2 H3 fun y H4 => ∃ acc, H4 D = some (.lst acc) ∧ acc.length < sizeLine ∧ Nx (upd H4 D (.lst (acc ++ [y]))) else Nx H3)) : tLc wi g tt te vs σ H Q := k
theorem u_yes {q : Bool → Hp → Prop} (k : q true H) : tYes σ H q := k
end

section
variable {K : PySem.W.Frag} {H : Hp} {Q : VK} {σ : L2.St} {T : String} {r : V → List V → Hp → VK → Prop} {to : TE} {t : TA} {p : Addr} {xs : List V} {B : Prop}
theorem u_bm (k : to σ H fun x H1 => tyV K T x H1 ∧ t σ H1 fun xs H2 => r x xs H2 Q) : tBM K T r to t σ H Q := k
theorem u_bm0 (k : to σ H fun x H1 => tyV K T x H1 ∧ r x [] H1 Q) : tBM0 K T r to σ H Q := k
theorem s_tyL (h : SqL K H p xs) (k : B) : tyV K "list" (.ref p) H ∧ B := ⟨.inl ⟨rfl, _, h⟩, k⟩
theorem s_app {y : V} (h : H p = some (.lst xs)) (hl : xs.length < sizeLine) (q : Q .non (upd H p (.lst (xs ++ [y])))) : rAppend (.ref p) [y] H Q := ⟨p, xs, y, rfl, rfl, h, hl, q⟩
end
end Ah
set_option Elab.async false
set_option linter.all false
set_option maxRecDepth 100000
set_option maxHeartbeats 4000000
/-! words: texts as lists of signs -/
namespace Ah
open PySem PySem.Spec PyProof.Rows L2 TL
def low (c : Nat) : Bool := decide (97 ≤ c) && decide (c ≤ 122)
def partL (l : List Nat) : Bool := decide (1 ≤ l.length) && decide (l.length ≤ 12) && l.all low
/-- cut at the blanks, acc ahead -/
def spA : List Nat → List Nat → List (List Nat)
  | acc, [] => [acc]
  | acc, c :: r => if c = 32 then acc :: spA [] r else spA (acc ++ [c]) r
theorem spl_spA : ∀ (l acc : List Nat), spl [32] 0 acc l = spA acc l
  | [], acc => by simp [spl, spA]
  | c :: r, acc => by
    by_cases h : c = 32
    · subst h
      rw [spl_hit (by simp [pre])]
      show acc :: spl [32] 0 [] r = _
      rw [spl_spA r []]; simp [spA]
    · rw [spl_miss (by simp [pre, h]), spl_spA r]; simp [spA, h]
def wordL (l : List Nat) : Bool := decide (l.length ≤ 24) && decide ((spA [] l).length ≤ 4) && (spA [] l).all partL
def isW (s : Str) : Bool := wordL (tl s)
theorem tl_blank : tl (Str.ofString " ") = [32] := by rw [tl_ofString]; rfl
theorem split_blank (s : Str) : (Txt.split s (Str.ofString " ")).map tl = spA [] (tl s) := by
  rw [split_spl s _ (by rw [tl_blank]; simp) (kind_ok (by decide +kernel)), tl_blank, spl_spA]
theorem spA_ne : ∀ (l acc : List Nat), spA acc l ≠ []
  | [], acc => by simp [spA]
  | c :: r, acc => by
    unfold spA; split
    · simp
    · exact spA_ne r _
theorem joinL_cons (p : List Nat) {ps : List (List Nat)} (h : ps ≠ []) : joinL [32] (p :: ps) = p ++ 32 :: joinL [32] ps := by
  cases ps with
  | nil => exact absurd rfl h
  | cons q r => rfl
theorem join_spA : ∀ (l acc : List Nat), joinL [32] (spA acc l) = acc ++ l
  | [], acc => by simp [spA, joinL]
  | c :: r, acc => by
    unfold spA; split
    · rename_i h; subst h
      rw [joinL_cons _ (spA_ne r []), join_spA r []]; rfl
    · rw [join_spA r]; simp
theorem spA_app : ∀ (p acc : List Nat) (r : List Nat), 32 ∉ p → spA acc (p ++ r) = spA (acc ++ p) r
  | [], acc, r, _ => by simp
  | c :: p, acc, r, h => by
    have hc : c ≠ 32 := fun e => h (by simp [e])
    show spA acc (c :: (p ++ r)) = _
    unfold spA
    rw [if_neg hc, spA_app p _ r (fun e => h (by simp [e]))]
    simp
    cases r <;> simp [spA]
theorem spA_one {p : List Nat} (h : 32 ∉ p) : spA [] p = [p] := by
  have := spA_app p [] [] h
  simpa [spA] using this
theorem spA_join : ∀ {ps : List (List Nat)}, ps ≠ [] → (∀ p ∈ ps, 32 ∉ p) → spA [] (joinL [32] ps) = ps
  | [], h, _ => absurd rfl h
  | [p], _, hp => spA_one (hp p (by simp))
  | p :: q :: r, _, hp => by
    show spA [] (p ++ (32 :: joinL [32] (q :: r))) = _
    rw [spA_app p [] _ (hp p (by simp))]
    show spA ([] ++ p) (32 :: joinL [32] (q :: r)) = _
    unfold spA
    rw [if_pos rfl, spA_join (by simp) fun z hz => hp z (by simp [hz])]
    rfl
/-- the first part begins with acc -/
theorem spA_head : ∀ (l acc : List Nat), ∃ q ps, spA acc l = (acc ++ q) :: ps
  | [], acc => ⟨[], [], by simp [spA]⟩
  | c :: r, acc => by
    unfold spA; split
    · exact ⟨[], spA [] r, by simp⟩
    · obtain ⟨q, ps, e⟩ := spA_head r (acc ++ [c])
      exact ⟨c :: q, ps, by rw [e]; simp⟩
theorem low_ne {c : Nat} (h : low c = true) : c ≠ 32 := by
  rintro rfl; simp [low] at h
theorem partL_no {p : List Nat} (h : partL p = true) : 32 ∉ p := fun hm => by
  unfold partL at h
  simp only [Bool.and_eq_true, List.all_eq_true] at h
  exact low_ne (h.2 32 hm) rfl
theorem partL_ne {p : List Nat} (h : partL p = true) : p ≠ [] := by
  rintro rfl; simp [partL] at h
/-- a word by its parts -/
theorem wordL_iff {l : List Nat} : wordL l = true ↔ ∃ ps : List (List Nat), ps ≠ [] ∧ ps.length ≤ 4 ∧ (∀ p ∈ ps, partL p = true) ∧ l = joinL [32] ps ∧ l.length ≤ 24 := by
  constructor
  · intro h
    unfold wordL at h
    simp only [Bool.and_eq_true, decide_eq_true_eq, List.all_eq_true] at h
    exact ⟨spA [] l, spA_ne _ _, h.1.2, h.2, by rw [join_spA]; rfl, h.1.1⟩
  · rintro ⟨ps, h1, h2, h3, rfl, h4⟩
    unfold wordL
    rw [spA_join h1 fun p hp => partL_no (h3 p hp)]
    simp only [Bool.and_eq_true, decide_eq_true_eq, List.all_eq_true]
    exact ⟨⟨h4, h2⟩, h3⟩
/-! ### going over the signs -/
def scan : Nat → Nat → List Nat → Bool
  | n, p, [] => decide (0 < n) && decide (p < 5)
  | n, p, c :: r => if c = 32 then (if n = 0 then false else scan 0 (p + 1) r) else if low c = true then (if 12 < n + 1 then false else scan (n + 1) p r) else false
theorem all_head_false {q : List Nat} {acc : List Nat} {l : List Nat} (h : ∀ q, partL (acc ++ q) = false) : (spA acc l).all partL = false := by
  obtain ⟨q, ps, e⟩ := spA_head l acc
  rw [e, List.all_cons, h q, Bool.false_and]
theorem scan_eq : ∀ (l acc : List Nat) (p : Nat), 1 ≤ p → acc.all low = true → acc.length ≤ 12 → scan acc.length p l = (decide (p - 1 + (spA acc l).length ≤ 4) && (spA acc l).all partL)
  | [], acc, p, hp, ha, hl => by
    have e : spA acc [] = [acc] := rfl
    rw [e]
    simp only [scan, List.length_singleton, List.all_cons, List.all_nil, Bool.and_true, partL, ha]
    rw [Bool.eq_iff_iff]
    simp only [Bool.and_eq_true, decide_eq_true_eq]
    omega
  | c :: r, acc, p, hp, ha, hl => by
    by_cases h : c = 32
    · subst h
      unfold scan spA
      rw [if_pos rfl, if_pos rfl]
      by_cases h0 : acc.length = 0
      · rw [if_pos h0]
        have : acc = [] := List.eq_nil_of_length_eq_zero h0
        subst this
        simp [partL]
      · rw [if_neg h0]
        have ih := scan_eq r [] (p + 1) (by omega) rfl (by simp)
        simp only [List.length_nil] at ih
        rw [ih, List.all_cons, List.length_cons]
        have : partL acc = true := by
          unfold partL
          rw [ha]; simp; omega
        rw [this, Bool.true_and]
        congr 1
        exact decide_eq_decide.mpr (by omega)
    · unfold scan spA
      rw [if_neg h, if_neg h]
      by_cases h1 : low c = true
      · rw [if_pos h1]
        by_cases h2 : 12 < acc.length + 1
        · rw [if_pos h2, all_head_false (q := []) (fun q => by
            unfold partL
            have : ¬ (acc ++ [c] ++ q).length ≤ 12 := by simp; omega
            simp only [decide_eq_false this, Bool.and_false, Bool.false_and]), Bool.and_false]
        · rw [if_neg h2]
          have ih := scan_eq r (acc ++ [c]) p hp (by simp only [List.all_append, ha, List.all_cons, h1, List.all_nil, Bool.and_true]) (by simp; omega)
          rw [List.length_append] at ih
          exact ih
      · rw [if_neg h1, all_head_false (q := []) (fun q => by
          unfold partL
          have : (acc ++ [c] ++ q).all low = false := by
            simp [List.all_append, h1]
          rw [this, Bool.and_false]), Bool.and_false]
theorem scan_word {l : List Nat} (h1 : l.length ≤ 24) : scan 0 1 l = wordL l := by
  have := scan_eq l [] 1 (by omega) rfl (by simp)
  simp only [List.length_nil] at this
  rw [this]
  unfold wordL
  rw [decide_eq_true h1, Bool.true_and]
  congr 1
  exact decide_eq_decide.mpr (by omega)
theorem wordL_nil : wordL [] = false := by decide
/-! ### cutting -/
theorem tl_cut_to {z : Str} {n : Int} (h : 0 ≤ n) : tl (cutS z none (some n)) = (tl z).take n.toNat := by
  obtain ⟨k, rfl⟩ := Int.eq_ofNat_of_zero_le h
  unfold cutS
  rw [tl_mk, HT.sIx_none, List.drop_zero, HT.sIx_nat, Nat.sub_zero, len_tl, Int.toNat_natCast, List.take_eq_take_iff]
  simp only [tl]
  omega
theorem tl_cut_from {z : Str} {n : Int} (h : 0 ≤ n) : tl (cutS z (some n) none) = (tl z).drop n.toNat := by
  obtain ⟨k, rfl⟩ := Int.eq_ofNat_of_zero_le h
  unfold cutS
  rw [tl_mk, HT.sIx_nat, HT.sIx_none, Int.toNat_natCast, len_tl, List.take_of_length_le (by rw [List.length_drop]; exact Nat.le_refl _)]
  by_cases c : k ≤ (tl z).length
  · rw [Nat.min_eq_left c]
  · rw [Nat.min_eq_right (by omega), List.drop_of_length_le (Nat.le_refl _), List.drop_of_length_le (by omega)]
theorem tl_cut_last {z : Str} : tl (cutS z none (some (-1))) = (tl z).dropLast := by
  unfold cutS
  have e : HT.sIx z.length z.length (some (-1)) = z.length - 1 := by
    show (if (-1 : Int) < 0 then ((-1 : Int) + (z.length : Int)).toNat else min (-1 : Int).toNat z.length) = z.length - 1
    rw [if_pos (by decide)]; omega
  rw [tl_mk, HT.sIx_none, List.drop_zero, e, Nat.sub_zero, len_tl, List.dropLast_eq_take]
/-! ### blanks struck at both ends -/
theorem getD_ne {l : List Nat} {k : Nat} (h : ∀ c ∈ l, c ≠ 32) (hk : k < l.length) : l.getD k 0 ≠ 32 := by
  have : l.getD k 0 = l[k] := by simp [List.getD, hk]
  rw [this]; exact h _ (List.getElem_mem hk)
theorem strip_keep {l t : List Nat} {s : Str} (e : tl s = l ++ t) (hl : l ≠ []) (h0 : l.getD 0 0 ≠ 32) (h1 : l.getD (l.length - 1) 0 ≠ 32) (ht : ∀ c ∈ t, c = 32) : tl (Txt.stripChars s (Str.ofString " ")) = l := by
  have hg : ∀ k, (Str.ofString " ").cps.contains k = decide (k = 32) := fun k => by
    have : (Str.ofString " ").cps = #[32] := by decide +kernel
    rw [this]; simp [eq_comm]
  unfold Txt.stripChars
  rw [stripBy_eq, tl_strSub, e]
  obtain ⟨a1, a2, a3⟩ := lo_facts (Str.ofString " ").cps.contains s
  have gd : ∀ k, s.cps.getD k 0 = (l ++ t).getD k 0 := fun k => by rw [← getD_list]; exact congrArg (fun z => z.getD k 0) e
  have ln : s.length = l.length + t.length := by rw [len_tl, e, List.length_append]
  have lp : 0 < l.length := List.length_pos_iff.mpr hl
  have hleft : ∀ k, k < l.length → (l ++ t).getD k 0 = l.getD k 0 := fun k hk => by simp [List.getD, List.getElem?_append_left hk]
  have lo0 : stripLo (Str.ofString " ").cps.contains true s = 0 := by
    rcases Nat.eq_zero_or_pos (stripLo (Str.ofString " ").cps.contains true s) with z | z
    · exact z
    · have := a2 0 z
      rw [hg, gd, hleft 0 lp] at this
      exact absurd (of_decide_eq_true this) h0
  rw [lo0]
  obtain ⟨b1, b2, b3, b4⟩ := hi_facts (Str.ofString " ").cps.contains s 0 (Nat.zero_le _)
  have hi : stripHi (Str.ofString " ").cps.contains true s 0 = l.length := by
    generalize stripHi (Str.ofString " ").cps.contains true s 0 = q at b1 b2 b3 b4
    by_cases c : q < l.length
    · have := b3 (l.length - 1) (by omega) (by omega)
      rw [hg, gd, hleft _ (by omega)] at this
      exact absurd (of_decide_eq_true this) h1
    · by_cases c2 : q = l.length
      · exact c2
      · exfalso
        rcases b4 with z | z
        · omega
        · rw [hg, gd] at z
          have : (l ++ t).getD (q - 1) 0 = 32 := by
            have hlt : q - 1 - l.length < t.length := by omega
            have : (l ++ t).getD (q - 1) 0 = t[q - 1 - l.length] := by
              simp [List.getD, List.getElem?_append_right (show l.length ≤ q - 1 by omega), List.getElem?_eq_getElem hlt]
            rw [this]; exact ht _ (List.getElem_mem hlt)
          rw [this] at z; simp at z
  rw [hi]; simp
/-- ends of a joined row of parts -/
theorem join_ends : ∀ {ps : List (List Nat)}, ps ≠ [] → (∀ p ∈ ps, partL p = true) → joinL [32] ps ≠ [] ∧ (joinL [32] ps).getD 0 0 ≠ 32 ∧ (joinL [32] ps).getD ((joinL [32] ps).length - 1) 0 ≠ 32
  | [], h, _ => absurd rfl h
  | [p], _, hp => by
    have h := hp p (by simp)
    have hn := partL_ne h
    have lp : 0 < p.length := List.length_pos_iff.mpr hn
    have a : ∀ c ∈ p, c ≠ 32 := fun c hc e => partL_no h (e ▸ hc)
    exact ⟨hn, getD_ne a lp, getD_ne a (by show p.length - 1 < p.length; omega)⟩
  | p :: q :: r, _, hp => by
    have h := hp p (by simp)
    have lp : 0 < p.length := List.length_pos_iff.mpr (partL_ne h)
    have a : ∀ c ∈ p, c ≠ 32 := fun c hc e => partL_no h (e ▸ hc)
    obtain ⟨i1, i2, i3⟩ := join_ends (ps := q :: r) (by simp) fun z hz => hp z (by simp [hz])
    rw [joinL_cons p (by simp)]
    have li : 0 < (joinL [32] (q :: r)).length := List.length_pos_iff.mpr i1
    refine ⟨by simp, ?_, ?_⟩
    · have : (p ++ 32 :: joinL [32] (q :: r)).getD 0 0 = p.getD 0 0 := by simp [List.getD, List.getElem?_append_left lp]
      rw [this]; exact getD_ne a lp
    · have : (p ++ 32 :: joinL [32] (q :: r)).getD ((p ++ 32 :: joinL [32] (q :: r)).length - 1) 0 = (joinL [32] (q :: r)).getD ((joinL [32] (q :: r)).length - 1) 0 := by
        simp only [List.length_append, List.length_cons, List.getD]
        rw [List.getElem?_append_right (by omega)]
        congr 1
        rw [show p.length + ((joinL [32] (q :: r)).length + 1) - 1 - p.length = ((joinL [32] (q :: r)).length - 1) + 1 by omega, List.getElem?_cons_succ]
      rw [this]; exact i3
theorem partL_take {p : List Nat} (h : partL p = true) {n : Nat} (h1 : 1 ≤ n) : partL (p.take n) = true := by
  unfold partL at h ⊢
  simp only [Bool.and_eq_true, decide_eq_true_eq, List.all_eq_true, List.length_take] at h ⊢
  exact ⟨⟨by omega, by omega⟩, fun c hc => h.2 c (List.mem_of_mem_take hc)⟩
/-- a beginning of a joined row: a joined row, or one and a blank -/
theorem join_take : ∀ {ps : List (List Nat)} {n : Nat}, ps ≠ [] → (∀ p ∈ ps, partL p = true) → 1 ≤ n → ∃ qs : List (List Nat), qs ≠ [] ∧ qs.length ≤ ps.length ∧ (∀ p ∈ qs, partL p = true) ∧
    ((joinL [32] ps).take n = joinL [32] qs ∨ (joinL [32] ps).take n = joinL [32] qs ++ [32])
  | [], _, h, _, _ => absurd rfl h
  | [p], n, _, hp, h1 => ⟨[p.take n], by simp, by simp, by simpa using partL_take (hp p (by simp)) h1, .inl rfl⟩
  | p :: q :: r, n, _, hp, h1 => by
    have h := hp p (by simp)
    rw [joinL_cons p (by simp)]
    by_cases c : n ≤ p.length
    · exact ⟨[p.take n], by simp, by simp, by simpa using partL_take h h1, .inl (by rw [List.take_append_of_le_length c]; rfl)⟩
    · by_cases c2 : n = p.length + 1
      · subst c2
        exact ⟨[p], by simp, by simp, by simpa using h, .inr (by rw [List.take_append, List.take_of_length_le (by omega), show p.length + 1 - p.length = 1 by omega]; rfl)⟩
      · obtain ⟨qs, i1, i2, i3, i4⟩ := join_take (ps := q :: r) (n := n - p.length - 1) (by simp) (fun z hz => hp z (by simp [hz])) (by omega)
        have et : (p ++ 32 :: joinL [32] (q :: r)).take n = p ++ 32 :: (joinL [32] (q :: r)).take (n - p.length - 1) := by
          rw [List.take_append, List.take_of_length_le (by omega)]
          congr 1
          rw [show n - p.length = (n - p.length - 1) + 1 by omega, List.take_succ_cons]
          rfl
        refine ⟨p :: qs, by simp, by simp at i2 ⊢; omega, fun z hz => ?_, ?_⟩
        · rcases List.mem_cons.mp hz with rfl | hz
          · exact h
          · exact i3 z hz
        · rw [et, joinL_cons p i1]
          rcases i4 with e | e
          · left; rw [e]
          · right; rw [e]; simp

/-! ### is_part, is_word: what is promised -/
def spPart : Sp := fun vs H Q _ => ∃ s : Str, vs = [.str s] ∧ s.length ≤ sizeLine ∧ Q (.bl (partL (tl s))) H
/-- any thing: a text, or a thing of another kind -/
def spIsWord (K : PySem.W.Frag) : Sp := fun vs H Q _ => ∃ x : V, vs = [x] ∧ ((∃ s : Str, x = .str s ∧ s.length ≤ 1000000 ∧ PyData.strOk s = true ∧ ∀ H', Same H H' → Q (.bl (isW s)) H') ∨ (∃ t : String, TyX K H x (.type t) ∧ kitB t "str" = some false ∧ Q (.bl false) H))
theorem mem_letters {c : Nat} : decide (c ∈ (Str.ofString "abcdefghijklmnopqrstuvwxyz").cps.toList) = low c := by
  rw [show (Str.ofString "abcdefghijklmnopqrstuvwxyz").cps.toList = [97,98,99,100,101,102,103,104,105,106,107,108,109,110,111,112,113,114,115,116,117,118,119,120,121,122] by decide +kernel]
  unfold low
  rw [Bool.eq_iff_iff]
  simp only [decide_eq_true_eq, Bool.and_eq_true, List.mem_cons, List.not_mem_nil, or_false]
  omega
theorem sign_take {s : Str} {i : Nat} {c : Nat} (h : s.cps[i]? = some c) : (tl s).take (i + 1) = (tl s).take i ++ [c] := take_more (by rw [tl, Array.getElem?_toList]; exact h)
theorem sign_mem {s : Str} {i : Nat} {c : Nat} (h : s.cps[i]? = some c) : c ∈ tl s := List.mem_of_getElem? (i := i) (by rw [tl, Array.getElem?_toList]; exact h)

theorem mem_join : ∀ {ps : List (List Nat)} {p : List Nat}, p ∈ ps → p.length ≤ (joinL [32] ps).length ∧ ∀ c ∈ p, c ∈ joinL [32] ps
  | [q], p, h => by
    have : p = q := by simpa using h
    subst this
    exact ⟨Nat.le_refl _, fun c hc => hc⟩
  | q :: r :: t, p, h => by
    rw [joinL_cons q (by simp)]
    rcases List.mem_cons.mp h with rfl | h
    · exact ⟨by simp, fun c hc => by simp [hc]⟩
    · obtain ⟨a, b⟩ := mem_join h
      exact ⟨by simp; omega, fun c hc => by simp [b c hc]⟩
theorem strOk_iff {s : Str} : PyData.strOk s = true ↔ ∀ c ∈ tl s, c < 1114112 := by
  unfold PyData.strOk
  rw [← Array.all_toList, List.all_eq_true]
  simp [tl]
/-- the parts of a text that is cut at the blanks -/
theorem split_mem {s y : Str} (h : y ∈ Txt.split s (Str.ofString " ")) : (tl y).length ≤ (tl s).length ∧ ∀ c ∈ tl y, c ∈ tl s := by
  have e := split_blank s
  have hm : tl y ∈ spA [] (tl s) := by rw [← e]; exact List.mem_map.mpr ⟨y, h, rfl⟩
  have := mem_join hm
  rw [join_spA] at this
  exact this
theorem eqv_strs_nil (l : List Str) : PyData.eqv (.list (l.map .str)) (.list []) = l.isEmpty := by
  cases l <;> rfl
theorem ok_strs {l : List Str} (h : ∀ s ∈ l, PyData.strOk s = true) : okD 1 (.list (l.map .str)) = true := by
  simp only [okD]
  exact okDs_map fun s hs => by simp [okD, h s hs]

theorem eq_blank {c : Nat} : decide (V.str ⟨#[c]⟩ = V.str (Str.ofString " ")) = decide (c = 32) := by
  rw [show (Str.ofString " ") = (⟨#[32]⟩ : Str) by decide +kernel, Bool.eq_iff_iff]
  simp

/-- a joined row cut and struck of blanks is a word -/
theorem word_cut {s : Str} {ps : List (List Nat)} {n : Int} (e : tl s = joinL [32] ps) (h1 : ps ≠ []) (h2 : ps.length ≤ 4) (h3 : ∀ p ∈ ps, partL p = true) (hn : 1 ≤ n) (hl : n ≤ 24 ∨ (tl s).length ≤ 24) :
    isW (Txt.stripChars (cutS s none (some n)) (Str.ofString " ")) = true := by
  have ec := tl_cut_to (z := s) (n := n) (by omega)
  rw [e] at ec
  obtain ⟨qs, q1, q2, q3, q4⟩ := join_take (n := n.toNat) h1 h3 (by omega)
  obtain ⟨a1, a2, a3⟩ := join_ends q1 q3
  have hlen : (joinL [32] qs).length ≤ 24 := by
    have h4 : (joinL [32] qs).length ≤ ((joinL [32] ps).take n.toNat).length := by
      rcases q4 with z | z
      · rw [z]; exact Nat.le_refl _
      · rw [z]; simp
    rw [List.length_take] at h4
    rw [e] at hl
    omega
  have et : ∃ t, tl (cutS s none (some n)) = joinL [32] qs ++ t ∧ ∀ c ∈ t, c = 32 := by
    rcases q4 with z | z
    · exact ⟨[], by rw [ec, z]; simp, fun _ h => nomatch h⟩
    · exact ⟨[32], by rw [ec, z], fun c hc => by simpa using hc⟩
  obtain ⟨t, et, ht⟩ := et
  unfold isW
  rw [strip_keep et a1 a2 a3 ht]
  exact wordL_iff.mpr ⟨qs, q1, by omega, q3, rfl, hlen⟩
theorem word_cut_word {s : Str} {n : Int} (h : isW s = true) (hn : 1 ≤ n) : isW (Txt.stripChars (cutS s none (some n)) (Str.ofString " ")) = true := by
  obtain ⟨ps, h1, h2, h3, e, hl⟩ := wordL_iff.mp h
  exact word_cut e h1 h2 h3 hn (.inr hl)
def sgn (c : Nat) : Str := ⟨#[c]⟩
theorem tl_sgn (c : Nat) : tl (sgn c) = [c] := rfl
theorem tl_empty : tl (Str.ofString "") = [] := by rw [tl_ofString]; rfl
theorem tl_join_nil (cs : List Nat) : tl (Txt.join (Str.ofString "") (cs.map sgn)) = cs := by
  rw [join_eq, tl_join, tl_empty]
  have : ∀ cs : List Nat, joinL [] ((cs.map sgn).map tl) = cs := by
    intro cs
    induction cs with
    | nil => rfl
    | cons c cs ih =>
      cases cs with
      | nil => rfl
      | cons d r =>
        show [c] ++ ([] ++ joinL [] (((d :: r).map sgn).map tl)) = _
        rw [ih]; rfl
  exact this cs
theorem tl_join_blank (ps : List Str) : tl (Txt.join (Str.ofString " ") ps) = joinL [32] (ps.map tl) := by rw [join_eq, tl_join, tl_blank]
/-- a drawn word: the box changes, a word comes -/
def spWord : Sp := fun vs H Q _ => ∃ b : Addr, vs = [.ref b] ∧ BoxAt H b ∧ ∀ (s : Str) (H' : Hp), isW s = true → BoxAt H' b → But b H H' → Q (.str s) H'
/-- the three rows of letters -/
def isLets (z : Str) : Prop := z = Str.ofString "ab" ∨ z = Str.ofString "abc" ∨ z = Str.ofString "abcdefghijklmnopqrstuvwxyz"
theorem isLets.len {z : Str} (h : isLets z) : 2 ≤ (tl z).length ∧ (tl z).length ≤ 26 := by
  rcases h with rfl | rfl | rfl <;> rw [tl_ofString] <;> decide +kernel
theorem isLets.low {z : Str} (h : isLets z) : ∀ c ∈ tl z, low c = true := by
  rcases h with rfl | rfl | rfl <;> rw [tl_ofString] <;> decide +kernel
theorem isLets.pick {r : Int} (h0 : 0 ≤ r) (h1 : r < 3) : ∃ z, atI [V.str (Str.ofString "ab"), V.str (Str.ofString "abc"), V.str (Str.ofString "abcdefghijklmnopqrstuvwxyz")] r = some (.str z) ∧ isLets z := by
  have : r = 0 ∨ r = 1 ∨ r = 2 := by omega
  rcases this with rfl | rfl | rfl
  · exact ⟨_, rfl, .inl rfl⟩
  · exact ⟨_, rfl, .inr (.inl rfl)⟩
  · exact ⟨_, rfl, .inr (.inr rfl)⟩
theorem partL_of {cs : List Nat} (h : ∀ c ∈ cs, low c = true) (h1 : 1 ≤ cs.length) (h2 : cs.length ≤ 12) : partL cs = true := by
  unfold partL
  rw [decide_eq_true h1, decide_eq_true h2, List.all_eq_true.mpr h]; rfl
section
variable {H : Hp} {Q : VK}
theorem s_ixS {z : Str} {i : Int} {c : Nat} (h : z.length ≤ sizeLine) (a : atI z.cps.toList i = some c) (q : Q (.str ⟨#[c]⟩) H) : rIxS (.str z) (.int i) H Q := ⟨z, i, c, rfl, rfl, h, a, q⟩
end
theorem atI_get' {α : Type} {l : List α} {i : Int} (h0 : 0 ≤ i) (h1 : i < l.length) : ∃ c, atI l i = some c ∧ c ∈ l := by
  obtain ⟨k, rfl⟩ := Int.eq_ofNat_of_zero_le h0
  have hk : k < l.length := by omega
  exact ⟨l[k], atI_nat (by simp [hk]), List.getElem_mem hk⟩
theorem sum_len_le {α : Type} {f : α → Nat} {n : Nat} : ∀ {l : List α}, (∀ a ∈ l, f a ≤ n) → (l.map f).sum ≤ l.length * n
  | [], _ => by simp
  | a :: l, h => by
    have h1 := h a (by simp)
    have h2 := sum_len_le (l := l) fun b hb => h b (by simp [hb])
    simp only [List.map_cons, List.sum_cons, List.length_cons]
    rw [Nat.add_mul]; omega

/-! ### texts in bounds -/
structure Tx (n : Nat) (s : Str) : Prop where
  len : s.length ≤ n
  ok : PyData.strOk s = true
theorem Tx.mono {n m : Nat} {s : Str} (h : Tx n s) (l : n ≤ m) : Tx m s := ⟨Nat.le_trans h.len l, h.ok⟩
theorem mem_cutS {z : Str} {lo hi : Option Int} {c : Nat} (h : c ∈ tl (cutS z lo hi)) : c ∈ tl z := by
  unfold cutS at h
  exact List.mem_of_mem_drop (List.mem_of_mem_take h)
theorem Tx.cut {n : Nat} {s : Str} (h : Tx n s) (lo hi : Option Int) : Tx n (cutS s lo hi) :=
  ⟨Nat.le_trans (cutS_length _ _ _) h.len, strOk_iff.mpr fun c hc => strOk_iff.mp h.ok c (mem_cutS hc)⟩
theorem Tx.app {n m : Nat} {x y : Str} (h : Tx n x) (g : Tx m y) : Tx (n + m) (x ++ y) :=
  ⟨by
    have := h.len
    have := g.len
    rw [len_tl] at *
    rw [tl_append, List.length_append]; omega, strOk_iff.mpr fun c hc => by
    rw [tl_append] at hc
    rcases List.mem_append.mp hc with hc | hc
    · exact strOk_iff.mp h.ok c hc
    · exact strOk_iff.mp g.ok c hc⟩
theorem wordL_len {l : List Nat} (h : wordL l = true) : 1 ≤ l.length ∧ l.length ≤ 24 := by
  obtain ⟨ps, h1, h2, h3, e, hl⟩ := wordL_iff.mp h
  obtain ⟨a, _, _⟩ := join_ends h1 h3
  rw [← e] at a
  exact ⟨List.length_pos_iff.mpr a, hl⟩
theorem mem_joinL : ∀ {ps : List (List Nat)} {c : Nat}, c ∈ joinL [32] ps → c = 32 ∨ ∃ p ∈ ps, c ∈ p
  | [], c, h => by simp [joinL] at h
  | [p], c, h => .inr ⟨p, by simp, h⟩
  | p :: q :: r, c, h => by
    rw [joinL_cons p (by simp)] at h
    rcases List.mem_append.mp h with h | h
    · exact .inr ⟨p, by simp, h⟩
    · rcases List.mem_cons.mp h with h | h
      · exact .inl h
      · rcases mem_joinL h with h | ⟨z, hz, hc⟩
        · exact .inl h
        · exact .inr ⟨z, by simp [hz], hc⟩
theorem partL_low {p : List Nat} (h : partL p = true) : ∀ c ∈ p, low c = true := by
  unfold partL at h
  simp only [Bool.and_eq_true, List.all_eq_true] at h
  exact h.2
/-- a word's signs -/
theorem wordL_signs {l : List Nat} (h : wordL l = true) : ∀ c ∈ l, low c = true ∨ c = 32 := fun c hc => by
  obtain ⟨ps, h1, h2, h3, rfl, hl⟩ := wordL_iff.mp h
  rcases mem_joinL hc with e | ⟨p, hp, hcp⟩
  · exact .inr e
  · exact .inl (partL_low (h3 p hp) c hcp)
theorem low_lt {c : Nat} (h : low c = true ∨ c = 32) : c < 1114112 := by
  rcases h with h | h
  · unfold low at h
    simp only [Bool.and_eq_true, decide_eq_true_eq] at h
    omega
  · omega
theorem Tx.word {s : Str} (h : isW s = true) : Tx 24 s := ⟨by rw [len_tl]; exact (wordL_len h).2, strOk_iff.mpr fun c hc => low_lt (wordL_signs h c hc)⟩
theorem isW_len {s : Str} (h : isW s = true) : 1 ≤ s.length ∧ s.length ≤ 24 := by
  have := wordL_len h
  rw [len_tl]; exact this
theorem Tx.join {ps : List Str} {n : Nat} (h : ∀ p ∈ ps, Tx n p) : Tx (ps.length * n + ps.length) (Txt.join (Str.ofString " ") ps) :=
  ⟨by
    have h1 := PySem.StrLaws.join_length_le (Str.ofString " ") ps
    rw [← join_eq, len_tl (Str.ofString " "), tl_blank] at h1
    simp only [List.length_singleton] at h1
    have h2 := sum_len_le (f := fun p : Str => p.length) (n := n) (l := ps) fun p hp => (h p hp).len
    omega, strOk_iff.mpr fun c hc => by
    rw [tl_join_blank] at hc
    rcases mem_joinL hc with e | ⟨p, hp, hcp⟩
    · omega
    · obtain ⟨q, hq, rfl⟩ := List.mem_map.mp hp
      exact strOk_iff.mp (h q hq).ok c hcp⟩
theorem cutV_strs (ss : List Str) (lo hi : Option Int) : ∃ ms : List Str, cutV (ss.map V.str) lo hi = ms.map V.str ∧ ms.length ≤ ss.length ∧ ∀ m ∈ ms, m ∈ ss := by
  refine ⟨(ss.drop (HT.sIx (ss.map V.str).length 0 lo)).take (HT.sIx (ss.map V.str).length (ss.map V.str).length hi - HT.sIx (ss.map V.str).length 0 lo), ?_, ?_, ?_⟩
  · unfold cutV; rw [List.map_take, List.map_drop]
  · rw [List.length_take, List.length_drop]; omega
  · intro m hm; exact List.mem_of_mem_drop (List.mem_of_mem_take hm)
/-! ### things of any kind -/
inductive Thing (H : Hp) : V → Prop where
  | str (s : Str) : Tx 1000 s → Thing H (.str s)
  | non : Thing H .non
  | bl (b : Bool) : Thing H (.bl b)
  | int (i : Int) : Thing H (.int i)
  | lst {a : Addr} {xs : List V} : H a = some (.lst xs) → Thing H (.ref a)
  | tup {a : Addr} {xs : List V} : H a = some (.tup xs) → Thing H (.ref a)
theorem Thing.same {H H' : Hp} {x : V} (h : Thing H x) (e : Same H H') : Thing H' x := by
  cases h with
  | str s t => exact .str s t
  | non => exact .non
  | bl b => exact .bl b
  | int i => exact .int i
  | lst h => exact .lst (e _ _ h)
  | tup h => exact .tup (e _ _ h)
theorem Thing.ty {K : PySem.W.Frag} {H : Hp} {x : V} (h : Thing H x) : (∃ s, x = .str s ∧ Tx 1000 s) ∨ (∃ t : String, TyX K H x (.type t) ∧ kitB t "str" = some false) := by
  cases h with
  | str s t => exact .inl ⟨s, rfl, t⟩
  | non => exact .inr ⟨_, .base .non, kb_NoneType_str⟩
  | bl b => exact .inr ⟨_, .base (.bl b), kb_bool_str⟩
  | int i => exact .inr ⟨_, .base (.int i), kb_int_str⟩
  | lst h => exact .inr ⟨_, .base (.lst h), kb_list_str⟩
  | tup h => exact .inr ⟨_, .base (.tup h), kb_tuple_str⟩
def spThing : Sp := fun vs H Q _ => ∃ b : Addr, vs = [.ref b] ∧ BoxAt H b ∧ ∀ (x : V) (H' : Hp), Thing H' x → BoxAt H' b → But b H H' → Q x H'
section
variable {H : Hp} {Q : VK}
theorem s_addS {x y : Str} (h : x.length + y.length ≤ sizeLine) (q : Q (.str (x ++ y)) H) : (fun (x y : V) (H : Hp) (Q : VK) => ∃ i j, x = V.str i ∧ y = V.str j ∧ i.length + j.length ≤ sizeLine ∧ Q (.str (i ++ j)) H) (.str x) (.str y) H Q := ⟨x, y, rfl, rfl, h, q⟩
end
end Ah
set_option Elab.async false
set_option linter.all false
set_option maxRecDepth 100000
set_option maxHeartbeats 4000000
/-! sorted, min, remove over data -/
namespace Ah
open PySem PySem.Spec PyProof.Rows L2
/-- the values go with the items, one by one -/
theorem each_of_paired {α : Type} {β : Type} {R : V → β → Prop} : ∀ {xs : List V} {bs : List β} {us : List Value}, Paired R xs bs → Vals xs us → PySem.W.EachIs (fun u b => ∃ x, RelV x u ∧ R x b) us bs
  | _, _, _, .nil, .nil => .nil
  | _, _, _, .cons h t, .cons r s => .cons ⟨_, r, h⟩ (each_of_paired (α := α) t s)
theorem paired_of_each {β : Type} {R : V → β → Prop} : ∀ {us : List Value} {bs : List β}, PySem.W.EachIs (fun u b => ∃ x, RelV x u ∧ R x b) us bs → ∃ ys, Vals ys us ∧ Paired R ys bs
  | _, _, .nil => ⟨[], .nil, .nil⟩
  | _, _, .cons ⟨x, r, h⟩ t => by
    obtain ⟨ys, a, b⟩ := paired_of_each t
    exact ⟨x :: ys, .cons r a, .cons h b⟩
/-- sorted(xs): xs stands for the items bs, each by R; enc tells their data -/
def rSortD (K : PySem.W.Frag) : List V → Hp → VK → Prop := fun vs H Q => ∃ (β : Type) (a : Addr) (xs : List V) (bs : List β) (enc : β → PyData) (R : V → β → Prop), vs = [V.ref a] ∧ SqL K H a xs ∧ Paired R xs bs ∧ (∀ x b, R x b → Dp K H x (enc b)) ∧
  PySem.W.AllAlike (bs.map enc) ∧ PySem.W.Sortable (bs.map enc) ∧ (∀ b ∈ bs, (enc b).depth ≤ 50) ∧
  ∀ (ys : List V) (p : Addr), Paired R ys (bs.mergeSort (PySem.W.dataLe false enc)) → H p = none → Q (.ref p) (upd H p (.lst ys))
theorem Paired.len {α β : Type} {R : α → β → Prop} : ∀ {xs : List α} {bs : List β}, Paired R xs bs → xs.length = bs.length
  | _, _, .nil => rfl
  | _, _, .cons _ t => by simp [Paired.len t]
section
variable {X : Cx}
theorem cr_sortD (hu : X.A.units + 64 < cLine) : CallR X (.builtin "sorted") (rSortD X.K) := by
  intro pins s σ H vs us Q I r h
  obtain ⟨β, a, xs, bs, enc, R, rfl, hS, hR, hE, hal, hk, hd, q⟩ := h
  obtain ⟨its, rv, hl, hz⟩ := I.list hS
  obtain ⟨u, rfl, ru⟩ := vals1 r
  cases ru
  have e := each_of_paired (α := Unit) hR rv
  have er : PySem.W.EachIs (fun v b => ∃ as, Reads s.heap v (enc b) as) its bs := e.mono fun v b ⟨x, rx, hx⟩ => Dp.reads I (enc b) x v (hE x b hx) rx
  have lb : bs.length ≤ sizeLine := by rw [← Paired.len hR]; exact hz
  refine PySem.W.sorted_data hl.isList e er hal hk lb (fun b hb => by have := hd b hb; omega) fun out ol oe => ?_
  obtain ⟨ys, g1, g2⟩ := paired_of_each oe
  obtain ⟨n, hn⟩ := sortedAll_at s.heap its out.toArray
  have hnew : s.heap.objs.size ≤ s.heap.objs.size + 1 := Nat.le_succ _
  refine ⟨.ref (s.heap.objs.size + 1), upd H (s.heap.objs.size + 1) (.lst ys), I.laid (t' := s.toks) (fun b o eo => sortedAll_old eo) hnew ⟨by rw [g1.length, ol]; exact lb, out, n, g1, hn⟩, rfl, q ys _ g2 (I.hok.fresh hnew)⟩
/-- min(xs) of data: an item of the least datum -/
def rMinD (K : PySem.W.Frag) : List V → Hp → VK → Prop := fun vs H Q => ∃ (a : Addr) (xs : List V) (d : PyData) (ds : List PyData), vs = [V.ref a] ∧ SqL K H a xs ∧ DpAll K H xs (d :: ds) ∧ PySem.W.AlikeAll (d :: ds) ∧ PyData.depthAll (d :: ds) ≤ 50 ∧
  ∀ (i : Nat) (x : V), xs[i]? = some x → (d :: ds)[i]? = some (PySem.W.minD d ds) → Q x H
theorem minD_mem (d : PyData) : ∀ ds : List PyData, PySem.W.minD d ds ∈ d :: ds := by
  intro ds
  unfold PySem.W.minD
  induction ds generalizing d with
  | nil => simp
  | cons e ds ih =>
    rw [List.foldl_cons]
    by_cases h : PySem.W.dataLt e d = true
    · rw [if_pos h]
      have := ih e
      rcases List.mem_cons.mp this with h1 | h1
      · rw [h1]; simp
      · simp [h1]
    · rw [if_neg h]
      have := ih d
      rcases List.mem_cons.mp this with h1 | h1
      · rw [h1]; simp
      · simp [h1]
theorem cr_minD (hc : X.calm = true) (hu : X.A.units + 64 < cLine) : CallR X (.builtin "min") (rMinD X.K) := by
  intro pins s σ H vs us Q I r h
  obtain ⟨a, xs, d, ds, rfl, hS, hD, hal, hdp, q⟩ := h
  obtain ⟨its, rv, hl, hz⟩ := I.list hS
  obtain ⟨u, rfl, ru⟩ := vals1 r
  cases ru
  obtain ⟨as, hr⟩ := Dp.readsAll I (d :: ds) xs its hD rv
  refine PySem.W.min_list_data (I.ok.hd hc) hl.isList hr hal (by omega) fun i v h' tk bs hv hm hk => ?_
  have hv' : its[i]? = some v := by simpa using hv
  have hx : ∃ x, xs[i]? = some x := by
    cases e : xs[i]? with
    | some x => exact ⟨x, rfl⟩
    | none => rw [Vals.none_of rv e] at hv'; cases hv'
  obtain ⟨x, hx⟩ := hx
  obtain ⟨v', hv2, rx⟩ := Vals.get rv hx
  rw [hv'] at hv2; cases hv2
  obtain ⟨bs', hb', hi, hmem, _⟩ := PySem.W.readsAll_at hr i v hv'
  have hb2 := PyProof.Rows.Reads.keeps hk hb'
  have e := PySem.W.alike_unique _ _ _ _ _ (hal.1 _ hmem _ (minD_mem d ds)) hb2 hm
  have I1 : Inv X pins σ H { s with heap := h', toks := tk } := I.kept hk
  refine ⟨x, H, I1, rx, q i x hx ?_⟩
  rw [← e]
  simp [List.getD, List.getElem?_eq_getElem hi]
/-- xs.remove(y) of data: the first item that is the same datum -/
def rRemD (K : PySem.W.Frag) : V → List V → Hp → VK → Prop := fun x vs H Q => ∃ (l : Addr) (xs : List V) (y : V) (ds : List PyData) (d : PyData) (j : Nat), x = .ref l ∧ vs = [y] ∧ H l = some (.lst xs) ∧ DpAll K H xs ds ∧ Dp K H y d ∧ PyData.plainAll ds = true ∧ d.plain = true ∧ PyData.depthAll ds ≤ 50 ∧
  PySem.SeqAt.dataPlace ds d = some j ∧ Q .non (upd H l (.lst (xs.eraseIdx j)))
theorem mt_remD (hu : X.A.units + 64 < cLine) : MtM X "list.remove" (rRemD X.K) := by
  intro pins s σ H x vs v us Q I rx rxs h
  obtain ⟨l, xs, y, ds, d, j, rfl, rfl, hH, hD, hd, hp, hpd, hdp, hj, q⟩ := h
  cases rx
  obtain ⟨u, rfl, ru⟩ := rxs.one
  obtain ⟨z, its, n, r, hl, e⟩ := I.lstM hH
  obtain ⟨as, hr⟩ := Dp.readsAll I ds xs its hD r
  obtain ⟨bs, hb⟩ := Dp.reads I d y u hd ru
  refine PySem.SeqAt.remove_list_data ⟨_, e, rfl, n, rfl⟩ hr hb hp hpd (by omega) hj (by rw [List.size_toArray]; omega) ?_
  have rr := r.eraseIdx j
  refine ⟨.non, _, I.lset (its' := its.eraseIdx j) (t' := s.toks) hH e ?_ rr ?_, rfl, q⟩
  · show its.toArray.eraseIdxIfInBounds j = (its.eraseIdx j).toArray
    rw [List.eraseIdxIfInBounds_toArray]
  · exact Nat.le_trans (List.length_eraseIdx_le ..) z
/-- x > y, x < y of data -/
def rGtD (K : PySem.W.Frag) : R2 := fun x y H Q => ∃ d e, Dp K H x d ∧ Dp K H y e ∧ PySem.W.alike d e = true ∧ d ≠ .none ∧ d.depth ≤ 50 ∧ Q (.bl (PySem.W.dataLt e d)) H
def rLtD (K : PySem.W.Frag) : R2 := fun x y H Q => ∃ d e, Dp K H x d ∧ Dp K H y e ∧ PySem.W.alike d e = true ∧ d ≠ .none ∧ d.depth ≤ 50 ∧ Q (.bl (PySem.W.dataLt d e)) H
theorem op_gtD (hu : X.A.units + 64 < cLine) : OpR X (compareOp .Gt) (rGtD X.K) := by
  intro pins s σ H x y v u Q I rx ry h
  obtain ⟨d, e, hx, hy, hal, hn, hdp, q⟩ := h
  obtain ⟨as, ra⟩ := Dp.reads I d x v hx rx
  obtain ⟨bs, rb⟩ := Dp.reads I e y u hy ry
  exact PySem.W.gt_data ra rb hal hn (by have := Nat.min_le_left d.depth e.depth; omega) (fin_bl I q rfl)
theorem op_ltD (hu : X.A.units + 64 < cLine) : OpR X (compareOp .Lt) (rLtD X.K) := by
  intro pins s σ H x y v u Q I rx ry h
  obtain ⟨d, e, hx, hy, hal, hn, hdp, q⟩ := h
  obtain ⟨as, ra⟩ := Dp.reads I d x v hx rx
  obtain ⟨bs, rb⟩ := Dp.reads I e y u hy ry
  exact PySem.W.lt_data ra rb hal hn (by have := Nat.min_le_left d.depth e.depth; omega) (fin_bl I q rfl)
theorem op_gtDK {K : PySem.W.Frag} (hK : X.K = K) (hu : X.A.units + 64 < cLine) : OpR X (compareOp .Gt) (rGtD K) := hK ▸ op_gtD hu
theorem op_ltDK {K : PySem.W.Frag} (hK : X.K = K) (hu : X.A.units + 64 < cLine) : OpR X (compareOp .Lt) (rLtD K) := hK ▸ op_ltD hu
/-- sorted(d) of a dict whose keys are texts -/
def rSortDict : List V → Hp → VK → Prop := fun xs H Q => ∃ (a : Addr) (kvs : List (Key × V)) (ks : List Str), xs = [.ref a] ∧ Rd H a (.dK kvs) ∧ kvs.map (·.1) = ks.map Sum.inr ∧
    ∀ p, H p = none → Q (.ref p) (upd H p (.lst ((ks.mergeSort (PySem.W.dataLe false PyData.str)).map V.str)))
theorem each_strs {h : Heap} : ∀ {us : List Value} {ks : List Str}, StrsAre us ks → PySem.W.EachIs (fun u b => ∃ as, Reads h u (PyData.str b) as) us ks
  | _, _, .nil => .nil
  | _, _, .cons x t r => .cons ⟨_, Reads.str x t⟩ (each_strs r)
theorem each_strs2 : ∀ {us : List Value} {ks : List Str}, StrsAre us ks → PySem.W.EachIs (fun u b => ∃ t, u = Value.str b t) us ks
  | _, _, .nil => .nil
  | _, _, .cons x t r => .cons ⟨t, rfl⟩ (each_strs2 r)
theorem vals_each : ∀ {us : List Value} {ks : List Str}, PySem.W.EachIs (fun u b => ∃ t, u = Value.str b t) us ks → Vals (ks.map V.str) us
  | _, _, .nil => .nil
  | _, _, .cons ⟨t, e⟩ r => .cons ⟨t, e⟩ (vals_each r)
theorem alike_strs (ks : List Str) : PySem.W.AllAlike (ks.map PyData.str) := PySem.W.AllAlike.of fun a b => by simp [PySem.W.alike]
theorem sortable_strs (ks : List Str) : PySem.W.Sortable (ks.map PyData.str) := PySem.W.Sortable.others fun b => ⟨by simp, by simp⟩
theorem call_sortDict (hcalm : X.calm = true) (hu : X.A.units + 64 < cLine) : CallR X (.builtin "sorted") rSortDict := by
  intro pins s σ H xs us Q I r q
  obtain ⟨a, kvs, ks, ex, hd, hks, q⟩ := q
  subst ex
  obtain ⟨u, eu, rx⟩ := vals1 r
  subst eu
  cases rx
  obtain ⟨z, lo, vs, rel, dd⟩ := dk_rd I.hok hd
  obtain ⟨ep, hat⟩ := dd.dictAt
  have hkeys : vs.map (·.1) = ks.map Sum.inr := rel.keys.symm.trans hks
  have hl : vs.length = ks.length := by
    have e := congrArg List.length hkeys
    rw [List.length_map, List.length_map] at e
    exact e
  have h16 : vs.length ≤ sizeLine := by rw [← rel.length]; exact z
  refine Calls.call_function_entry PyProof.Rows.kind_sorted PyProof.Rows.plain_sorted PyProof.Rows.entry_sorted (PyProof.Rows.args_sorted1 _) ?_
  unfold Builtin.«sorted»
  refine wpAny_bind (m := checkCount "sorted" 1 1 _) (wpAny_pure ?_)
  refine wpAny_bind (PySem.W.kdu_collect (A := X.A.in1) (PySem.W.kdl_dict (knd := mixKind X.prog X.w) (kvs := vs) (ep := ep) lo) (I.ok.hd hcalm) hat h16 fun h' tk acc hk hacc => ?_)
  have hal : acc.toList.length = ks.length := by rw [Array.length_toList, hacc.1, hl]
  have hS : StrsAre acc.toList ks := strs_at hal fun j v e => by
    obtain ⟨k, x, e1, e2⟩ := hacc.2 j v (by rw [← Array.getElem?_toList]; exact e)
    have e3 : (vs.map (·.1))[j]? = some k := by rw [List.getElem?_map, e1]; all_goals rfl
    rw [hkeys, List.getElem?_map] at e3
    cases e4 : ks[j]? with
    | none => rw [e4] at e3; cases e3
    | some y =>
      rw [e4] at e3
      have e5 : Sum.inr y = k := Option.some.inj e3
      subst e5
      obtain ⟨t, ev⟩ := Value.isStrOf_shape (x := y) (v := v) e2
      exact ⟨y, t, rfl, ev⟩
  have I1 : Inv X pins σ H { s with heap := h', toks := tk } := I.kept hk
  have ln : acc.toList.length ≤ sizeLine := by rw [hal, ← hl]; exact h16
  refine wpAny_bind (wpAny_newList ?_ ln)
  have hoL : (h'.push (seqObj "list" acc.toList.toArray 0)).get? h'.objs.size = some (seqObj "list" acc.toList.toArray 0) := Heap.get?_push_size _ rfl
  show wpAny _ _ _ _ _ { s with heap := h'.push (seqObj "list" acc.toList.toArray 0), toks := tk }
  have er := each_strs (h := PySem.W.sortingHeap (h'.push (seqObj "list" acc.toList.toArray 0)) h'.objs.size acc.toList) hS
  have oe := PySem.W.sortVals_data (enc := PyData.str) false (each_strs2 hS) er (alike_strs ks)
  refine wpAny_bind (wpAny_holding (wpAny_call_entry PyProof.Rows.slot_list_sort ⟨_, hoL, rfl⟩ PyProof.Rows.entry_list_sort
    (PySem.W.list_sort_vals (s := { s with heap := h'.push (seqObj "list" acc.toList.toArray 0), toks := tk }) hoL
      (PySem.W.SortsAt.data (s := { s with heap := PySem.W.sortingHeap (h'.push (seqObj "list" acc.toList.toArray 0)) h'.objs.size acc.toList, toks := tk }) (PySem.W.each_map (R := fun v d => ∃ as, Reads (PySem.W.sortingHeap (h'.push (seqObj "list" acc.toList.toArray 0)) h'.objs.size acc.toList) v d as) PyData.str er) (alike_strs ks) (sortable_strs ks) (fun d hd => by
        obtain ⟨y, _, rfl⟩ := List.mem_map.mp hd
        show X.A.in1.in1.units + PyData.depth (.str y) < cLine
        simp only [PyData.depth]
        show X.A.units + 1 + 1 + 0 < cLine
        omega)) ln ⟨_, rfl, ?_⟩)
    (PyProof.Rows.args_list_sort _)))
  obtain ⟨e', he'⟩ := PyProof.Rows.sortedHeap_at (vs := acc.toList) (out := (PySem.W.sortVals (PySem.W.dataKind (PySem.W.sortingHeap (h'.push (seqObj "list" acc.toList.toArray 0)) h'.objs.size acc.toList) (ks.map PyData.str)) false acc.toList acc.toList).toArray) hoL
  have hlen : ((ks.mergeSort (PySem.W.dataLe false PyData.str)).map V.str).length ≤ sizeLine := by
    rw [List.length_map, List.length_mergeSort, ← hal]; exact ln
  refine wpAny_pure ⟨_, rfl, .ref h'.objs.size, upd H h'.objs.size (.lst ((ks.mergeSort (PySem.W.dataLe false PyData.str)).map V.str)), I1.laid (t' := tk) (fun b u e => ?_) (Nat.le_refl _)
    (show ObjOk X.prog X.w _ _ _ (.lst _) from ⟨hlen, _, e', vals_each oe, he'⟩), rfl, q _ (I1.hok.fresh (Nat.le_refl _))⟩
  have hb : b < h'.objs.size := Heap.lt_size e
  rw [PyProof.Rows.sortedHeap_old (Nat.ne_of_lt hb) (by rw [size_push']; exact Nat.lt_succ_of_lt hb)]
  exact Heap.get?_push_of_some _ e
end
end Ah
set_option Elab.async false
set_option linter.all false
set_option maxRecDepth 100000
set_option maxHeartbeats 4000000
/-! rated words -/
namespace Ah
open PySem PySem.Spec PyProof.Rows L2 TL
/-! ### comprehensions that lay data -/
def PvD (K : PySem.W.Frag) (res : Nat → List PyData) (H1 : Hp) (D : Addr) (i : Nat) (H : Hp) : Prop :=
  Same H1 H ∧ ∃ (xs : List V) (G : Hp), H D = some (.lst xs) ∧ G D = none ∧ Same H1 G ∧ Same G H ∧ DpAll K G xs (res i)
section
variable {K : PySem.W.Frag} {res : Nat → List PyData} {H1 H H4 : Hp} {D : Addr} {i : Nat} {y : V} {d : PyData}
theorem lcD_begin (hD : H1 D = none) (r0 : res 0 = []) : PvD K res H1 D 0 (upd H1 D (.lst [])) :=
  ⟨Same.new (Same.refl _) hD, [], H1, upd_same, hD, Same.refl _, Same.new (Same.refl _) hD, by rw [r0]; exact .nil⟩
/-- an item that reads in every heap -/
theorem lcD_put (p : PvD K res H1 D i H) (hD : H1 D = none) (hy : ∀ G, Dp K G y d) (er : res (i + 1) = res i ++ [d]) (hl : (res i).length < sizeLine) :
    ∃ acc, H D = some (.lst acc) ∧ acc.length < sizeLine ∧ PvD K res H1 D (i + 1) (upd H D (.lst (acc ++ [y]))) := by
  obtain ⟨s, xs, G, e1, e2, e3, e4, e5⟩ := p
  refine ⟨xs, e1, by rw [DpAll.length e5]; exact hl, Same.mut s hD, xs ++ [y], G, upd_same, e2, e3, Same.mut e4 e2, ?_⟩
  rw [er]
  exact DpAll.append e5 (.cons (hy G) .nil)
/-- an item that reads ahead of the loop -/
theorem lcD_putO (p : PvD K res H1 D i H) (hD : H1 D = none) (hy : Dp K H1 y d) (er : res (i + 1) = res i ++ [d]) (hl : (res i).length < sizeLine) :
    ∃ acc, H D = some (.lst acc) ∧ acc.length < sizeLine ∧ PvD K res H1 D (i + 1) (upd H D (.lst (acc ++ [y]))) := by
  obtain ⟨s, xs, G, e1, e2, e3, e4, e5⟩ := p
  refine ⟨xs, e1, by rw [DpAll.length e5]; exact hl, Same.mut s hD, xs ++ [y], G, upd_same, e2, e3, Same.mut e4 e2, ?_⟩
  rw [er]
  exact DpAll.append e5 (.cons (Dp.same e3 hy) .nil)
/-- a new tuple -/
theorem lcD_putT {t : Addr} {zs : List V} {es : List PyData} (p : PvD K res H1 D i H) (hD : H1 D = none) (ht : H t = none) (hz : ∀ G, DpAll K G zs es) (er : res (i + 1) = res i ++ [.tuple es]) (hl : (res i).length < sizeLine) :
    ∃ acc, (upd H t (.tup zs)) D = some (.lst acc) ∧ acc.length < sizeLine ∧ PvD K res H1 D (i + 1) (upd (upd H t (.tup zs)) D (.lst (acc ++ [.ref t]))) := by
  obtain ⟨s, xs, G, e1, e2, e3, e4, e5⟩ := p
  have nt : D ≠ t := ne_of_none e1 ht
  have gt : G t = none := e4.free ht
  have sG : Same G (upd G t (.tup zs)) := Same.new (Same.refl _) gt
  refine ⟨xs, keepN e1 ht, by rw [DpAll.length e5]; exact hl, Same.mut (Same.new s ht) hD, xs ++ [.ref t], upd G t (.tup zs), upd_same, by rw [upd_ne nt]; exact e2, e3.trans sG, ?_, ?_⟩
  · intro a o e
    have na : a ≠ D := fun z => by
      rw [z, upd_ne nt, e2] at e; cases e
    rw [upd_ne na]
    by_cases c : a = t
    · subst c; rw [upd_same] at e ⊢; exact e
    · rw [upd_ne c] at e ⊢; exact e4 _ _ e
  · rw [er]
    exact DpAll.append (DpAll.same sG e5) (.cons (.tup (SqT.of upd_same) (hz _)) .nil)
theorem lcD_skip (p : PvD K res H1 D i H) (er : res (i + 1) = res i) : PvD K res H1 D (i + 1) H := by
  obtain ⟨s, xs, G, e⟩ := p
  exact ⟨s, xs, G, by rw [er]; exact e⟩
theorem lcD_end {n : Nat} {ds : List PyData} (p : PvD K res H1 D n H) (e : res n = ds) : Same H1 H ∧ ∃ xs, H D = some (.lst xs) ∧ DpAll K H xs ds := by
  obtain ⟨s, xs, G, e1, e2, e3, e4, e5⟩ := p
  exact ⟨s, xs, e1, by rw [← e]; exact DpAll.same e4 e5⟩
end
/-- the data of a map, of a filter and a map, so far -/
def rsM {α : Type} (l : List α) (g : α → PyData) (i : Nat) : List PyData := (l.take i).map g
theorem rsM_0 {α : Type} {l : List α} {g : α → PyData} : rsM l g 0 = [] := by simp [rsM]
theorem rsM_s {α : Type} {l : List α} {g : α → PyData} {i : Nat} {x : α} (h : l[i]? = some x) : rsM l g (i + 1) = rsM l g i ++ [g x] := by
  unfold rsM; rw [take_more h, List.map_append]; rfl
theorem rsM_all {α : Type} {l : List α} {g : α → PyData} {n : Nat} (h : n = l.length) : rsM l g n = l.map g := by subst h; simp [rsM]
theorem rsM_len {α : Type} {l : List α} {g : α → PyData} {i : Nat} (h : l.length ≤ 100000) : (rsM l g i).length < sizeLine := by
  have : (rsM l g i).length ≤ l.length := by simp [rsM]; omega
  rw [sizeLine_eq]; omega
def rsF {α : Type} (l : List α) (p : α → Bool) (g : α → PyData) (i : Nat) : List PyData := ((l.take i).filter p).map g
theorem rsF_0 {α : Type} {l : List α} {p : α → Bool} {g : α → PyData} : rsF l p g 0 = [] := by simp [rsF]
theorem rsF_y {α : Type} {l : List α} {p : α → Bool} {g : α → PyData} {i : Nat} {x : α} (h : l[i]? = some x) (c : p x = true) : rsF l p g (i + 1) = rsF l p g i ++ [g x] := by
  unfold rsF; rw [take_more h, List.filter_append, List.map_append]; simp [c]
theorem rsF_n {α : Type} {l : List α} {p : α → Bool} {g : α → PyData} {i : Nat} {x : α} (h : l[i]? = some x) (c : p x = false) : rsF l p g (i + 1) = rsF l p g i := by
  unfold rsF; rw [take_more h, List.filter_append, List.map_append]; simp [c]
theorem rsF_all {α : Type} {l : List α} {p : α → Bool} {g : α → PyData} {n : Nat} (h : n = l.length) : rsF l p g n = (l.filter p).map g := by subst h; simp [rsF]
theorem rsF_len {α : Type} {l : List α} {p : α → Bool} {g : α → PyData} {i : Nat} (h : l.length ≤ 100000) : (rsF l p g i).length < sizeLine := by
  have h1 : (rsF l p g i).length ≤ (l.take i).length := by unfold rsF; rw [List.length_map]; exact List.length_filter_le _ _
  have h2 : (l.take i).length ≤ l.length := by simp; omega
  rw [sizeLine_eq]; omega
/-! ### rated words -/
abbrev RW := Str × Int
def dP (e : RW) : PyData := .tuple [.str e.1, .int e.2]
def dRated (l : List RW) : PyData := .list (l.map dP)
theorem dP_inv {K : PySem.W.Frag} {H : Hp} {x : V} {e : RW} (h : Dp K H x (dP e)) : ∃ t, x = .ref t ∧ SqT K H t [.str e.1, .int e.2] := by
  unfold dP at h
  cases h with
  | tup s a =>
    cases a with
    | cons h1 t =>
      cases t with
      | cons h2 t =>
        cases t
        cases h1
        cases h2
        exact ⟨_, rfl, s⟩
theorem dRated_inv {K : PySem.W.Frag} {H : Hp} {x : V} {l : List RW} (h : Dp K H x (dRated l)) : ∃ p xs, x = .ref p ∧ SqL K H p xs ∧ DpAll K H xs (l.map dP) := by
  unfold dRated at h
  cases h with
  | lst s a => exact ⟨_, _, rfl, s, a⟩
theorem mapdP_get {K : PySem.W.Frag} {H : Hp} {xs : List V} {l : List RW} {i : Nat} {x : V} (h : DpAll K H xs (l.map dP)) (hi : xs[i]? = some x) : ∃ e t, l[i]? = some e ∧ x = .ref t ∧ SqT K H t [.str e.1, .int e.2] := by
  obtain ⟨d, h1, h2⟩ := DpAll.get h hi
  obtain ⟨e, he, rfl⟩ := map_get h1
  obtain ⟨t, rfl, ht⟩ := dP_inv h2
  exact ⟨e, t, he, rfl, ht⟩
/-- a comes no later than b: the greater worth, then the lesser word -/
def leR (a b : RW) : Bool := decide (b.2 < a.2) || (decide (a.2 = b.2) && !decide (tl b.1 < tl a.1))
def encR (e : RW) : PyData := .tuple [.int (0 - e.2), .str e.1]

theorem encR_inv {K : PySem.W.Frag} {H : Hp} {x : V} {e : RW} (h : Dp K H x (encR e)) : ∃ t, x = .ref t ∧ SqT K H t [.int (0 - e.2), .str e.1] := by
  unfold encR at h
  cases h with
  | tup s a =>
    cases a with
    | cons h1 t =>
      cases t with
      | cons h2 t =>
        cases t
        cases h1
        cases h2
        exact ⟨_, rfl, s⟩
theorem sortable_encR (l : List RW) : PySem.W.Sortable (l.map encR) := PySem.W.Sortable.tuples fun b => ⟨_, _, rfl⟩
theorem alike_encR (l : List RW) : PySem.W.AllAlike (l.map encR) := PySem.W.AllAlike.of fun a b => by simp [encR, PySem.W.alike, PySem.W.alikeAll]
theorem dataLt_is (i j : Int) (x y : Str) : PySem.W.dataLt (.tuple [.int i, .str x]) (.tuple [.int j, .str y]) = (decide (i < j) || (decide (i = j) && decide (tl x < tl y))) := by
  rw [PySem.W.dataLt_tuple]
  by_cases h : i = j
  · subst h
    rw [PySem.W.dataLt_all_yes (by simp [PySem.W.alike]) (by simp [PyData.eqv])]
    by_cases h2 : x = y
    · subst h2
      rw [PySem.W.dataLt_all_yes (by simp [PySem.W.alike]) (by simp [PyData.eqv])]
      have e1 : ¬ (tl x < tl x) := List.lt_irrefl _
      simp [e1, PySem.W.keyToksAll]
      rfl
    · rw [PySem.W.dataLt_all_no (by simp [PySem.W.alike]) (by simp [PyData.eqv, h2]), PySem.W.dataLt_str]
      simp
  · rw [PySem.W.dataLt_all_no (by simp [PySem.W.alike]) (by simp [PyData.eqv, h]), PySem.W.dataLt_int]
    simp [h]
theorem dataLe_R : PySem.W.dataLe false encR = leR := by
  funext a b
  show (!PySem.W.dataLt (encR b) (encR a)) = leR a b
  unfold encR leR
  rw [dataLt_is]
  have h1 : decide (0 - b.2 < 0 - a.2) = decide (a.2 < b.2) := decide_eq_decide.mpr (by omega)
  have h2 : decide (0 - b.2 = 0 - a.2) = decide (a.2 = b.2) := decide_eq_decide.mpr (by omega)
  rw [h1, h2]
  by_cases c1 : a.2 < b.2
  · have c2 : ¬ a.2 = b.2 := by omega
    have c3 : ¬ b.2 < a.2 := by omega
    simp [c1, c2, c3]
  · by_cases c2 : a.2 = b.2
    · have c3 : ¬ b.2 < a.2 := by omega
      simp [c1, c2]
    · have c3 : b.2 < a.2 := by omega
      simp [c1, c2, c3]
def bestOf (l : List RW) (many : Int) : List RW := (l.mergeSort leR).take many.toNat
/-- best_of -/
def spBest (K : PySem.W.Frag) : Sp := fun vs H Q _ => ∃ (x : V) (l : List RW) (many : Int), vs = [x, .int many] ∧ Dp K H x (dRated l) ∧ l.length ≤ 10000 ∧ 0 ≤ many ∧
  ∀ (q : Addr) (H' : Hp) (xs : List V), Same H H' → H q = none → H' q = some (.lst xs) → DpAll K H' xs ((bestOf l many).map dP) → Q (.ref q) H'
/-- ahead_of -/
def aheadR (a b : RW) : Bool := if a.2 = b.2 then decide (tl a.1 < tl b.1) else decide (b.2 < a.2)
def spAhead (K : PySem.W.Frag) : Sp := fun vs H Q _ => ∃ (t u : Addr) (a b : RW), vs = [.ref t, .ref u] ∧ SqT K H t [.str a.1, .int a.2] ∧ SqT K H u [.str b.1, .int b.2] ∧ Q (.bl (aheadR a b)) H
theorem cutV_map {α : Type} (f : α → V) (l : List α) {n : Int} (h : 0 ≤ n) : cutV (l.map f) none (some n) = (l.take n.toNat).map f := by
  obtain ⟨k, rfl⟩ := Int.eq_ofNat_of_zero_le h
  unfold cutV
  rw [HT.sIx_none, List.drop_zero, HT.sIx_nat, Nat.sub_zero, List.length_map, Int.toNat_natCast, ← List.map_take]
  congr 1
  rw [List.take_eq_take_iff]; omega
theorem cutV_to (xs : List V) {n : Int} (h : 0 ≤ n) : cutV xs none (some n) = xs.take n.toNat := by
  have := cutV_map (fun x : V => x) xs h
  simpa using this
theorem DpAll.take {K : PySem.W.Frag} {H : Hp} : ∀ {xs : List V} {ds : List PyData} (n : Nat), DpAll K H xs ds → DpAll K H (xs.take n) (ds.take n)
  | _, _, 0, _ => by simpa using .nil
  | _, _, _ + 1, .nil => .nil
  | _, _, n + 1, .cons h t => .cons h (DpAll.take n t)
theorem cutV_from (xs : List V) {n : Int} (h : 0 ≤ n) : cutV xs (some n) none = xs.drop n.toNat := by
  obtain ⟨k, rfl⟩ := Int.eq_ofNat_of_zero_le h
  unfold cutV
  rw [HT.sIx_nat, HT.sIx_none, Int.toNat_natCast, List.take_of_length_le (by rw [List.length_drop]; exact Nat.le_refl _)]
  by_cases c : k ≤ xs.length
  · rw [Nat.min_eq_left c]
  · rw [Nat.min_eq_right (by omega), List.drop_of_length_le (Nat.le_refl _), List.drop_of_length_le (by omega)]
theorem DpAll.drop {K : PySem.W.Frag} {H : Hp} : ∀ {xs : List V} {ds : List PyData} (n : Nat), DpAll K H xs ds → DpAll K H (xs.drop n) (ds.drop n)
  | _, _, 0, h => by simpa using h
  | _, _, _ + 1, .nil => .nil
  | _, _, n + 1, .cons h t => DpAll.drop n t
/-! ### the order -/
theorem tl_inj {s t : Str} (h : tl s = tl t) : s = t := by
  cases s; cases t
  simp only [tl] at h
  rw [Str.mk.injEq]
  exact Array.toList_inj.mp h
theorem tl_tri (x y : Str) (h1 : ¬ tl x < tl y) (h2 : ¬ tl y < tl x) : x = y := tl_inj (List.le_antisymm (List.not_lt.mp h2) (List.not_lt.mp h1))
/-- a comes ahead of b -/
def ahead (a b : RW) : Bool := decide (b.2 < a.2) || (decide (a.2 = b.2) && decide (tl a.1 < tl b.1))
theorem ahead_is (a b : RW) : aheadR a b = ahead a b := by
  unfold aheadR ahead
  by_cases h : a.2 = b.2
  · rw [if_pos h]
    have : ¬ b.2 < a.2 := by omega
    simp [h]
  · rw [if_neg h]; simp [h]
theorem ahead_iff {a b : RW} : ahead a b = true ↔ b.2 < a.2 ∨ (a.2 = b.2 ∧ tl a.1 < tl b.1) := by
  unfold ahead; simp
theorem leR_is (a b : RW) : leR a b = !ahead b a := by
  unfold leR ahead
  by_cases h : b.2 < a.2
  · have h1 : ¬ a.2 < b.2 := by omega
    have h2 : ¬ b.2 = a.2 := by omega
    simp [h, h1, h2]
  · by_cases h1 : a.2 < b.2
    · have h2 : ¬ a.2 = b.2 := by omega
      simp [h1, h2, h]
    · have h2 : a.2 = b.2 := by omega
      simp [h2]
theorem leR_iff {a b : RW} : leR a b = true ↔ ¬ ahead b a = true := by rw [leR_is]; simp
theorem tl_lt_trans {x y z : List Nat} (h : x < y) (g : y < z) : x < z := List.lt_trans h g
theorem ahead_trans {a b c : RW} (h : ahead a b = true) (g : ahead b c = true) : ahead a c = true := by
  rw [ahead_iff] at *
  rcases h with h | ⟨h, h'⟩
  · rcases g with g | ⟨g, g'⟩
    · left; omega
    · left; omega
  · rcases g with g | ⟨g, g'⟩
    · left; omega
    · right; exact ⟨by omega, List.lt_trans h' g'⟩
theorem ahead_asymm {a b : RW} (h : ahead a b = true) : ¬ ahead b a = true := by
  rw [ahead_iff] at *
  rintro (g | ⟨g, g'⟩)
  · rcases h with h | ⟨h, h'⟩ <;> omega
  · rcases h with h | ⟨h, h'⟩
    · omega
    · exact List.lt_asymm h' g'
theorem ahead_tri {a b : RW} (h : ¬ ahead a b = true) (g : ¬ ahead b a = true) : a = b := by
  rw [ahead_iff] at *
  have e : a.2 = b.2 := by
    by_cases h1 : b.2 < a.2
    · exact absurd (.inl h1) h
    · by_cases h2 : a.2 < b.2
      · exact absurd (.inl h2) g
      · omega
  have w : a.1 = b.1 := tl_tri _ _ (fun z => h (.inr ⟨e, z⟩)) (fun z => g (.inr ⟨e.symm, z⟩))
  exact Prod.ext w e
theorem leR_trans (a b c : RW) (h : leR a b = true) (g : leR b c = true) : leR a c = true := by
  rw [leR_iff] at *
  intro z
  by_cases e : ahead b a = true
  · exact h e
  · by_cases e2 : ahead a b = true
    · exact g (ahead_trans z e2)
    · have := ahead_tri e e2
      subst this; exact g z
theorem leR_total (a b : RW) : (leR a b || leR b a) = true := by
  rw [Bool.or_eq_true, leR_iff, leR_iff]
  by_cases e : ahead b a = true
  · exact .inr (ahead_asymm e)
  · exact .inl e
theorem leR_anti {a b : RW} (h : leR a b = true) (g : leR b a = true) : a = b := by
  rw [leR_iff] at *
  exact ahead_tri g h
theorem leR_of_ahead {a b : RW} (h : ahead a b = true) : leR a b = true := leR_iff.mpr (ahead_asymm h)
/-- the sorted list is the one -/
theorem sorted_is {l m : List RW} (h : m.Perm l) (s : m.Pairwise fun a b => leR a b = true) : m = l.mergeSort leR :=
  List.Perm.eq_of_pairwise (le := fun a b => leR a b = true) (fun _ _ _ _ => leR_anti) s (List.pairwise_mergeSort leR_trans leR_total l) (h.trans (List.mergeSort_perm l leR).symm)
theorem mem_best {l : List RW} {e : RW} : e ∈ l.mergeSort leR ↔ e ∈ l := (List.mergeSort_perm l leR).mem_iff
/-- laid in at its place -/
theorem ins_sorted {L : List RW} {e : RW} {a : Nat} (s : L.Pairwise fun a b => leR a b = true) (h : ∀ x ∈ L.take a, ahead x e = true) (g : L.length ≤ a ∨ ∃ y, L[a]? = some y ∧ ahead y e = false) :
    (L.take a ++ e :: L.drop a).Pairwise fun a b => leR a b = true := by
  have s2 : (L.take a ++ L.drop a).Pairwise fun a b => leR a b = true := by rw [List.take_append_drop]; exact s
  rw [List.pairwise_append] at s2 ⊢
  obtain ⟨s3, s4, s5⟩ := s2
  have le : ∀ z ∈ L.drop a, leR e z = true := by
    intro z hz
    rcases g with g | ⟨y, hy, g⟩
    · rw [List.drop_of_length_le g] at hz; cases hz
    · obtain ⟨hl, hy2⟩ := List.getElem?_eq_some_iff.mp hy
      have ed : L.drop a = y :: L.drop (a + 1) := by rw [List.drop_eq_getElem_cons hl, hy2]
      have ey : leR e y = true := leR_iff.mpr (by rw [g]; decide)
      rw [ed] at hz s4
      rcases List.mem_cons.mp hz with rfl | hz
      · exact ey
      · exact leR_trans _ _ _ ey ((List.pairwise_cons.mp s4).1 z hz)
  refine ⟨s3, List.pairwise_cons.mpr ⟨le, s4⟩, fun x hx z hz => ?_⟩
  rcases List.mem_cons.mp hz with rfl | hz
  · exact leR_of_ahead (h x hx)
  · exact s5 x hx z hz
theorem ins_perm {L : List RW} {e : RW} {a : Nat} : (L.take a ++ e :: L.drop a).Perm (L ++ [e]) := by
  have h1 : (L.take a ++ e :: L.drop a).Perm (e :: (L.take a ++ L.drop a)) := List.perm_middle
  rw [List.take_append_drop] at h1
  exact h1.trans (List.perm_append_singleton e L).symm
theorem paired_of_dp {α : Type} {K : PySem.W.Frag} {H : Hp} {enc : α → PyData} : ∀ {xs : List V} {l : List α}, DpAll K H xs (l.map enc) → Paired (fun x e => Dp K H x (enc e)) xs l
  | [], [], _ => .nil
  | _ :: _, [], h => nomatch h
  | [], _ :: _, h => nomatch h
  | _ :: _, _ :: _, .cons h t => .cons h (paired_of_dp t)
theorem dp_of_paired {α : Type} {K : PySem.W.Frag} {H : Hp} {enc : α → PyData} : ∀ {xs : List V} {l : List α}, Paired (fun x e => Dp K H x (enc e)) xs l → DpAll K H xs (l.map enc)
  | [], [], _ => .nil
  | _ :: _, _ :: _, .cons h t => .cons h (dp_of_paired t)
/-- rank_of -/
def spRank (K : PySem.W.Frag) : Sp := fun vs H Q _ => ∃ (x : V) (l : List RW) (z : Str), vs = [x, .str z] ∧ Dp K H x (dRated l) ∧ l.length ≤ 10000 ∧ (∀ e ∈ l, PyData.strOk e.1 = true) ∧
  ((∀ e ∈ l, e.1 ≠ z) → ∀ H', Same H H' → Q .non H') ∧ (∀ e0 ∈ l, e0.1 = z → ∀ H', Same H H' → Q (.int (l.countP fun e => ahead e e0)) H')
/-! ### the laws' draws of words and counts -/
def spCount : Sp := fun vs H Q _ => ∃ b : Addr, vs = [.ref b] ∧ BoxAt H b ∧ ∀ (r : Int) (H' : Hp), 0 ≤ r → r ≤ 1000000000 → BoxAt H' b → But b H H' → Q (.int r) H'
/-- a word near the words told -/
def spNext (K : PySem.W.Frag) : Sp := fun vs H Q _ => ∃ (b a : Addr) (ss : List Str), vs = [.ref b, .ref a] ∧ BoxAt H b ∧ SqL K H a (ss.map V.str) ∧ a ≠ b ∧ ss.length ≤ 10000 ∧ (∀ s ∈ ss, isW s = true) ∧
  ∀ (s : Str) (H' : Hp), isW s = true → BoxAt H' b → But b H H' → Q (.str s) H'
/-- the values are tuples that stand in the heap -/
def RatedIn (H : Hp) : List V → List RW → Prop := Paired fun x e => ∃ t, x = .ref t ∧ H t = some (.tup [.str e.1, .int e.2])
theorem RatedIn.mono {H H' : Hp} {xs : List V} {l : List RW} (k : ∀ t zs, H t = some (.tup zs) → H' t = some (.tup zs)) (h : RatedIn H xs l) : RatedIn H' xs l := by
  induction h with
  | nil => exact .nil
  | cons h _ ih =>
    obtain ⟨t, rfl, e⟩ := h
    exact .cons ⟨t, rfl, k _ _ e⟩ ih
theorem RatedIn.but {H H' : Hp} {xs : List V} {l : List RW} {b : Addr} (h : RatedIn H xs l) (s : But b H H') (hb : BoxAt H b) : RatedIn H' xs l := h.mono fun t zs e => s _ _ (by
  rintro rfl
  obtain ⟨_, _, _, _, e2⟩ := hb
  rw [e2] at e; cases e) e
theorem RatedIn.new {H : Hp} {xs : List V} {l : List RW} {p : Addr} {o : HO} (h : RatedIn H xs l) (n : H p = none) : RatedIn (upd H p o) xs l := h.mono fun _ _ e => keepN e n
theorem RatedIn.upd {H : Hp} {xs : List V} {l : List RW} {p : Addr} {o o' : HO} (h : RatedIn H xs l) (e : H p = some o') (n : ∀ zs, o' ≠ .tup zs) : RatedIn (upd H p o) xs l := h.mono fun t zs e2 => by
  rw [upd_ne (by rintro rfl; rw [e] at e2; exact n _ (Option.some.inj e2))]; exact e2
theorem RatedIn.app {H : Hp} {xs : List V} {l : List RW} {t : Addr} {s : Str} {c : Int} (h : RatedIn H xs l) (e : H t = some (.tup [.str s, .int c])) : RatedIn H (xs ++ [.ref t]) (l ++ [(s, c)]) := by
  induction h with
  | nil => exact .cons ⟨t, rfl, e⟩ .nil
  | cons h _ ih => exact .cons h ih
theorem RatedIn.dp {K : PySem.W.Frag} {H : Hp} {xs : List V} {l : List RW} (h : RatedIn H xs l) : DpAll K H xs (l.map dP) := by
  induction h with
  | nil => exact .nil
  | cons h _ ih =>
    obtain ⟨t, rfl, e⟩ := h
    exact .cons (.tup (SqT.of e) (.cons (.str _) (.cons (.int _) .nil))) ih
theorem But.mut {b : Addr} {H1 H : Hp} {D : Addr} {o : HO} (s : But b H1 H) (hD : H1 D = none) : But b H1 (L2.upd H D o) := fun a u n e => by
  rw [upd_ne (ne_of_none e hD)]; exact s a u n e
/-- drawn rated words -/
def spRated (K : PySem.W.Frag) : Sp := fun vs H Q _ => ∃ b : Addr, vs = [.ref b] ∧ BoxAt H b ∧ ∀ (q : Addr) (H' : Hp) (xs : List V) (l : List RW), H' q = some (.lst xs) → DpAll K H' xs (l.map dP) → (l.map Prod.fst).Nodup → (∀ e ∈ l, isW e.1 = true) → l.length ≤ 100 →
  H q = none → BoxAt H' b → But b H H' → Q (.ref q) H'
theorem flat_strs (ss : List Str) : (ss.map V.str).all flatV = true := by
  rw [List.all_eq_true]
  intro x hx
  obtain ⟨s, _, rfl⟩ := List.mem_map.mp hx
  rfl
theorem inV_strs (s : Str) (ss : List Str) : inV (.str s) (ss.map V.str) = decide (s ∈ ss) := by
  unfold inV
  rw [Bool.eq_iff_iff, List.any_eq_true, decide_eq_true_eq]
  constructor
  · rintro ⟨y, hy, e⟩
    obtain ⟨z, hz, rfl⟩ := List.mem_map.mp hy
    have : z = s := by simpa [eqV] using e
    rw [← this]; exact hz
  · intro h
    exact ⟨.str s, List.mem_map.mpr ⟨s, h, rfl⟩, by simp [eqV]⟩
theorem BoxAt.some {H : Hp} {b : Addr} (h : BoxAt H b) : H b = Option.some (.lst [.int h.choose, .int h.choose_spec.choose, .int h.choose_spec.choose_spec.choose, .int h.choose_spec.choose_spec.choose_spec.choose]) := h.choose_spec.choose_spec.choose_spec.choose_spec
/-! ### the place of each -/
theorem nodup_of_map {l : List RW} (h : (l.map Prod.fst).Nodup) : l.Nodup := by
  induction l with
  | nil => exact .nil
  | cons a l ih =>
    rw [List.map_cons, List.nodup_cons] at h
    exact List.nodup_cons.mpr ⟨fun hm => h.1 (List.mem_map.mpr ⟨a, hm, rfl⟩), ih h.2⟩
theorem rank_is {l : List RW} {j : Nat} {e : RW} (hnd : (l.map Prod.fst).Nodup) (h : (l.mergeSort leR)[j]? = some e) : (l.countP fun x => ahead x e) = j := by
  have hp := List.mergeSort_perm l leR
  rw [← hp.countP_eq]
  have hs : (l.mergeSort leR).Pairwise fun a b => leR a b = true := List.pairwise_mergeSort leR_trans leR_total l
  have hn : (l.mergeSort leR).Nodup := hp.nodup_iff.mpr (nodup_of_map hnd)
  generalize l.mergeSort leR = m at h hs hn
  obtain ⟨hj, he⟩ := List.getElem?_eq_some_iff.mp h
  have ed : m = m.take j ++ e :: m.drop (j + 1) := by
    rw [← he, ← List.drop_eq_getElem_cons hj, List.take_append_drop]
  rw [ed, List.countP_append]
  rw [ed] at hs hn
  obtain ⟨s1, s2, s3⟩ := List.pairwise_append.mp hs
  have c1 : (m.take j).countP (fun x => ahead x e) = j := by
    have : (m.take j).countP (fun x => ahead x e) = (m.take j).length := List.countP_eq_length.mpr fun x hx => by
      have h1 := s3 x hx e (by simp)
      have h2 : x ≠ e := by
        rintro rfl
        exact (List.nodup_append.mp hn).2.2 x hx x (by simp) rfl
      by_cases c : ahead x e = true
      · exact c
      · exact absurd (ahead_tri c (leR_iff.mp h1)) h2
    rw [this, List.length_take]; omega
  have c2 : (e :: m.drop (j + 1)).countP (fun x => ahead x e) = 0 := List.countP_eq_zero.mpr fun x hx => by
    rcases List.mem_cons.mp hx with rfl | hx
    · intro z; exact ahead_asymm z z
    · exact leR_iff.mp ((List.pairwise_cons.mp s2).1 x hx)
  rw [c1, c2]; omega
theorem nodup_fst : ∀ {l : List RW} {a b : RW}, (l.map Prod.fst).Nodup → a ∈ l → b ∈ l → a.1 = b.1 → a = b
  | c :: l, a, b, h, ha, hb, e => by
    rw [List.map_cons, List.nodup_cons] at h
    rcases List.mem_cons.mp ha with ea | ha2
    · rcases List.mem_cons.mp hb with eb | hb2
      · exact ea.trans eb.symm
      · exact absurd (List.mem_map.mpr ⟨b, hb2, e.symm⟩) (ea ▸ h.1)
    · rcases List.mem_cons.mp hb with eb | hb2
      · exact absurd (List.mem_map.mpr ⟨a, ha2, e⟩) (eb ▸ h.1)
      · exact nodup_fst h.2 ha2 hb2 e
end Ah
set_option Elab.async false
set_option linter.all false
set_option maxRecDepth 100000
set_option maxHeartbeats 4000000
/-! feeds of draws: the second family of helpers -/
namespace Ah
open PySem PySem.Spec PyProof.Rows L2 TL
/-- a feed stands at b: its cells, three numbers -/
def FeedAt (k : Int) (H : Hp) (b : Addr) : Prop := ∃ (c : Addr) (n0 : Int) (nr : List Int) (x1 x2 x3 : Int), H b = some (.lst [.ref c, .int x1, .int x2, .int x3]) ∧ H c = some (.lst (.int n0 :: nr.map V.int)) ∧ nr.length ≤ 1000 ∧ 0 ≤ x1 ∧ 0 ≤ x3 ∧ x3 ≤ k
section
variable {k k' : Int} {H H' : Hp} {b p : Addr} {o : HO}
theorem FeedAt.mono (h : FeedAt k H b) (l : k ≤ k') : FeedAt k' H b := by
  obtain ⟨c, n0, nr, x1, x2, x3, e, e2, r1, r2, r3, r4⟩ := h
  exact ⟨c, n0, nr, x1, x2, x3, e, e2, r1, r2, r3, by omega⟩
theorem FeedAt.ex (h : FeedAt k H b) : ∃ o, H b = some o := by
  obtain ⟨c, n0, nr, x1, x2, x3, e, _⟩ := h
  exact ⟨_, e⟩
theorem FeedAt.ne (h : FeedAt k H b) (n : H p = none) : b ≠ p := by
  obtain ⟨_, e⟩ := h.ex
  exact ne_of_none e n
theorem FeedAt.new (h : FeedAt k H b) (n : H p = none) : FeedAt k (upd H p o) b := by
  obtain ⟨c, n0, nr, x1, x2, x3, e, e2, r⟩ := h
  exact ⟨c, n0, nr, x1, x2, x3, keepN e n, keepN e2 n, r⟩
theorem FeedAt.same (h : FeedAt k H b) (s : Same H H') : FeedAt k H' b := by
  obtain ⟨c, n0, nr, x1, x2, x3, e, e2, r⟩ := h
  exact ⟨c, n0, nr, x1, x2, x3, s _ _ e, s _ _ e2, r⟩
theorem FeedAt.nes (h : FeedAt k H b) {ss : List Str} (e : H p = some (.lst (ss.map V.str))) : p ≠ b := by
  obtain ⟨c, n0, nr, x1, x2, x3, e1, e2, r⟩ := h
  rintro rfl
  rw [e1] at e
  cases ss <;> simp at e
/-- a list of texts changes -/
theorem FeedAt.upd (h : FeedAt k H b) {ss : List Str} (e : H p = some (.lst (ss.map V.str))) : FeedAt k (L2.upd H p o) b := by
  have hn := h.nes e
  obtain ⟨c, n0, nr, x1, x2, x3, e1, e2, r⟩ := h
  have hc : c ≠ p := by
    rintro rfl
    rw [e2] at e
    cases ss <;> simp at e
  exact ⟨c, n0, nr, x1, x2, x3, by rw [upd_ne hn.symm]; exact e1, by rw [upd_ne hc]; exact e2, r⟩
theorem But.free' {H1 : Hp} (x : But b H H1) (hb : FeedAt k H1 b) (h : H1 p = none) : H p = none := by
  obtain ⟨_, e⟩ := hb.ex
  exact x.free e h
end
def spDraw : Sp := fun vs H Q _ => ∃ (b : Addr) (m k : Int), vs = [.ref b, .int m] ∧ FeedAt k H b ∧ k ≤ 1000000000000 ∧ 0 < m ∧ m < 18446744073709551616 ∧
  ∀ (r : Int) (H' : Hp), 0 ≤ r → r < m → FeedAt (k + 1) H' b → But b H H' → Q (.int r) H'
theorem use_draw {H : Hp} {Q : VK} {E : XK} {b : Addr} {m k : Int} (hb : FeedAt k H b) (hk : k ≤ 1000000000000) (hm : 0 < m) (hl : m < 18446744073709551616)
    (g : ∀ (r : Int) (H' : Hp), 0 ≤ r → r < m → FeedAt (k + 1) H' b → But b H H' → Q (.int r) H') : spDraw [.ref b, .int m] H Q E := ⟨b, m, k, rfl, hb, hk, hm, hl, g⟩
def spFeed (K : PySem.W.Frag) : Sp := fun vs H Q _ => ∃ (a : Addr) (ns : List Int), vs = [.ref a] ∧ SqL K H a (ns.map V.int) ∧ ns.length ≤ 63 ∧
  ∀ (b : Addr) (H' : Hp), Same H H' → H b = none → FeedAt 0 H' b → Q (.ref b) H'
/-- four letters -/
structure L4 (z : Str) : Prop where
  len : (tl z).length = 4
  low : ∀ c ∈ tl z, low c = true
def spPartF : Sp := fun vs H Q _ => ∃ (b : Addr) (z : Str) (k : Int), vs = [.ref b, .str z] ∧ FeedAt k H b ∧ k ≤ 100000000000 ∧ L4 z ∧ ∀ (s : Str) (H' : Hp), partL (tl s) = true → FeedAt (k + 20) H' b → But b H H' → Q (.str s) H'
def fitL (l : List Nat) : Bool := decide (l.length ≤ 24) && (decide ((spA [] l).length ≤ 4) && (spA [] l).all fun p => decide (p.length ≤ 12))
def spFit : Sp := fun vs H Q _ => ∃ s : Str, vs = [.str s] ∧ s.length ≤ 1000 ∧ ∀ H', Same H H' → Q (.bl (fitL (tl s))) H'
/-- a drawn word, near the words told -/
def spWordF (K : PySem.W.Frag) : Sp := fun vs H Q _ => ∃ (b a : Addr) (ss : List Str) (z : Str) (k : Int), vs = [.ref b, .ref a, .str z] ∧ FeedAt k H b ∧ k ≤ 10000000000 ∧ H a = some (.lst (ss.map V.str)) ∧ ss.length ≤ 1000 ∧ (∀ s ∈ ss, isW s = true) ∧ L4 z ∧
  ∀ (s : Str) (H' : Hp), isW s = true → FeedAt (k + 100) H' b → But b H H' → Q (.str s) H'
def spWordsF (K : PySem.W.Frag) : Sp := fun vs H Q _ => ∃ (b : Addr) (m k : Int), vs = [.ref b, .int m] ∧ FeedAt k H b ∧ k ≤ 1000000000 ∧ 0 < m ∧ m ≤ 1000 ∧
  ∀ (q : Addr) (ss : List Str) (H' : Hp), H' q = some (.lst (ss.map V.str)) → H q = none → ss.Nodup → ss ≠ [] → (ss.length : Int) ≤ m → (∀ s ∈ ss, isW s = true) → FeedAt (k + 200 * m + 10) H' b → But b H H' → Q (.ref q) H'
/-! ### a word lengthened -/
theorem spA_snoc : ∀ (l acc : List Nat) {c : Nat}, c ≠ 32 → ∃ ps p, spA acc l = ps ++ [p] ∧ spA acc (l ++ [c]) = ps ++ [p ++ [c]]
  | [], acc, c, h => ⟨[], acc, rfl, by simp [spA, h]⟩
  | d :: l, acc, c, h => by
    by_cases e : d = 32
    · subst e
      obtain ⟨ps, p, h1, h2⟩ := spA_snoc l [] h
      exact ⟨acc :: ps, p, by simp [spA, h1], by simp [spA, h2]⟩
    · obtain ⟨ps, p, h1, h2⟩ := spA_snoc l (acc ++ [d]) h
      refine ⟨ps, p, ?_, ?_⟩
      · simp only [spA, if_neg e]; exact h1
      · show spA acc (d :: (l ++ [c])) = _
        simp only [spA, if_neg e]; exact h2
theorem spA_more : ∀ (l acc m : List Nat), spA acc (l ++ 32 :: m) = spA acc l ++ spA [] m
  | [], acc, m => by simp [spA]
  | d :: l, acc, m => by
    by_cases e : d = 32
    · subst e
      show spA acc (32 :: (l ++ 32 :: m)) = _
      simp only [spA, if_pos]
      rw [spA_more l [] m]; rfl
    · show spA acc (d :: (l ++ 32 :: m)) = _
      simp only [spA, if_neg e]
      exact spA_more l (acc ++ [d]) m
theorem word_of_fit {l : List Nat} (hf : fitL l = true) (hp : ∀ p ∈ spA [] l, p ≠ [] ∧ p.all low = true) : wordL l = true := by
  unfold fitL at hf
  simp only [Bool.and_eq_true, decide_eq_true_eq, List.all_eq_true] at hf
  unfold wordL
  simp only [Bool.and_eq_true, decide_eq_true_eq, List.all_eq_true]
  refine ⟨⟨hf.1, hf.2.1⟩, fun p h => ?_⟩
  unfold partL
  have h1 := hp p h
  have h2 : 1 ≤ p.length := List.length_pos_iff.mpr h1.1
  simp only [h1.2, Bool.and_true, Bool.and_eq_true, decide_eq_true_eq]
  exact ⟨h2, hf.2.2 p h⟩
theorem wordL_parts {l : List Nat} (h : wordL l = true) : ∀ p ∈ spA [] l, p ≠ [] ∧ p.all low = true := fun p hp => by
  unfold wordL at h
  simp only [Bool.and_eq_true, List.all_eq_true] at h
  have := h.2 p hp
  exact ⟨partL_ne this, List.all_eq_true.mpr (partL_low this)⟩
theorem longer_word {l : List Nat} {c : Nat} (h : wordL l = true) (hc : low c = true) (hf : fitL (l ++ [c]) = true) : wordL (l ++ [c]) = true := by
  refine word_of_fit hf fun p hp => ?_
  obtain ⟨ps, q, h1, h2⟩ := spA_snoc l [] (low_ne hc)
  have hw := wordL_parts h
  rw [h1] at hw
  rw [h2] at hp
  rcases List.mem_append.mp hp with hp | hp
  · exact hw p (List.mem_append.mpr (.inl hp))
  · have e : p = q ++ [c] := by simpa using hp
    subst e
    have := hw q (by simp)
    exact ⟨by simp, by rw [List.all_append, this.2]; simp [hc]⟩
theorem longer_word2 {l : List Nat} {c : Nat} (h : wordL l = true) (hc : low c = true) (hf : fitL (l ++ [32, c]) = true) : wordL (l ++ [32, c]) = true := by
  refine word_of_fit hf fun p hp => ?_
  have e : spA [] (l ++ [32, c]) = spA [] l ++ [[c]] := by
    rw [spA_more l [] [c], spA_one (p := [c]) (by
      have := low_ne hc
      simp [eq_comm, this])]
  rw [e] at hp
  rcases List.mem_append.mp hp with hp | hp
  · exact wordL_parts h p hp
  · have : p = [c] := by simpa using hp
    subst this
    exact ⟨by simp, by simp [hc]⟩
/-! ### tails -/
theorem starts_is (a b : Str) : Txt.startswith a b = decide ((tl a).take (tl b).length = tl b) := by
  unfold Txt.startswith
  rw [PySem.StrLaws.subAt_eq, Nat.zero_add, List.drop_zero, Bool.eq_iff_iff, Bool.and_eq_true, decide_eq_true_eq, decide_eq_true_eq, beq_iff_eq, len_tl b, len_tl a]
  show (tl b).length ≤ (tl a).length ∧ (tl a).take (tl b).length = tl b ↔ _
  constructor
  · exact fun h => h.2
  · intro h
    refine ⟨?_, h⟩
    have := congrArg List.length h
    rw [List.length_take] at this; omega
def sj : List (List Nat) → List (List Nat)
  | [] => []
  | p :: r => joinL [32] (p :: r) :: sj r
def tailsA : List Nat → List (List Nat)
  | [] => []
  | c :: r => if c = 32 then r :: tailsA r else tailsA r
theorem sj_spA : ∀ (l acc : List Nat), sj (spA acc l) = (acc ++ l) :: tailsA l
  | [], acc => by simp [spA, sj, tailsA, joinL]
  | c :: r, acc => by
    by_cases h : c = 32
    · subst h
      have e : spA acc (32 :: r) = acc :: spA [] r := by simp [spA]
      have e2 : tailsA (32 :: r) = r :: tailsA r := by simp [tailsA]
      rw [e, e2]
      show joinL [32] (acc :: spA [] r) :: sj (spA [] r) = _
      rw [joinL_cons acc (spA_ne r []), join_spA, sj_spA r []]
      simp
    · have e : spA acc (c :: r) = spA (acc ++ [c]) r := by simp [spA, h]
      have e2 : tailsA (c :: r) = tailsA r := by simp [tailsA, h]
      rw [e, e2, sj_spA r]; simp
theorem sj_len : ∀ P : List (List Nat), (sj P).length = P.length
  | [] => rfl
  | _ :: r => by simp [sj, sj_len r]
theorem sj_get : ∀ (P : List (List Nat)) (k : Nat), k < P.length → (sj P)[k]? = some (joinL [32] (P.drop k))
  | p :: r, 0, _ => by simp [sj]
  | p :: r, k + 1, h => by
    have := sj_get r k (by simpa using h)
    simpa [sj] using this
def tailsL (l : List Nat) : List (List Nat) := l :: tailsA l
theorem tails_len (l : List Nat) : (tailsL l).length = (spA [] l).length := by
  have := sj_spA l []
  simp only [List.nil_append] at this
  unfold tailsL
  rw [← this, sj_len]
theorem tails_get {l : List Nat} {k : Nat} (h : k < (tailsL l).length) : (tailsL l)[k]? = some (joinL [32] ((spA [] l).drop k)) := by
  have := sj_spA l []
  simp only [List.nil_append] at this
  rw [tails_len] at h
  unfold tailsL
  rw [← this]
  exact sj_get _ _ h
theorem tailsA_len : ∀ l : List Nat, (tailsA l).length ≤ l.length
  | [] => Nat.le_refl _
  | c :: r => by
    unfold tailsA
    have := tailsA_len r
    split <;> simp <;> omega
/-- the first tail that begins so -/
def foundAt (l t : List Nat) : Option Nat := (List.range (tailsL l).length).find? fun k => decide (((tailsL l).getD k []).take t.length = t)
def optI : Option Nat → V
  | none => .non
  | some k => .int k
def spTail : Sp := fun vs H Q _ => ∃ (w : Str) (k : Nat), vs = [.str w, .int k] ∧ isW w = true ∧ k < (tailsL (tl w)).length ∧ ∀ (s : Str) (H' : Hp), tl s = (tailsL (tl w)).getD k [] → Tx 30 s → Same H H' → Q (.str s) H'
def spFound : Sp := fun vs H Q _ => ∃ w t : Str, vs = [.str w, .str t] ∧ isW w = true ∧ ∀ H', Same H H' → Q (optI (foundAt (tl w) (tl t))) H'
def spTails : Sp := fun vs H Q _ => ∃ w : Str, vs = [.str w] ∧ isW w = true ∧ ∀ (q : Addr) (ts : List Str) (H' : Hp), H' q = some (.lst (ts.map V.str)) → H q = none → ts.map tl = tailsL (tl w) → Same H H' → Q (.ref q) H'
def spBegF : Sp := fun vs H Q _ => ∃ (b a : Addr) (ss : List Str) (k : Int), vs = [.ref b, .ref a] ∧ FeedAt k H b ∧ k ≤ 100000000000 ∧ H a = some (.lst (ss.map V.str)) ∧ a ≠ b ∧ ss ≠ [] ∧ ss.length ≤ 1000 ∧ (∀ s ∈ ss, isW s = true) ∧
  ∀ (s : Str) (H' : Hp), Tx 24 s → FeedAt (k + 10) H' b → But b H H' → Q (.str s) H'
theorem wordL_spA {l : List Nat} (h : wordL l = true) : (spA [] l).length ≤ 4 := by
  unfold wordL at h
  simp only [Bool.and_eq_true, decide_eq_true_eq] at h
  exact h.1.2
theorem tl_cut_mid {z : Str} {i j : Nat} (h : i ≤ j) (hj : j ≤ (tl z).length) : tl (cutS z (some (i : Int)) (some (j : Int))) = ((tl z).drop i).take (j - i) := by
  unfold cutS
  rw [tl_mk, HT.sIx_nat, HT.sIx_nat, len_tl, Nat.min_eq_left (show i ≤ (tl z).length by omega)]
  first
    | rw [Nat.min_eq_left hj]
    | rfl
theorem joinL_drop_len : ∀ (P : List (List Nat)) (k : Nat), (joinL [32] (P.drop k)).length ≤ (joinL [32] P).length
  | [], k => by simp
  | p :: r, 0 => Nat.le_refl _
  | p :: r, k + 1 => by
    have := joinL_drop_len r k
    rw [List.drop_succ_cons]
    cases r with
    | nil => simp [joinL]
    | cons q r =>
      rw [joinL_cons p (by simp)]
      simp only [List.length_append, List.length_cons]
      omega
theorem suff_len (l : List Nat) (k : Nat) : (joinL [32] ((spA [] l).drop k)).length ≤ l.length := by
  have := joinL_drop_len (spA [] l) k
  rw [join_spA] at this
  simpa using this
end Ah
namespace Ah
open PySem PySem.Spec PyProof.Rows L2
def top (i : Nat) : Stmt := PySem.Challenge.pw_aheadword_k35_tails_and_places.main.body.getD i (.Pass ⟨0, 0, 0, 0⟩)
abbrev s_tail_of : Stmt := top 1
theorem sc_tail_of : FnScope ["word", "place"] ["word", "place"] (defScope s_tail_of) := ⟨rfl, rfl, rfl, by decide +kernel, rfl, by decide +kernel, by decide +kernel⟩
theorem bi_tail_of : BindOk "tail_of" s_tail_of ["word", "place"] := fun _ _ _ _ _ _ us hl => match us, hl with | [_, _], _ => rfl
abbrev s_found_at : Stmt := top 2
theorem sc_found_at : FnScope ["word", "beginning", "place"] ["word", "beginning"] (defScope s_found_at) := ⟨rfl, rfl, rfl, by decide +kernel, rfl, by decide +kernel, by decide +kernel⟩
theorem bi_found_at : BindOk "found_at" s_found_at ["word", "beginning"] := fun _ _ _ _ _ _ us hl => match us, hl with | [_, _], _ => rfl
abbrev s_law_feed : Stmt := top 4
theorem sc_law_feed : FnScope ["_law_script", "_law_cells"] ["_law_script"] (defScope s_law_feed) := ⟨rfl, rfl, rfl, by decide +kernel, rfl, by decide +kernel, by decide +kernel⟩
theorem bi_law_feed : BindOk "_law_feed" s_law_feed ["_law_script"] := fun _ _ _ _ _ _ us hl => match us, hl with | [_], _ => rfl
abbrev s_law_draw : Stmt := top 5
theorem sc_law_draw : FnScope ["_law_feed_here", "_law_many", "_law_cells", "_law_found", "_law_at", "_law_number"] ["_law_feed_here", "_law_many"] (defScope s_law_draw) := ⟨rfl, rfl, rfl, by decide +kernel, rfl, by decide +kernel, by decide +kernel⟩
theorem bi_law_draw : BindOk "_law_draw" s_law_draw ["_law_feed_here", "_law_many"] := fun _ _ _ _ _ _ us hl => match us, hl with | [_, _], _ => rfl
abbrev s_law_part : Stmt := top 6
theorem sc_law_part : FnScope ["_law_feed_here", "_law_letters", "_law_size", "_law_k"] ["_law_feed_here", "_law_letters"] (defScope s_law_part) := ⟨rfl, rfl, rfl, by decide +kernel, rfl, by decide +kernel, by decide +kernel⟩
theorem bi_law_part : BindOk "_law_part" s_law_part ["_law_feed_here", "_law_letters"] := fun _ _ _ _ _ _ us hl => match us, hl with | [_, _], _ => rfl
abbrev s_law_is_fit : Stmt := top 7
theorem sc_law_is_fit : FnScope ["_law_text", "_law_parts", "_law_part_here"] ["_law_text"] (defScope s_law_is_fit) := ⟨rfl, rfl, rfl, by decide +kernel, rfl, by decide +kernel, by decide +kernel⟩
theorem bi_law_is_fit : BindOk "_law_is_fit" s_law_is_fit ["_law_text"] := fun _ _ _ _ _ _ us hl => match us, hl with | [_], _ => rfl
abbrev s_law_word : Stmt := top 8
theorem sc_law_word : FnScope ["_law_feed_here", "_law_words_here", "_law_letters", "_law_more", "_law_longer", "_law_parts", "_law_k"] ["_law_feed_here", "_law_words_here", "_law_letters"] (defScope s_law_word) := ⟨rfl, rfl, rfl, by decide +kernel, rfl, by decide +kernel, by decide +kernel⟩
theorem bi_law_word : BindOk "_law_word" s_law_word ["_law_feed_here", "_law_words_here", "_law_letters"] := fun _ _ _ _ _ _ us hl => match us, hl with | [_, _, _], _ => rfl
abbrev s_law_words : Stmt := top 9
theorem sc_law_words : FnScope ["_law_feed_here", "_law_many", "_law_first", "_law_some", "_law_letters", "_law_words_here", "_law_k", "_law_word_here"] ["_law_feed_here", "_law_many"] (defScope s_law_words) := ⟨rfl, rfl, rfl, by decide +kernel, rfl, by decide +kernel, by decide +kernel⟩
theorem bi_law_words : BindOk "_law_words" s_law_words ["_law_feed_here", "_law_many"] := fun _ _ _ _ _ _ us hl => match us, hl with | [_, _], _ => rfl
abbrev s_law_beginning : Stmt := top 10
theorem sc_law_beginning : FnScope ["_law_feed_here", "_law_words_here", "_law_word_here", "_law_parts", "_law_tail", "_law_text"] ["_law_feed_here", "_law_words_here"] (defScope s_law_beginning) := ⟨rfl, rfl, rfl, by decide +kernel, rfl, by decide +kernel, by decide +kernel⟩
theorem bi_law_beginning : BindOk "_law_beginning" s_law_beginning ["_law_feed_here", "_law_words_here"] := fun _ _ _ _ _ _ us hl => match us, hl with | [_, _], _ => rfl
abbrev s_law_tails : Stmt := top 11
theorem sc_law_tails : FnScope ["_law_word_here", "_law_tails_here", "_law_k"] ["_law_word_here"] (defScope s_law_tails) := ⟨rfl, rfl, rfl, by decide +kernel, rfl, by decide +kernel, by decide +kernel⟩
theorem bi_law_tails : BindOk "_law_tails" s_law_tails ["_law_word_here"] := fun _ _ _ _ _ _ us hl => match us, hl with | [_], _ => rfl
abbrev s_law : Stmt := top 12
theorem sc_law : FnScope ["_law_script", "_law_feed_here", "_law_words_here", "_law_word_here", "_law_tails_here", "_law_k", "_law_found", "_law_text", "_law_places"] ["_law_script"] (defScope s_law) := ⟨rfl, rfl, rfl, by decide +kernel, rfl, by decide +kernel, by decide +kernel⟩
theorem bi_law : BindOk "law" s_law ["_law_script"] := fun _ _ _ _ _ _ us hl => match us, hl with | [_], _ => rfl
structure Top (K : PySem.W.Frag) (mg : Str → Option Value) : Prop where
  n_bool : mg "bool" = none
  n_int : mg "int" = none
  n_isinstance : mg "isinstance" = none
  n_len : mg "len" = none
  n_max : mg "max" = none
  n_range : mg "range" = none
  n_str : mg "str" = none
  d_tail_of : DefAt K mg "tail_of" s_tail_of
  d_found_at : DefAt K mg "found_at" s_found_at
  d_law_feed : DefAt K mg "_law_feed" s_law_feed
  d_law_draw : DefAt K mg "_law_draw" s_law_draw
  d_law_part : DefAt K mg "_law_part" s_law_part
  d_law_is_fit : DefAt K mg "_law_is_fit" s_law_is_fit
  d_law_word : DefAt K mg "_law_word" s_law_word
  d_law_words : DefAt K mg "_law_words" s_law_words
  d_law_beginning : DefAt K mg "_law_beginning" s_law_beginning
  d_law_tails : DefAt K mg "_law_tails" s_law_tails
/-! ### short steps -/
local macro_rules | `(tactic| walk_at "ne") => `(tactic| first | assumption | (apply Ne.symm; assumption) | (exact ne_of_none (by assumption) (by assumption)) | (exact (ne_of_none (by assumption) (by assumption)).symm))
local macro_rules | `(tactic| walk_at "hp") => `(tactic| first | assumption | exact upd_same | (refine' (upd_ne ?n).trans ?h; (case n => walk_at "ne"); (case h => walk_at "hp")))
local macro_rules | `(tactic| walk_at "sq") => `(tactic| first | assumption | (refine' SqL.of ?h; (case h => walk_at "hp")))
local macro_rules | `(tactic| walk_at "st") => `(tactic| first | assumption | (refine' SqT.of ?h; (case h => walk_at "hp")))
local macro_rules | `(tactic| walk_at "sd") => `(tactic| first | assumption | decide | (constructor <;> decide) | omega | (constructor <;> omega) | (refine Or.inr ?_; constructor <;> decide) | (refine Or.inr ?_; constructor <;> omega))
local macro_rules | `(tactic| walk_at "kb") => `(tactic| first | exact kb_int_int | exact kb_int_bool | exact kb_int_str | exact kb_int_list | exact kb_int_tuple | exact kb_bool_int | exact kb_bool_bool | exact kb_bool_str | exact kb_bool_list | exact kb_bool_tuple | exact kb_str_int | exact kb_str_bool | exact kb_str_str | exact kb_str_list | exact kb_str_tuple | exact kb_NoneType_int | exact kb_NoneType_bool | exact kb_NoneType_str | exact kb_NoneType_list | exact kb_NoneType_tuple | exact kb_list_int | exact kb_list_bool | exact kb_list_str | exact kb_list_list | exact kb_list_tuple | exact kb_tuple_int | exact kb_tuple_bool | exact kb_tuple_str | exact kb_tuple_list | exact kb_tuple_tuple | exact kb_dict_int | exact kb_dict_bool | exact kb_dict_str | exact kb_dict_list | exact kb_dict_tuple)
local macro_rules | `(tactic| walk_at "ty") => `(tactic| first | exact .base (.int _) | exact .base (.bl _) | exact .base (.str _) | exact .base .non | (refine' .base (.tup ?h); (case h => walk_at "hp")) | (refine' .base (.lst ?h); (case h => walk_at "hp")))
local macro_rules | `(tactic| walk_at "u") => `(tactic| with_reducible first
  | refine u_seq ?_
  | refine u_asg ?_
  | refine u_drop ?_
  | refine u_ret ?_
  | refine u_retN ?_
  | refine u_next ?_
  | refine u_brk ?_
  | refine u_cont ?_
  | refine u_ifS ?_
  | refine u_op ?_
  | refine u_un ?_
  | refine u_c ?_
  | refine u_and ?_
  | refine u_or ?_
  | refine u_not ?_
  | refine u_andV ?_
  | refine u_orV ?_
  | refine u_notV ?_
  | refine u_if ?_
  | refine u_test ?_
  | refine u_B ?_
  | refine u_chain ?_
  | refine u_name ?_
  | refine u_sub ?_
  | refine u_nil ?_
  | refine u_cons ?_
  | refine u_call ?_
  | refine u_CB ?_
  | refine u_tup ?_
  | refine u_lst ?_
  | refine u_for ?_
  | refine u_iList ?_
  | refine u_iTup ?_
  | refine u_iRng1 ?_
  | refine u_iRng2 ?_
  | refine u_sl ?_
  | refine u_part ?_
  | refine u_nopart ?_
  | refine u_lc ?_
  | refine u_iStr ?_
  | refine u_M0 ?_
  | refine u_M1 ?_
  | refine u_bm ?_
  | refine u_bm0 ?_
  | refine u_yes ?_
  | refine u_gcons ?_
  | refine u_gnil ?_)
local macro_rules | `(tactic| walk_at "s") => `(tactic| first
  | ((with_reducible refine' s_var ?h ?q); (case h => rfl))
  | with_reducible refine s_ii ?_
  | ((with_reducible refine' s_eq ?h ?q); (case h => rfl))
  | ((with_reducible refine' s_ne ?h ?q); (case h => rfl))
  | with_reducible refine iteF ?_
  | with_reducible refine iteT ?_
  | with_reducible refine ntT ?_
  | with_reducible refine ntF ?_
  | (with_reducible refine Exists.intro _ (And.intro (show V.bl _ = V.bl _ from rfl) ?_))
  | (with_reducible refine s_isStr ?_)
  | (with_reducible refine Exists.intro _ (And.intro (show V.str _ = V.str _ from rfl) ?_))
  | (with_reducible refine Exists.intro _ (And.intro (show V.int _ = V.int _ from rfl) ?_))
  | (with_reducible refine Exists.intro _ (And.intro (show [V.int _] = [V.int _] from rfl) ?_))
  | (with_reducible refine Exists.intro _ (And.intro (show V.ref _ = V.ref _ from rfl) ?_))
  | with_reducible refine s_un ?_
  | ((with_reducible refine' s_ixL ?h ?a ?q); (case h => walk_at "sq"); (case a => rfl))
  | ((with_reducible refine' s_ixT ?h ?a ?q); (case h => walk_at "st"); (case a => rfl))
  | ((with_reducible refine' s_setL ?h ?a ?k); (case h => walk_at "hp"); (case a => rfl))
  | ((with_reducible refine' s_tyL ?h ?k); (case h => walk_at "sq"))
  | ((with_reducible refine' s_slL ?h ?q); (case h => walk_at "sq"))
  | ((with_reducible refine' s_isi ?t ?k ?q); (case t => walk_at "ty"); (case k => walk_at "kb"))
  | ((with_reducible refine' s_gtup ?h ?l ?k); (case h => walk_at "st"); (case l => rfl))
  | ((refine' ⟨_, _, rfl, Or.inl ?h, ?q⟩); (case h => walk_at "sq"))
  | ((refine' ⟨_, _, rfl, Or.inr ?h, ?q⟩); (case h => walk_at "st"))
  | ((with_reducible refine' s_iiC ?c ?q); (case c => walk_at "sd")))
local macro_rules | `(tactic| walk_at "go") => `(tactic| repeat first | walk_at "u" | walk_at "s")
section
variable {P : Program} {w : World} {K : PySem.W.Frag} {mg : Str → Option Value} {base : Heap}
theorem ok_tail_of (T : Top K mg)  : Fn P w K mg base 1 "tail_of" ["word", "place"] spTail := by
  refine T.d_tail_of.ok sc_tail_of bi_tail_of (fun vs H Q E h => ?_) (fun f cdv A outer s H vs Q E hr h => ?_)
  · obtain ⟨w, i, rfl, hw, hi, k⟩ := h; rfl
  · obtain ⟨w, i, rfl, hw, hi, k⟩ := h
    refine ⟨_, (pss_one (ps_ret (pe_join (pe_str) (pe_slice sl_list (pe_split (pv 0) (pe_str)) (po_some (pv 1)) po_none)))), ?_⟩
    have hlen := isW_len hw
    walk_at "go"
    refine ⟨w, _, rfl, rfl, by decide +kernel, by rw [sizeLine_eq]; omega, fun p hp => ?_⟩
    walk_at "go"
    generalize hys : Txt.split w (Str.ofString " ") = ys
    have e := split_blank w
    rw [hys] at e
    have sq : Same H (upd H p (.lst (ys.map V.str))) := Same.new (Same.refl H) hp
    have hL : (upd H p (.lst (ys.map V.str))) p = some (.lst (ys.map V.str)) := upd_same
    generalize (upd H p (.lst (ys.map V.str))) = G at sq hL ⊢
    have h4 : ys.length ≤ 4 := by
      have := wordL_spA hw
      rw [← e, List.length_map] at this
      exact this
    intro q hq
    rw [cutV_from _ (by omega), Int.toNat_natCast, ← List.map_drop]
    have hmem : ∀ y ∈ ys.drop i, Tx 24 y := fun y hy => by
      obtain ⟨a, b⟩ := split_mem (s := w) (by rw [hys]; exact List.mem_of_mem_drop hy)
      refine ⟨by rw [← TL.len_tl, ← TL.len_tl] at a; omega, strOk_iff.mpr fun c hc => strOk_iff.mp (Tx.word hw).ok c (b c hc)⟩
    have hj := Tx.join hmem
    have hsum := sum_len_le (f := fun p : Str => p.length) (n := 24) (l := ys.drop i) fun p hp => (hmem p hp).len
    have hdl : (ys.drop i).length ≤ 4 := by rw [List.length_drop]; omega
    have ett : TL.tl (Txt.join (Str.ofString " ") (ys.drop i)) = (tailsL (TL.tl w)).getD i [] := by
      rw [tl_join_blank, List.map_drop, e, List.getD_eq_getElem?_getD, tails_get hi]; rfl
    walk_at "go"
    refine ⟨_, q, _, rfl, rfl, .inl (SqL.of upd_same), ?_, ?_⟩
    · rw [TL.len_tl (Str.ofString " "), tl_blank]
      simp only [List.length_singleton]; omega
    refine k _ _ ett ⟨?_, hj.ok⟩ (Same.new sq hq)
    have h5 : (TL.tl (Txt.join (Str.ofString " ") (ys.drop i))).length ≤ (TL.tl w).length := by
      rw [tl_join_blank, List.map_drop, e]
      exact suff_len _ _
    rw [TL.len_tl]
    rw [TL.len_tl] at hlen
    omega
theorem ok_found_at (T : Top K mg) (F_tail_of : Fn P w K mg base 1 "tail_of" ["word", "place"] spTail) : Fn P w K mg base 2 "found_at" ["word", "beginning"] spFound := by
  refine T.d_found_at.ok sc_found_at bi_found_at (fun vs H Q E h => ?_) (fun f cdv A outer s H vs Q E hr h => ?_)
  · obtain ⟨w, t, rfl, hw, k⟩ := h; rfl
  · obtain ⟨w, t, rfl, hw, k⟩ := h
    refine ⟨_, (pss_cons (ps_for PassesOwn.never rfl (pi_range1 rfl T.n_range (pa_cons (pe_callB call_len_seq rfl T.n_len (by decide +kernel) (pa_cons (pe_split (pv 0) (pe_str)) pa_nil)) pa_nil)) (pg_name (i := 2) sc_found_at.nd rfl (Or.inl rfl)) (pss_one (ps_if (pt_val (pe_m1 PySem.F.slot_str_startswith PySem.F.type_str_startswith mt_startswith (pe_fn F_tail_of (hr.mono (by decide)) passL (pa_cons (pv 0) (pa_cons (pv 2) pa_nil))) (pv 1))) (pss_one (ps_ret (pv 2))) pss_nil)))
    (pss_one (ps_ret (pe_non)))), ?_⟩
    have hlen := isW_len hw
    walk_at "go"
    refine ⟨w, _, rfl, rfl, by decide +kernel, by rw [sizeLine_eq]; omega, fun p hp => ?_⟩
    walk_at "go"
    generalize hys : Txt.split w (Str.ofString " ") = ys
    have e := split_blank w
    rw [hys] at e
    have sq : Same H (upd H p (.lst (ys.map V.str))) := Same.new (Same.refl H) hp
    generalize (upd H p (.lst (ys.map V.str))) = G at sq ⊢
    have hn : ys.length = (tailsL (TL.tl w)).length := by rw [tails_len, ← e, List.length_map]
    have h4 : ys.length ≤ 4 := by
      have := wordL_spA hw
      rw [← e, List.length_map] at this
      exact this
    rw [List.length_map, hn]
    refine ⟨by omega, by omega, for_range (lo := 0) (n := Int.toNat ((tailsL (TL.tl w)).length : Int)) (fun j σ' H' => ∃ (v : Option V), σ' = [some (.str w), some (.str t), v] ∧ Same H H' ∧ ∀ i, i < j → ¬ ((tailsL (TL.tl w)).getD i []).take (TL.tl t).length = TL.tl t) ⟨none, rfl, sq, fun i hi => absurd hi (by omega)⟩ ?_ ?_⟩
    · rintro j σ' H' hj ⟨v, rfl, hs, hno⟩
      rw [Int.toNat_natCast] at hj
      rw [show (0 : Int) + (j : Int) = (j : Int) by omega]
      walk_at "go"
      refine ⟨w, j, rfl, hw, hj, fun s H2 hs2 T2 s2 => ?_⟩
      walk_at "go"
      refine ⟨_, _, rfl, rfl, ?_⟩
      rw [starts_is, hs2]
      walk_at "go"
      refine dT (fun h => ?_) (fun h => ?_)
      · walk_at "go"
        have : foundAt (TL.tl w) (TL.tl t) = some j := by
          unfold foundAt
          rw [List.find?_range_eq_some]
          exact ⟨by simpa using h, by simpa using hj, fun i hi => by simpa using hno i hi⟩
        have k := k H2 (hs.trans s2)
        rw [this] at k
        exact k
      · walk_at "go"
        refine ⟨_, rfl, hs.trans s2, fun i hi => ?_⟩
        by_cases c : i = j
        · subst c; exact h
        · exact hno i (by omega)
    · rintro σ' H' ⟨v, rfl, hs, hno⟩
      rw [Int.toNat_natCast] at hno
      walk_at "go"
      have : foundAt (TL.tl w) (TL.tl t) = none := by
        unfold foundAt
        rw [List.find?_eq_none]
        intro i hi
        simpa using hno i (List.mem_range.mp hi)
      have k := k H' hs
      rw [this] at k
      exact k
theorem ok_law_feed (T : Top K mg)  : Fn P w K mg base 1 "_law_feed" ["_law_script"] (spFeed K) := by
  refine T.d_law_feed.ok sc_law_feed bi_law_feed (fun vs H Q E h => ?_) (fun f cdv A outer s H vs Q E hr h => ?_)
  · obtain ⟨a, ns, rfl, hS, hl, k⟩ := h; rfl
  · obtain ⟨a, ns, rfl, hS, hl, k⟩ := h
    refine ⟨_, (pss_cons (ps_set (i := 1) sc_law_feed.nd rfl (Or.inl rfl) (pe_op op_cat (pe_slice sl_list (pv 0) po_none (po_some (pe_int))) (pe_lst (pa_cons (pe_int) pa_nil))))
    (pss_one (ps_ret (pe_lst (pa_cons (pv 1) (pa_cons (pe_int) (pa_cons (pe_op op_mul (pe_op op_fdiv (pe_ix ix_list (pv 1) (pe_int) (fun _ _ => rfl)) (pe_int)) (pe_op op_mod (pe_ix ix_list (pv 1) (pe_int) (fun _ _ => rfl)) (pe_int))) (pa_cons (pe_int) pa_nil)))))))), ?_⟩
    walk_at "go"
    intro q hq
    obtain ⟨ms, em, lm⟩ := cutV_ints ns none (some 63)
    rw [em]
    have s1 : Same H (upd H q (.lst (ms.map V.int))) := Same.new (Same.refl _) hq
    walk_at "go"
    refine ⟨sz (by simp), fun q2 hq2 => ?_⟩
    have c1 := keepN (u := .lst [.int 0]) (upd_same : upd H q (.lst (ms.map V.int)) q = _) hq2
    have s2 := Same.new (o := .lst [.int 0]) s1 hq2
    walk_at "go"
    refine ⟨q, q2, _, _, rfl, rfl, c1, upd_same, sz (by simp; omega), fun c hc => ?_⟩
    obtain ⟨n0, nr, en, hnr⟩ : ∃ (n0 : Int) (nr : List Int), (ms.map V.int ++ [V.int 0]) = .int n0 :: nr.map V.int ∧ nr.length ≤ 100 := by
      cases ms with
      | nil => exact ⟨0, [], rfl, by simp⟩
      | cons m ms => exact ⟨m, ms ++ [0], by simp, by simp at lm ⊢; omega⟩
    rw [en]
    have c3 : upd (upd (upd H q (.lst (ms.map V.int))) q2 (.lst [.int 0])) c (.lst (.int n0 :: nr.map V.int)) c = _ := upd_same
    have s3 := Same.new (o := .lst (.int n0 :: nr.map V.int)) s2 hc
    generalize upd (upd (upd H q (.lst (ms.map V.int))) q2 (.lst [.int 0])) c (.lst (.int n0 :: nr.map V.int)) = G at c3 s3 ⊢
    walk_at "go"
    refine s_ixL (SqL.of c3) (atI_nat (j := 0) rfl) ?_
    walk_at "go"
    refine s_ixL (SqL.of c3) (atI_nat (j := 0) rfl) ?_
    walk_at "go"
    refine ⟨sz (by simp), fun p hp => ?_⟩
    exact k p _ (Same.new s3 hp) (s3.free hp) ⟨c, n0, nr, _, _, _, upd_same, keepN c3 hp, by omega, by omega, by omega, by omega⟩
theorem ok_law_draw (T : Top K mg)  : Fn P w K mg base 1 "_law_draw" ["_law_feed_here", "_law_many"] spDraw := by
  refine T.d_law_draw.ok sc_law_draw bi_law_draw (fun vs H Q E h => ?_) (fun f cdv A outer s H vs Q E hr h => ?_)
  · obtain ⟨b, m, d, rfl, ⟨c, n0, nr, x1, x2, x3, hb, hc, hn, h1, h3, h4⟩, hd, hm, hl, k⟩ := h; rfl
  · obtain ⟨b, m, d, rfl, ⟨c, n0, nr, x1, x2, x3, hb, hc, hn, h1, h3, h4⟩, hd, hm, hl, k⟩ := h
    refine ⟨_, (pss_cons (ps_set (i := 2) sc_law_draw.nd rfl (Or.inl rfl) (pe_ix ix_list (pv 0) (pe_int) (fun _ _ => rfl)))
    (pss_cons (ps_asg (pe_op op_add (pe_ix ix_list (pv 0) (pe_int) (fun _ _ => rfl)) (pe_int)) (pg_sub (pv 0) (pe_int) set_list))
    (Evl.pss_cut (ps_while PassesOwn.never (PW.pt (pw_and (pt_cmpR op_eq (pe_op op_mod (pe_ix ix_list (pv 2) (pe_int) (fun _ _ => rfl)) (pe_int)) (pe_int) (nomark _)) (pw_and (pt_cmpR op_in_seq (pe_ix ix_list (pv 0) (pe_int) (fun _ _ => rfl)) (pe_tup (pa_cons (pe_int) (pa_cons (pe_un un_neg (pe_int)) pa_nil))) rfl) (pw_and1 (pt_cmpR op_lt (pe_op op_add (pe_ix ix_list (pv 0) (pe_int) (fun _ _ => rfl)) (pe_int)) (pe_callB call_len_seq rfl T.n_len (by decide +kernel) (pa_cons (pv 2) pa_nil)) (nomark _)))))) (pss_cons (ps_asg (pe_op op_add (pe_ix ix_list (pv 0) (pe_int) (fun _ _ => rfl)) (pe_int)) (pg_sub (pv 0) (pe_int) set_list))
    (pss_one (ps_asg (pe_ix ix_list (pv 2) (pe_ix ix_list (pv 0) (pe_int) (fun _ _ => rfl)) (fun _ _ => rfl)) (pg_sub (pv 0) (pe_int) set_list)))))
    (pss_cons (ps_if (pt_cmpR op_notIn_seq (pe_ix ix_list (pv 0) (pe_int) (fun _ _ => rfl)) (pe_tup (pa_cons (pe_int) (pa_cons (pe_un un_neg (pe_int)) pa_nil))) rfl) (pss_cons (ps_set (i := 3) sc_law_draw.nd rfl (Or.inl rfl) (pe_op op_mod (pe_ix ix_list (pv 0) (pe_int) (fun _ _ => rfl)) (pv 1)))
    (pss_cons (ps_asg (pe_op op_fdivW (pe_ix ix_list (pv 0) (pe_int) (fun _ _ => rfl)) (pv 1)) (pg_sub (pv 0) (pe_int) set_list))
    (pss_one (ps_ret (pv 3))))) pss_nil)
    (pss_cons (ps_set (i := 4) sc_law_draw.nd rfl (Or.inl rfl) (pe_ix ix_list (pv 0) (pe_int) (fun _ _ => rfl)))
    (pss_cons (ps_set (i := 5) sc_law_draw.nd rfl (Or.inl rfl) (pe_op op_mod (pe_op op_add (pe_op op_add (pe_op op_mul (pe_op op_mod (pe_ix ix_list (pv 2) (pe_op op_mod (pv 4) (pe_callB call_len_seq rfl T.n_len (by decide +kernel) (pa_cons (pv 2) pa_nil))) (fun _ _ => rfl)) (pe_op op_pow (pe_int) (pe_int))) (pe_int)) (pe_op op_mul (pe_op op_mul (pe_int) (pv 4)) (pv 4))) (pe_int)) (pe_int)))
    (pss_one (ps_ret (pe_op op_mod (pe_op op_mod (pe_op op_mod (pe_op op_mul (pe_op op_mod (pe_op op_add (pe_op op_mul (pv 5) (pe_int)) (pv 4)) (pe_int)) (pe_int)) (pe_int)) (pe_int)) (pv 1)))))))))), ?_⟩
    have hbc : c ≠ b := by
      rintro rfl
      rw [hb] at hc; simp at hc
    walk_at "go"
    have hb1 : upd H b (.lst [.ref c, .int x1, .int x2, .int (x3 + 1)]) b = _ := upd_same
    have f1 : But b H (upd H b (.lst [.ref c, .int x1, .int x2, .int (x3 + 1)])) := But.refl.upd
    show Evl.tCut _ _ _ _ (upd H b (.lst [.ref c, .int x1, .int x2, .int (x3 + 1)]))
    generalize upd H b (.lst [.ref c, .int x1, .int x2, .int (x3 + 1)]) = H1 at hb1 f1 ⊢
    refine u_cut (M := fun σ' H' => σ' = [some (.ref b), some (.int m), some (.ref c), none, none, none] ∧ But b H H' ∧ ∃ y1 y2, H' b = some (.lst [.ref c, .int y1, .int y2, .int (x3 + 1)]) ∧ 0 ≤ y1) ?_ ?_
    · refine w_while (fun j σ' H' => σ' = [some (.ref b), some (.int m), some (.ref c), none, none, none] ∧ But b H H' ∧ ∃ y1 y2, H' b = some (.lst [.ref c, .int y1, .int y2, .int (x3 + 1)]) ∧ 0 ≤ y1 ∧ j = (nr.length + 1 - y1).toNat) (nr.length + 1 - x1).toNat ⟨rfl, f1, x1, x2, hb1, h1, rfl⟩ ?_
      rintro j σ' H' ⟨rfl, f2, y1, y2, hb2, hy, hj⟩
      have hc2 := f2 _ _ hbc hc
      walk_at "go"
      refine s_ixL (SqL.of hc2) (atI_nat (j := 0) rfl) ?_
      walk_at "go"
      refine bT (fun g1 => ?_) (fun g1 => ?_)
      · walk_at "go"
        refine ⟨sz (by simp), fun p hp => ?_⟩
        have hb3 := keepN (u := .tup [.int 0, .int (-1)]) hb2 hp
        have hc3 := keepN (u := .tup [.int 0, .int (-1)]) hc2 hp
        have f3 := f2.new (o := .tup [.int 0, .int (-1)]) hp
        have hp3 : upd H' p (.tup [.int 0, .int (-1)]) p = _ := upd_same
        generalize upd H' p (.tup [.int 0, .int (-1)]) = H3 at hb3 hc3 f3 hp3 ⊢
        walk_at "go"
        refine ⟨rfl, rfl, ?_⟩
        walk_at "go"
        refine bT (fun g2 => ?_) (fun g2 => ?_)
        · walk_at "go"
          refine dT (fun g3 => ?_) (fun g3 => ?_)
          · refine w_turn ?_
            simp only [List.length_cons, List.length_map] at g3
            walk_at "go"
            obtain ⟨v, hv⟩ : ∃ v, nr[y1.toNat]? = some v := ⟨nr[y1.toNat]'(by omega), by simp⟩
            refine s_ixL (SqL.of (by rw [upd_ne hbc]; exact hc3)) (v := .int v) (by
              rw [show y1 + 1 = ((y1.toNat + 1 : Nat) : Int) by omega]
              exact atI_nat (by simp [hv])) ?_
            walk_at "go"
            exact ⟨_, by omega, rfl, (f3.upd).upd, _, _, upd_same, by omega, rfl⟩
          · walk_at "go"
            exact ⟨rfl, f3, _, _, hb3, hy⟩
        · walk_at "go"
          exact ⟨rfl, f3, _, _, hb3, hy⟩
      · walk_at "go"
        exact ⟨rfl, f2, _, _, hb2, hy⟩
    · rintro σ' H' ⟨rfl, f2, y1, y2, hb2, hy⟩
      have hc2 := f2 _ _ hbc hc
      walk_at "go"
      refine ⟨sz (by simp), fun p hp => ?_⟩
      have hb3 := keepN (u := .tup [.int 0, .int (-1)]) hb2 hp
      have hc3 := keepN (u := .tup [.int 0, .int (-1)]) hc2 hp
      have f3 := f2.new (o := .tup [.int 0, .int (-1)]) hp
      have hp3 : upd H' p (.tup [.int 0, .int (-1)]) p = _ := upd_same
      generalize upd H' p (.tup [.int 0, .int (-1)]) = H3 at hb3 hc3 f3 hp3 ⊢
      walk_at "go"
      refine ⟨rfl, rfl, ?_⟩
      walk_at "go"
      have hdv : CDivW y2 m := divW hm hl
      refine bT (fun g2 => ?_) (fun g2 => ?_)
      · walk_at "go"
        exact k _ _ (Int.emod_nonneg _ (by omega)) (Int.emod_lt_of_pos _ hm) ⟨c, n0, nr, _, _, _, upd_same, by rw [upd_ne hbc]; exact hc3, hn, hy, by omega, by omega⟩ f3.upd
      · walk_at "go"
        simp only [List.length_cons, List.length_map]
        refine s_iiC (by omega) ?_
        obtain ⟨v, hv, hvm⟩ := atI_get' (l := V.int n0 :: nr.map V.int) (i := (x3 + 1) % ((nr.length + 1 : Nat) : Int)) (Int.emod_nonneg _ (by omega)) (by
          simp only [List.length_cons, List.length_map]
          exact Int.emod_lt_of_pos _ (by omega))
        obtain ⟨v, rfl⟩ : ∃ i : Int, v = .int i := by
          rcases List.mem_cons.mp hvm with e | e
          · exact ⟨_, e⟩
          · obtain ⟨i, _, e⟩ := List.mem_map.mp e
            exact ⟨i, e.symm⟩
        walk_at "go"
        refine s_ixL (SqL.of hc3) hv ?_
        walk_at "go"
        exact k _ _ (Int.emod_nonneg _ (by omega)) (Int.emod_lt_of_pos _ hm) ⟨c, n0, nr, _, _, _, hb3, hc3, hn, hy, by omega, by omega⟩ f3
theorem ok_law_part (T : Top K mg) (F_law_draw : Fn P w K mg base 1 "_law_draw" ["_law_feed_here", "_law_many"] spDraw) : Fn P w K mg base 2 "_law_part" ["_law_feed_here", "_law_letters"] spPartF := by
  refine T.d_law_part.ok sc_law_part bi_law_part (fun vs H Q E h => ?_) (fun f cdv A outer s H vs Q E hr h => ?_)
  · obtain ⟨b, z, d, rfl, hb, hd, hz, k⟩ := h; rfl
  · obtain ⟨b, z, d, rfl, hb, hd, hz, k⟩ := h
    refine ⟨_, (pss_cons (ps_set (i := 2) sc_law_part.nd rfl (Or.inl rfl) (pe_ix ix_list (pe_lst (pa_cons (pe_int) (pa_cons (pe_int) (pa_cons (pe_int) (pa_cons (pe_int) (pa_cons (pe_int) (pa_cons (pe_int) pa_nil))))))) (pe_fn F_law_draw (hr.mono (by decide)) passL (pa_cons (pv 0) (pa_cons (pe_int) pa_nil))) (fun _ _ => rfl)))
    (pss_one (ps_ret (pe_join (pe_str) (pe_lc (own := [("_law_k", 3)]) (by rfl) sc_law_part.nd (pi_range1 rfl T.n_range (pa_cons (pv 2) pa_nil)) (blkOk_by (own := [("_law_k", 3)]) (N := ["_law_feed_here", "_law_letters", "_law_size", "_law_k"]) (sc := defScope s_law_part) (by decide +kernel)) (fun _ _ _ _ _ => (pg_name (i := 3) sc_law_part.nd rfl (Or.inl rfl))) (fun _ _ _ _ _ => pts_nil) (fun _ _ _ _ _ => (pe_ix ix_str (pv 1) (pe_fn F_law_draw (hr.mono (by decide)) passL (pa_cons (pv 0) (pa_cons (pe_int) pa_nil))) (fun _ _ => rfl)))))))), ?_⟩
    have hzl : z.length ≤ sizeLine := sz (by rw [TL.len_tl, hz.len]; omega)
    walk_at "go"
    refine ⟨sz (by simp), fun p hp => ?_⟩
    walk_at "go"
    refine use_draw (hb.new hp) (by omega) (by decide) (by decide) fun r1 H1 r10 r11 b1 s1 => ?_
    have hp1 := s1 _ _ (hb.ne hp).symm upd_same
    obtain ⟨n, hn, n0, n1⟩ : ∃ n : Int, atI [V.int 1, V.int 1, V.int 2, V.int 2, V.int 3, V.int 12] r1 = some (.int n) ∧ 1 ≤ n ∧ n ≤ 12 := by
      have : r1 = 0 ∨ r1 = 1 ∨ r1 = 2 ∨ r1 = 3 ∨ r1 = 4 ∨ r1 = 5 := by omega
      rcases this with rfl | rfl | rfl | rfl | rfl | rfl <;> exact ⟨_, rfl, by decide, by decide⟩
    refine s_ixL (SqL.of hp1) hn ?_
    have f1 : But b H H1 := (But.refl.new hp).trans s1
    walk_at "go"
    refine ⟨by omega, by omega, fun D hD => ?_⟩
    have nDb := (b1.ne hD).symm
    refine lc_range (lo := 0) (n := n.toNat) (fun j H5 => ∃ cs : List Nat, H5 D = some (.lst ((cs.map sgn).map V.str)) ∧ cs.length = j ∧ (∀ c ∈ cs, low c = true) ∧ FeedAt (d + 1 + j) H5 b ∧ But b H1 H5) ⟨[], upd_same, rfl, (fun _ h => nomatch h), by simpa using b1.new hD, But.refl.new hD⟩ ?_ ?_
    · rintro j H5 hj ⟨cs, e1, e2, e3, e4, e5⟩
      walk_at "go"
      refine ⟨rfl, ?_⟩
      walk_at "go"
      refine use_draw e4 (by omega) (by decide) (by decide) fun r H6 r0 r1 e6 e7 => ?_
      obtain ⟨c, hc, hcm⟩ := atI_get' (l := TL.tl z) r0 (by rw [hz.len]; exact r1)
      refine s_ixS hzl hc ?_
      have e8 := e7 _ _ nDb e1
      refine ⟨_, e8, by rw [List.length_map, List.length_map, sizeLine_eq]; omega, cs ++ [c], by rw [upd_same]; simp [sgn], by simp [e2], ?_, ?_, ?_⟩
      · intro x hx
        rcases List.mem_append.mp hx with hx | hx
        · exact e3 x hx
        · have : x = c := by simpa using hx
          subst this; exact hz.low _ hcm
      · have := e6.upd (o := .lst ((cs.map sgn).map V.str ++ [.str (sgn c)])) (ss := cs.map sgn) e8
        exact this.mono (by omega)
      · exact (e5.trans e7).mut hD
    · rintro H5 ⟨cs, e1, e2, e3, e4, e5⟩
      walk_at "go"
      have hjl : ((cs.map sgn).map (·.length)).sum ≤ (cs.map sgn).length * 1 := sum_len_le fun y hy => by
        obtain ⟨c, _, rfl⟩ := List.mem_map.mp hy
        exact Nat.le_refl _
      rw [List.length_map] at hjl
      refine ⟨_, D, cs.map sgn, rfl, rfl, .inl (SqL.of e1), by rw [TL.len_tl (Str.ofString ""), tl_empty]; simp only [List.length_nil, Nat.mul_zero]; omega, ?_⟩
      exact k _ _ (by rw [tl_join_nil]; exact partL_of e3 (by omega) (by omega)) (e4.mono (by omega)) (f1.trans e5)
theorem ok_law_is_fit (T : Top K mg)  : Fn P w K mg base 1 "_law_is_fit" ["_law_text"] spFit := by
  refine T.d_law_is_fit.ok sc_law_is_fit bi_law_is_fit (fun vs H Q E h => ?_) (fun f cdv A outer s H vs Q E hr h => ?_)
  · obtain ⟨s, rfl, hs, k⟩ := h; rfl
  · obtain ⟨s, rfl, hs, k⟩ := h
    refine ⟨_, (pss_cons (ps_set (i := 1) sc_law_is_fit.nd rfl (Or.inl rfl) (pe_split (pv 0) (pe_str)))
    (pss_one (ps_ret ((pe_and (pe_cmpR op_le (pe_callB call_len_str rfl T.n_len (by decide +kernel) (pa_cons (pv 0) pa_nil)) (pe_int) (nomark _)) (pe_and (pe_cmpR op_le (pe_callB call_len_seq rfl T.n_len (by decide +kernel) (pa_cons (pv 1) pa_nil)) (pe_int) (nomark _)) (pe_one (pe_cmpR op_le (pe_callB (cr_max rfl) rfl T.n_max (by decide +kernel) (pa_cons (pe_lc (own := [("_law_part_here", 2)]) (by rfl) sc_law_is_fit.nd (pi_list (pv 1)) (blkOk_by (own := [("_law_part_here", 2)]) (N := ["_law_text", "_law_parts", "_law_part_here"]) (sc := defScope s_law_is_fit) (by decide +kernel)) (fun _ _ _ _ _ => (pg_name (i := 2) sc_law_is_fit.nd rfl (Or.inl rfl))) (fun _ _ _ _ _ => pts_nil) (fun _ _ _ _ _ => (pe_callB call_len_str rfl T.n_len (by decide +kernel) (pa_cons (pv 2) pa_nil)))) pa_nil)) (pe_int) (nomark _))))))))), ?_⟩
    have hz : s.length ≤ sizeLine := sz hs
    walk_at "go"
    refine ⟨s, _, rfl, rfl, by decide +kernel, by rw [sizeLine_eq]; omega, fun p hp => ?_⟩
    walk_at "go"
    generalize hys : Txt.split s (Str.ofString " ") = ys
    have e := split_blank s
    rw [hys] at e
    have hL : (upd H p (.lst (ys.map V.str))) p = some (.lst (ys.map V.str)) := upd_same
    have sq : Same H (upd H p (.lst (ys.map V.str))) := Same.new (Same.refl H) hp
    generalize (upd H p (.lst (ys.map V.str))) = G at hL sq ⊢
    have hf : fitL (TL.tl s) = (decide (s.length ≤ 24) && (decide (ys.length ≤ 4) && ys.all fun y => decide (y.length ≤ 12))) := by
      unfold fitL
      rw [← e, List.length_map, List.all_map, TL.len_tl]
      congr 2
    have hmem : ∀ y ∈ ys, y.length ≤ sizeLine := fun y hy => by
      obtain ⟨a, b⟩ := split_mem (s := s) (by rw [hys]; exact hy)
      rw [← TL.len_tl, ← TL.len_tl] at a
      omega
    have hne : ys ≠ [] := by
      rintro rfl
      exact spA_ne _ _ e.symm
    refine ⟨s, rfl, hz, ?_⟩
    walk_at "go"
    rw [show decide ((s.length : Int) ≤ 24) = decide (s.length ≤ 24) from decide_eq_decide.mpr (by omega)]
    refine bT (fun h1 => ?_) (fun h1 => ?_)
    · rw [h1, Bool.true_and] at hf
      walk_at "go"
      rw [List.length_map, show decide ((ys.length : Int) ≤ 4) = decide (ys.length ≤ 4) from decide_eq_decide.mpr (by omega)]
      refine bT (fun h2 => ?_) (fun h2 => ?_)
      · rw [h2, Bool.true_and] at hf
        have h2' := of_decide_eq_true h2
        walk_at "go"
        refine ⟨⟨_, SqL.of hL⟩, fun D hD => ?_⟩
        refine lc_list (xs := ys.map V.str) (PvV (resM ys fun y => .int y.length) _ D) (lc_begin hD resM_0) (fun i H' _ p => p.1.seq (SqL.of hL)) ?_ ?_
        · intro i x H' hi pv
          obtain ⟨y, hy, rfl⟩ := map_get hi
          have hm := hmem y (List.mem_of_getElem? hy)
          walk_at "go"
          refine ⟨rfl, ?_⟩
          walk_at "go"
          refine ⟨y, rfl, hm, ?_⟩
          exact lc_put pv hD (Same.refl _) (resM_s hy) (resM_len (by omega))
        · intro H' pv
          rw [List.length_map] at pv
          have hF : H' D = some (.lst ((ys.map fun y => (y.length : Int)).map V.int)) := by rw [pv.2, resM_all rfl, List.map_map]; rfl
          walk_at "go"
          refine ⟨D, _, rfl, SqL.of hF, by
            rw [List.length_map]
            exact List.length_pos_iff.mpr hne, fun m hm hle => ?_⟩
          walk_at "go"
          have : decide (m ≤ 12) = ys.all fun y => decide (y.length ≤ 12) := by
            rw [Bool.eq_iff_iff, decide_eq_true_eq, List.all_eq_true]
            constructor
            · intro h y hy
              have := hle _ (List.mem_map.mpr ⟨y, hy, rfl⟩)
              rw [decide_eq_true_eq]; omega
            · intro h
              obtain ⟨y, hy, e2⟩ := List.mem_map.mp hm
              have := h y hy
              rw [decide_eq_true_eq] at this
              omega
          rw [this, ← hf]
          exact k _ (sq.trans pv.1)
      · rw [h2, Bool.false_and] at hf
        walk_at "go"
        rw [← hf]
        exact k _ sq
    · rw [h1, Bool.false_and] at hf
      walk_at "go"
      rw [← hf]
      exact k _ sq
theorem ok_law_word (T : Top K mg) (F_law_draw : Fn P w K mg base 1 "_law_draw" ["_law_feed_here", "_law_many"] spDraw) (F_law_is_fit : Fn P w K mg base 1 "_law_is_fit" ["_law_text"] spFit) (F_law_part : Fn P w K mg base 2 "_law_part" ["_law_feed_here", "_law_letters"] spPartF) : Fn P w K mg base 3 "_law_word" ["_law_feed_here", "_law_words_here", "_law_letters"] (spWordF K) := by
  refine T.d_law_word.ok sc_law_word bi_law_word (fun vs H Q E h => ?_) (fun f cdv A outer s H vs Q E hr h => ?_)
  · obtain ⟨b, a, ss, z, d, rfl, hb, hd, ha, hl, hw, hz, k⟩ := h; rfl
  · obtain ⟨b, a, ss, z, d, rfl, hb, hd, ha, hl, hw, hz, k⟩ := h
    refine ⟨_, (Evl.pss_cut (ps_if (PW.pt (pw_and (pt_cmpR op_gt (pe_callB call_len_seq rfl T.n_len (by decide +kernel) (pa_cons (pv 1) pa_nil)) (pe_int) (nomark _)) (pw_and1 (pt_cmpR op_eq (pe_fn F_law_draw (hr.mono (by decide)) passL (pa_cons (pv 0) (pa_cons (pe_int) pa_nil))) (pe_int) (nomark _))))) (pss_cons (ps_set (i := 3) sc_law_word.nd rfl (Or.inl rfl) (pe_ix ix_list (pe_lst (pa_cons (pe_ix ix_str (pv 2) (pe_int) (fun _ _ => rfl)) (pa_cons (pe_ix ix_str (pv 2) (pe_int) (fun _ _ => rfl)) (pa_cons (pe_op op_add_str (pe_str) (pe_ix ix_str (pv 2) (pe_int) (fun _ _ => rfl))) pa_nil)))) (pe_fn F_law_draw (hr.mono (by decide)) passL (pa_cons (pv 0) (pa_cons (pe_int) pa_nil))) (fun _ _ => rfl)))
    (pss_cons (ps_set (i := 4) sc_law_word.nd rfl (Or.inl rfl) (pe_op op_add_str (pe_ix ix_list (pv 1) (pe_fn F_law_draw (hr.mono (by decide)) passL (pa_cons (pv 0) (pa_cons (pe_callB call_len_seq rfl T.n_len (by decide +kernel) (pa_cons (pv 1) pa_nil)) pa_nil))) (fun _ _ => rfl)) (pv 3)))
    (pss_one (ps_if (pt_val (pe_fn F_law_is_fit (hr.mono (by decide)) passL (pa_cons (pv 4) pa_nil))) (pss_one (ps_ret (pv 4))) pss_nil)))) pss_nil)
    (pss_cons (ps_setLc (i := 5) (own := [("_law_k", 6)]) (by rfl) sc_law_word.nd rfl rfl (sw_true rfl rfl rfl (by decide +kernel)) (pi_range1 rfl T.n_range (pa_cons (pe_ix ix_list (pe_lst (pa_cons (pe_int) (pa_cons (pe_int) (pa_cons (pe_int) (pa_cons (pe_int) (pa_cons (pe_int) pa_nil)))))) (pe_fn F_law_draw (hr.mono (by decide)) passL (pa_cons (pv 0) (pa_cons (pe_int) pa_nil))) (fun _ _ => rfl)) pa_nil)) (blkOk_by (own := [("_law_k", 6)]) (N := ["_law_feed_here", "_law_words_here", "_law_letters", "_law_more", "_law_longer", "_law_parts", "_law_k"]) (sc := defScope s_law_word) (by decide +kernel)) (fun _ _ _ _ _ => (pg_name (i := 6) sc_law_word.nd rfl (Or.inl rfl))) (fun _ _ _ _ _ => pts_nil) (fun _ _ _ _ _ => (pe_fn F_law_part (hr.mono (by decide)) passL (pa_cons (pv 0) (pa_cons (pv 2) pa_nil)))))
    (Evl.pss_cut (ps_while PassesOwn.never (pt_cmpR op_gt (pe_callB call_len_str rfl T.n_len (by decide +kernel) (pa_cons (pe_join (pe_str) (pv 5)) pa_nil)) (pe_int) (nomark _)) (pss_one (ps_expr (pe_bm0 PySem.F.plainAttrs_list PySem.F.slot_list_pop PySem.F.type_list_pop mt_pop (pv 5)))))
    (pss_one (ps_ret (pe_join (pe_str) (pv 5))))))), ?_⟩
    have hzl : z.length ≤ sizeLine := sz (by rw [TL.len_tl, hz.len]; omega)
    have hab : a ≠ b := hb.nes ha
    walk_at "go"
    refine u_cut (M := fun σ' H' => ∃ v3 v4, σ' = [some (.ref b), some (.ref a), some (.str z), v3, v4, none, none] ∧ FeedAt (d + 10) H' b ∧ But b H H') ?_ ?_
    · walk_at "go"
      rw [List.length_map]
      refine dT (fun h0 => ?_) (fun h0 => ?_)
      · walk_at "go"
        refine use_draw hb (by omega) (by decide) (by decide) fun r1 H1 r10 r11 b1 s1 => ?_
        walk_at "go"
        refine bT (fun h1 => ?_) (fun h1 => ?_)
        · walk_at "go"
          obtain ⟨c0, c1, c2, c3, ez⟩ : ∃ c0 c1 c2 c3, TL.tl z = [c0, c1, c2, c3] := by
            have := hz.len
            match hh : TL.tl z, this with
            | [c0, c1, c2, c3], _ => exact ⟨_, _, _, _, rfl⟩
          have ez' : z.cps.toList = [c0, c1, c2, c3] := ez
          have lw : ∀ c ∈ [c0, c1, c2, c3], low c = true := by rw [← ez]; exact hz.low
          refine s_ixS (c := c0) hzl (by rw [ez']; rfl) ?_
          walk_at "go"
          refine s_ixS (c := c2) hzl (by rw [ez']; rfl) ?_
          walk_at "go"
          refine s_ixS (c := c0) hzl (by rw [ez']; rfl) ?_
          walk_at "go"
          refine ⟨_, _, rfl, rfl, sz (by
            show (Str.ofString " ").length + 1 ≤ 1000
            decide +kernel), ?_⟩
          walk_at "go"
          refine ⟨sz (by simp), fun p hp => ?_⟩
          walk_at "go"
          refine use_draw (b1.new hp) (by omega) (by decide) (by decide) fun r2 H2 r20 r21 b2 s2 => ?_
          have hp2 := s2 _ _ (b1.ne hp).symm upd_same
          obtain ⟨m, hm, c, hc, hcm⟩ : ∃ m : Str, atI [V.str ⟨#[c0]⟩, V.str ⟨#[c2]⟩, V.str (Str.ofString " " ++ ⟨#[c0]⟩)] r2 = some (.str m) ∧ ∃ c, low c = true ∧ (TL.tl m = [c] ∨ TL.tl m = [32, c]) := by
            have : r2 = 0 ∨ r2 = 1 ∨ r2 = 2 := by omega
            rcases this with rfl | rfl | rfl
            · exact ⟨_, rfl, c0, lw _ (by simp), .inl rfl⟩
            · exact ⟨_, rfl, c2, lw _ (by simp), .inl rfl⟩
            · exact ⟨_, rfl, c0, lw _ (by simp), .inr (by rw [TL.tl_append, tl_blank]; rfl)⟩
          refine s_ixL (SqL.of hp2) hm ?_
          have f2 : But b H H2 := (s1.new hp).trans s2
          have ha2 := f2 _ _ hab ha
          walk_at "go"
          rw [List.length_map]
          refine use_draw b2 (by omega) (by omega) (by omega) fun r3 H3 r30 r31 b3 s3 => ?_
          have ha3 := s3 _ _ hab ha2
          obtain ⟨j, rfl⟩ := Int.eq_ofNat_of_zero_le r30
          have hj : j < ss.length := by omega
          have hone : isW ss[j] = true := hw _ (List.getElem_mem hj)
          refine s_ixL (SqL.of ha3) (atI_nat (j := j) (v := .str ss[j]) (by simp [hj])) ?_
          generalize ss[j] = y at hone ⊢
          have hyl := isW_len hone
          have hml : m.length ≤ 2 := by
            rw [TL.len_tl]
            rcases hcm with e | e <;> rw [e] <;> simp
          walk_at "go"
          refine ⟨_, _, rfl, rfl, sz (by omega), ?_⟩
          walk_at "go"
          refine ⟨_, rfl, by rw [TL.len_tl, TL.tl_append, List.length_append, ← TL.len_tl, ← TL.len_tl]; omega, fun H4 s4 => ?_⟩
          refine ⟨_, rfl, ?_⟩
          have f4 : But b H H4 := (f2.trans s3).trans (But.of s4)
          have b4 := (b3.same s4).mono (k' := d + 10) (by omega)
          refine bT (fun hf => ?_) (fun hf => ?_)
          · walk_at "go"
            refine k _ H4 ?_ (b4.mono (by omega)) f4
            unfold isW
            rw [TL.tl_append] at hf ⊢
            rcases hcm with e | e
            · rw [e] at hf ⊢; exact longer_word hone hc hf
            · rw [e] at hf ⊢; exact longer_word2 hone hc hf
          · walk_at "go"
            exact ⟨_, _, rfl, b4, f4⟩
        · walk_at "go"
          exact ⟨_, _, rfl, b1.mono (by omega), s1⟩
      · walk_at "go"
        exact ⟨_, _, rfl, hb.mono (by omega), But.refl⟩
    · rintro σ' H1 ⟨v3, v4, rfl, b1, s1⟩
      walk_at "go"
      refine ⟨sz (by simp), fun p hp => ?_⟩
      walk_at "go"
      refine use_draw (b1.new hp) (by omega) (by decide) (by decide) fun r2 H2 r20 r21 b2 s2 => ?_
      have hp2 := s2 _ _ (b1.ne hp).symm upd_same
      obtain ⟨n, hn, n0, n1⟩ : ∃ n : Int, atI [V.int 1, V.int 1, V.int 2, V.int 3, V.int 4] r2 = some (.int n) ∧ 1 ≤ n ∧ n ≤ 4 := by
        have : r2 = 0 ∨ r2 = 1 ∨ r2 = 2 ∨ r2 = 3 ∨ r2 = 4 := by omega
        rcases this with rfl | rfl | rfl | rfl | rfl <;> exact ⟨_, rfl, by decide, by decide⟩
      refine s_ixL (SqL.of hp2) hn ?_
      have f2 : But b H H2 := (s1.new hp).trans s2
      walk_at "go"
      refine ⟨by omega, by omega, fun D hD => ?_⟩
      have nDb := (b2.ne hD).symm
      have hDH := But.free' f2 b2 hD
      refine lc_range (lo := 0) (n := n.toNat) (fun j H5 => ∃ ps : List Str, H5 D = some (.lst (ps.map V.str)) ∧ ps.length = j ∧ (∀ p ∈ ps, partL (TL.tl p) = true) ∧ FeedAt (d + 11 + 20 * j) H5 b ∧ But b H2 H5) ⟨[], upd_same, rfl, (fun _ h => nomatch h), (b2.new hD).mono (by omega), But.refl.new hD⟩ ?_ ?_
      · rintro j H5 hj ⟨ps, e1, e2, e3, e4, e5⟩
        walk_at "go"
        refine ⟨rfl, ?_⟩
        walk_at "go"
        refine ⟨b, z, _, rfl, e4, by omega, hz, fun s H6 hs e6 e7 => ?_⟩
        have e8 := e7 _ _ nDb e1
        refine ⟨_, e8, by rw [List.length_map, sizeLine_eq]; omega, ps ++ [s], by rw [upd_same]; simp, by simp [e2], ?_, ?_, ?_⟩
        · intro x hx
          rcases List.mem_append.mp hx with hx | hx
          · exact e3 x hx
          · have : x = s := by simpa using hx
            subst this; exact hs
        · have := e6.upd (o := .lst (ps.map V.str ++ [.str s])) (ss := ps) e8
          exact this.mono (by omega)
        · exact (e5.trans e7).mut hD
      · rintro H5 ⟨ps, e1, e2, e3, e4, e5⟩
        walk_at "go"
        have f5 := f2.trans e5
        have b5 : FeedAt (d + 100) H5 b := e4.mono (by omega)
        have jl : ∀ ps : List Str, ps.length ≤ 4 → (∀ p ∈ ps, partL (TL.tl p) = true) → (ps.map (·.length)).sum + ps.length * (Str.ofString " ").length ≤ 16777216 ∧ (Txt.join (Str.ofString " ") ps).length ≤ sizeLine := fun ps h4 hpl => by
          have hps : ∀ p ∈ ps, p.length ≤ 12 := fun p hp => by
            have := hpl p hp
            unfold partL at this
            simp only [Bool.and_eq_true, decide_eq_true_eq] at this
            rw [TL.len_tl]; exact this.1.2
          have hjl : (ps.map (·.length)).sum ≤ ps.length * 12 := sum_len_le hps
          have hj := PySem.StrLaws.join_length_le (Str.ofString " ") ps
          rw [← TL.join_eq, TL.len_tl (Str.ofString " "), tl_blank] at hj
          rw [TL.len_tl (Str.ofString " "), tl_blank]
          simp only [List.length_singleton] at hj ⊢
          exact ⟨by omega, sz (by omega)⟩
        refine u_cut (M := fun σ' H' => ∃ ps : List Str, ∃ v6, σ' = [some (.ref b), some (.ref a), some (.str z), v3, v4, some (.ref D), v6] ∧ H' D = some (.lst (ps.map V.str)) ∧ ps ≠ [] ∧ ps.length ≤ 4 ∧ (∀ p ∈ ps, partL (TL.tl p) = true) ∧ FeedAt (d + 100) H' b ∧ But b H H' ∧ (Txt.join (Str.ofString " ") ps).length ≤ 24) ?_ ?_
        · refine w_while (fun m σ' H' => ∃ ps : List Str, ∃ v6, σ' = [some (.ref b), some (.ref a), some (.str z), v3, v4, some (.ref D), v6] ∧ H' D = some (.lst (ps.map V.str)) ∧ ps ≠ [] ∧ ps.length ≤ 4 ∧ (∀ p ∈ ps, partL (TL.tl p) = true) ∧ FeedAt (d + 100) H' b ∧ But b H H' ∧ m = ps.length) ps.length ⟨ps, _, rfl, e1, (by rintro rfl; simp at e2; omega), by omega, e3, b5, f5, rfl⟩ ?_
          rintro m σ' H' ⟨qs, v6, rfl, g1, g2, g3, g4, g5, g6, g7⟩
          obtain ⟨j1, j2⟩ := jl qs g3 g4
          walk_at "go"
          refine ⟨_, D, qs, rfl, rfl, .inl (SqL.of g1), j1, ?_⟩
          walk_at "go"
          refine ⟨_, rfl, j2, ?_⟩
          walk_at "go"
          refine dT (fun h => ?_) (fun h => ?_)
          · refine w_turn ?_
            walk_at "go"
            have h2 : 2 ≤ qs.length := by
              match qs, g2, h with
              | [q], _, h =>
                exfalso
                have := g4 q (by simp)
                unfold partL at this
                simp only [Bool.and_eq_true, decide_eq_true_eq] at this
                rw [TL.len_tl, tl_join_blank] at h
                simp only [List.map_cons, List.map_nil, TL.joinL] at h
                omega
              | _ :: _ :: _, _, _ => simp
            obtain ⟨y, hy⟩ : ∃ y, (qs.map V.str)[(qs.map V.str).length - 1]? = some y := ⟨(qs.map V.str)[(qs.map V.str).length - 1]'(by rw [List.length_map]; omega), by simp⟩
            refine ⟨D, _, y, rfl, rfl, g1, hy, ?_⟩
            walk_at "go"
            refine ⟨_, ?_, qs.dropLast, _, rfl, by rw [upd_same, List.map_dropLast], ?_, by simp; omega, fun p hp => g4 p (List.dropLast_subset _ hp), g5.upd g1, g6.mut hDH, rfl⟩
            · rw [g7]; simp; omega
            · intro e
              have := congrArg List.length e
              simp at this; omega
          · walk_at "go"
            exact ⟨qs, _, rfl, g1, g2, g3, g4, g5, g6, by omega⟩
        · rintro σ' H' ⟨qs, v6, rfl, g1, g2, g3, g4, g5, g6, g7⟩
          obtain ⟨j1, j2⟩ := jl qs g3 g4
          walk_at "go"
          refine ⟨_, D, qs, rfl, rfl, .inl (SqL.of g1), j1, ?_⟩
          refine k _ H' ?_ g5 g6
          refine wordL_iff.mpr ⟨qs.map TL.tl, by simpa using g2, by simpa using g3, fun p hp => ?_, tl_join_blank qs, by rw [← TL.len_tl]; exact g7⟩
          obtain ⟨q, hq, rfl⟩ := List.mem_map.mp hp
          exact g4 q hq
theorem ok_law_words (T : Top K mg) (F_law_draw : Fn P w K mg base 1 "_law_draw" ["_law_feed_here", "_law_many"] spDraw) (F_law_word : Fn P w K mg base 3 "_law_word" ["_law_feed_here", "_law_words_here", "_law_letters"] (spWordF K)) : Fn P w K mg base 4 "_law_words" ["_law_feed_here", "_law_many"] (spWordsF K) := by
  refine T.d_law_words.ok sc_law_words bi_law_words (fun vs H Q E h => ?_) (fun f cdv A outer s H vs Q E hr h => ?_)
  · obtain ⟨b, m, d, rfl, hb, hd, h0, h1, k⟩ := h; rfl
  · obtain ⟨b, m, d, rfl, hb, hd, h0, h1, k⟩ := h
    refine ⟨_, (pss_cons (ps_set (i := 2) sc_law_words.nd rfl (Or.inl rfl) (pe_fn F_law_draw (hr.mono (by decide)) passL (pa_cons (pv 0) (pa_cons (pe_int) pa_nil))))
    (pss_cons (ps_set (i := 3) sc_law_words.nd rfl (Or.inl rfl) (pe_slice sl_str (pe_str) (po_some (pv 2)) (po_some (pe_op op_add (pv 2) (pe_int)))))
    (pss_cons (ps_set (i := 4) sc_law_words.nd rfl (Or.inl rfl) (pe_op op_add_str (pe_op op_add_str (pe_op op_add_str (pe_ix ix_str (pv 3) (pe_int) (fun _ _ => rfl)) (pe_ix ix_str (pv 3) (pe_int) (fun _ _ => rfl))) (pe_ix ix_str (pv 3) (pe_int) (fun _ _ => rfl))) (pe_ix ix_str (pv 3) (pe_int) (fun _ _ => rfl))))
    (pss_cons (ps_set (i := 5) sc_law_words.nd rfl (Or.inl rfl) (pe_lst pa_nil))
    (pss_cons (ps_for PassesOwn.never rfl (pi_range1 rfl T.n_range (pa_cons (pv 1) pa_nil)) (pg_name (i := 6) sc_law_words.nd rfl (Or.inl rfl)) (pss_cons (ps_set (i := 7) sc_law_words.nd rfl (Or.inl rfl) (pe_fn F_law_word (hr.mono (by decide)) passL (pa_cons (pv 0) (pa_cons (pv 5) (pa_cons (pv 4) pa_nil)))))
    (pss_one (ps_if (pt_cmpR op_notIn_seq (pv 7) (pv 5) rfl) (pss_one (ps_expr (pe_bm PySem.F.plainAttrs_list PySem.F.slot_list_insert PySem.F.type_list_insert mt_insert (pv 5) (pa_cons (pe_fn F_law_draw (hr.mono (by decide)) passL (pa_cons (pv 0) (pa_cons (pe_op op_add (pe_callB call_len_seq rfl T.n_len (by decide +kernel) (pa_cons (pv 5) pa_nil)) (pe_int)) pa_nil))) (pa_cons (pv 7) pa_nil))))) pss_nil))))
    (pss_one (ps_ret (pv 5)))))))), ?_⟩
    walk_at "go"
    refine use_draw hb (by omega) (by decide) (by decide) fun r H1 r0 r1 b1 s1 => ?_
    obtain ⟨i, rfl⟩ := Int.eq_ofNat_of_zero_le r0
    have el : (TL.tl (Str.ofString "zabcdefghijklmnopqrstuvwxyza")).length = 28 := by decide +kernel
    have lw : ∀ c ∈ TL.tl (Str.ofString "zabcdefghijklmnopqrstuvwxyza"), low c = true := by decide +kernel
    walk_at "go"
    refine s_slS (sz (by rw [TL.len_tl, el]; omega)) ?_
    rw [show ((i : Int) + 3) = ((i + 3 : Nat) : Int) by omega]
    have et := tl_cut_mid (z := Str.ofString "zabcdefghijklmnopqrstuvwxyza") (i := i) (j := i + 3) (by omega) (by rw [el]; omega)
    generalize cutS (Str.ofString "zabcdefghijklmnopqrstuvwxyza") (some (i : Int)) (some ((i + 3 : Nat) : Int)) = y at et ⊢
    have ly : (TL.tl y).length = 3 := by
      rw [et, List.length_take, List.length_drop, el]; omega
    have lwy : ∀ c ∈ TL.tl y, low c = true := fun c hc => by
      rw [et] at hc
      exact lw c (List.mem_of_mem_drop (List.mem_of_mem_take hc))
    obtain ⟨c0, c1, c2, ez⟩ : ∃ c0 c1 c2, TL.tl y = [c0, c1, c2] := by
      match hh : TL.tl y, ly with
      | [c0, c1, c2], _ => exact ⟨_, _, _, rfl⟩
    have hyl : y.length ≤ sizeLine := sz (by rw [TL.len_tl, ly]; omega)
    have ez' : y.cps.toList = [c0, c1, c2] := ez
    rw [ez] at lwy
    walk_at "go"
    refine s_ixS (c := c1) hyl (by rw [ez']; rfl) ?_
    walk_at "go"
    refine s_ixS (c := c1) hyl (by rw [ez']; rfl) ?_
    walk_at "go"
    refine ⟨_, _, rfl, rfl, sz (by simp [TL.len_tl, TL.tl]), ?_⟩
    walk_at "go"
    refine s_ixS (c := c2) hyl (by rw [ez']; rfl) ?_
    walk_at "go"
    refine ⟨_, _, rfl, rfl, sz (by simp [TL.len_tl, TL.tl_append, TL.tl]), ?_⟩
    walk_at "go"
    refine s_ixS (c := c0) hyl (by rw [ez']; rfl) ?_
    walk_at "go"
    refine ⟨_, _, rfl, rfl, sz (by simp [TL.len_tl, TL.tl_append, TL.tl]), ?_⟩
    have hz : L4 ((⟨#[c1]⟩ : Str) ++ ⟨#[c1]⟩ ++ ⟨#[c2]⟩ ++ ⟨#[c0]⟩) := by
      have e : TL.tl ((⟨#[c1]⟩ : Str) ++ ⟨#[c1]⟩ ++ ⟨#[c2]⟩ ++ ⟨#[c0]⟩) = [c1, c1, c2, c0] := by
        rw [TL.tl_append, TL.tl_append, TL.tl_append]; rfl
      refine ⟨by rw [e]; rfl, fun c hc => lwy c ?_⟩
      rw [e] at hc
      simp at hc ⊢
      omega
    generalize ((⟨#[c1]⟩ : Str) ++ ⟨#[c1]⟩ ++ ⟨#[c2]⟩ ++ ⟨#[c0]⟩) = z at hz ⊢
    walk_at "go"
    refine ⟨sz (by simp), fun q hq => ?_⟩
    have hqH := But.free' s1 b1 hq
    walk_at "go"
    refine ⟨by omega, by omega, for_range (lo := 0) (n := m.toNat) (fun j σ' H' => ∃ (v1 v2 : Option V) (ss : List Str), σ' = [some (.ref b), some (.int m), some (.int (i : Int)), some (.str y), some (.str z), some (.ref q), v1, v2] ∧ H' q = some (.lst (ss.map V.str)) ∧ ss.Nodup ∧ (0 < j → ss ≠ []) ∧ ss.length ≤ j ∧ (∀ s ∈ ss, isW s = true) ∧ FeedAt (d + 1 + 200 * j) H' b ∧ But b H H')
      ⟨none, none, [], rfl, upd_same, .nil, fun h => absurd h (by omega), by simp, (fun _ h => nomatch h), by simpa using b1.new hq, s1.new hq⟩ ?_ ?_⟩
    · rintro j σ' H' hj ⟨v1, v2, ss, rfl, hS, hnd, hne, hl, hw, bx, fr⟩
      walk_at "go"
      refine ⟨b, q, ss, z, _, rfl, bx, by omega, hS, by omega, hw, hz, fun s H2 hs b2 s2 => ?_⟩
      have nq := bx.nes hS
      have hS2 := s2 _ _ nq hS
      have fr2 := fr.trans s2
      walk_at "go"
      refine ⟨rfl, flat_strs ss, ?_⟩
      rw [inV_strs]
      walk_at "go"
      refine dF (fun hc => ?_) (fun hc => ?_)
      · walk_at "go"
        rw [List.length_map]
        refine use_draw b2 (by omega) (by omega) (by omega) fun at0 H3 a0 a1 b3 s3 => ?_
        have hS3 := s3 _ _ nq hS2
        have fr3 := fr2.trans s3
        walk_at "go"
        refine ⟨q, _, _, _, rfl, rfl, hS3, by rw [List.length_map, sizeLine_eq]; omega, a0, by omega, ?_⟩
        obtain ⟨a, rfl⟩ := Int.eq_ofNat_of_zero_le a0
        walk_at "go"
        refine ⟨_, _, ss.take a ++ s :: ss.drop a, rfl, by rw [upd_same]; simp, ?_, fun _ => by simp, ?_, ?_, (b3.upd hS3).mono (by omega), fr3.mut hqH⟩
        · have pm : (ss.take a ++ s :: ss.drop a).Perm (s :: ss) := by
            have := List.perm_middle (a := s) (l₁ := ss.take a) (l₂ := ss.drop a)
            rwa [List.take_append_drop] at this
          exact pm.nodup_iff.mpr (List.nodup_cons.mpr ⟨hc, hnd⟩)
        · simp; omega
        · intro x hx
          rcases List.mem_append.mp hx with hx | hx
          · exact hw _ (List.mem_of_mem_take hx)
          · rcases List.mem_cons.mp hx with rfl | hx
            · exact hs
            · exact hw _ (List.mem_of_mem_drop hx)
      · walk_at "go"
        exact ⟨_, _, ss, rfl, hS2, hnd, fun _ => (by rintro rfl; simp at hc), by omega, hw, b2.mono (by omega), fr2⟩
    · rintro σ' H' ⟨v1, v2, ss, rfl, hS, hnd, hne, hl, hw, bx, fr⟩
      walk_at "go"
      exact k q ss H' hS hqH hnd (hne (by omega)) (by omega) hw (bx.mono (by omega)) fr
theorem ok_law_beginning (T : Top K mg) (F_law_draw : Fn P w K mg base 1 "_law_draw" ["_law_feed_here", "_law_many"] spDraw) : Fn P w K mg base 2 "_law_beginning" ["_law_feed_here", "_law_words_here"] spBegF := by
  refine T.d_law_beginning.ok sc_law_beginning bi_law_beginning (fun vs H Q E h => ?_) (fun f cdv A outer s H vs Q E hr h => ?_)
  · obtain ⟨b, a, ss, d, rfl, hb, hd, ha, hab, hne, hl, hw, k⟩ := h; rfl
  · obtain ⟨b, a, ss, d, rfl, hb, hd, ha, hab, hne, hl, hw, k⟩ := h
    refine ⟨_, (pss_cons (ps_set (i := 2) sc_law_beginning.nd rfl (Or.inl rfl) (pe_ix ix_list (pv 1) (pe_fn F_law_draw (hr.mono (by decide)) passL (pa_cons (pv 0) (pa_cons (pe_callB call_len_seq rfl T.n_len (by decide +kernel) (pa_cons (pv 1) pa_nil)) pa_nil))) (fun _ _ => rfl)))
    (pss_cons (ps_set (i := 3) sc_law_beginning.nd rfl (Or.inl rfl) (pe_split (pv 2) (pe_str)))
    (pss_cons (ps_set (i := 4) sc_law_beginning.nd rfl (Or.inl rfl) (pe_join (pe_str) (pe_slice sl_list (pv 3) (po_some (pe_fn F_law_draw (hr.mono (by decide)) passL (pa_cons (pv 0) (pa_cons (pe_callB call_len_seq rfl T.n_len (by decide +kernel) (pa_cons (pv 3) pa_nil)) pa_nil)))) po_none)))
    (pss_cons (ps_set (i := 5) sc_law_beginning.nd rfl (Or.inl rfl) (pe_slice sl_str (pe_ix ix_list (pe_lst (pa_cons (pv 2) (pa_cons (pv 4) pa_nil))) (pe_fn F_law_draw (hr.mono (by decide)) passL (pa_cons (pv 0) (pa_cons (pe_int) pa_nil))) (fun _ _ => rfl)) po_none (po_some (pe_fn F_law_draw (hr.mono (by decide)) passL (pa_cons (pv 0) (pa_cons (pe_op op_add (pe_callB call_len_str rfl T.n_len (by decide +kernel) (pa_cons (pv 2) pa_nil)) (pe_int)) pa_nil))))))
    (pss_one (ps_ret (pe_slice sl_str (pe_op op_add_str (pv 5) (pe_ix ix_list (pe_lst (pa_cons (pe_str) (pa_cons (pe_str) (pa_cons (pe_str) (pa_cons (pe_str) (pa_cons (pe_str) (pa_cons (pe_str) pa_nil))))))) (pe_fn F_law_draw (hr.mono (by decide)) passL (pa_cons (pv 0) (pa_cons (pe_int) pa_nil))) (fun _ _ => rfl))) po_none (po_some (pe_int))))))))), ?_⟩
    have hpos : 0 < ss.length := List.length_pos_iff.mpr hne
    walk_at "go"
    rw [List.length_map]
    refine use_draw hb (by omega) (by omega) (by omega) fun r1 H1 r10 r11 b1 s1 => ?_
    have ha1 := s1 _ _ hab ha
    obtain ⟨j, rfl⟩ := Int.eq_ofNat_of_zero_le r10
    have hj : j < ss.length := by omega
    have hone : isW ss[j] = true := hw _ (List.getElem_mem hj)
    refine s_ixL (SqL.of ha1) (atI_nat (j := j) (v := .str ss[j]) (by simp [hj])) ?_
    generalize ss[j] = w at hone ⊢
    have T := Tx.word hone
    have hlen := isW_len hone
    walk_at "go"
    refine ⟨w, _, rfl, rfl, by decide +kernel, by rw [sizeLine_eq]; omega, fun p hp => ?_⟩
    walk_at "go"
    generalize hys : Txt.split w (Str.ofString " ") = ys
    have e := split_blank w
    rw [hys] at e
    have hL : (upd H1 p (.lst (ys.map V.str))) p = some (.lst (ys.map V.str)) := upd_same
    have b2 := b1.new (o := .lst (ys.map V.str)) hp
    have f2 := s1.new (o := .lst (ys.map V.str)) hp
    generalize (upd H1 p (.lst (ys.map V.str))) = G at b2 f2 hL ⊢
    have h4 : ys.length ≤ 4 := by
      have := wordL_spA hone
      rw [← e, List.length_map] at this
      exact this
    have hy0 : 0 < ys.length := by
      rw [List.length_pos_iff]
      rintro rfl
      exact spA_ne _ _ e.symm
    have hmem : ∀ y ∈ ys, Tx 24 y := fun y hy => by
      obtain ⟨a, b⟩ := split_mem (s := w) (by rw [hys]; exact hy)
      refine ⟨by rw [← TL.len_tl, ← TL.len_tl] at a; omega, strOk_iff.mpr fun c hc => strOk_iff.mp T.ok c (b c hc)⟩
    walk_at "go"
    rw [List.length_map]
    have npb : p ≠ b := b2.nes hL
    refine use_draw b2 (by omega) (by omega) (by omega) fun r2 H2 r20 r21 b3 s3 => ?_
    have hL2 := s3 _ _ npb hL
    have f3 := f2.trans s3
    walk_at "go"
    intro q hq
    rw [cutV_from _ r20, ← List.map_drop]
    have b4 := b3.new (o := .lst ((ys.drop r2.toNat).map V.str)) hq
    have f4 := f3.new (o := .lst ((ys.drop r2.toNat).map V.str)) hq
    have hq4 : (upd H2 q (.lst ((ys.drop r2.toNat).map V.str))) q = some (.lst ((ys.drop r2.toNat).map V.str)) := upd_same
    generalize (upd H2 q (.lst ((ys.drop r2.toNat).map V.str))) = G2 at b4 f4 hq4 ⊢
    have hmem2 : ∀ y ∈ ys.drop r2.toNat, Tx 24 y := fun y hy => hmem y (List.mem_of_mem_drop hy)
    have hj2 := Tx.join hmem2
    have hsum := sum_len_le (f := fun p : Str => p.length) (n := 24) (l := ys.drop r2.toNat) fun p hp => (hmem2 p hp).len
    have hdl : (ys.drop r2.toNat).length ≤ 4 := by rw [List.length_drop]; omega
    have Tj : Tx 200 (Txt.join (Str.ofString " ") (ys.drop r2.toNat)) := hj2.mono (by omega)
    walk_at "go"
    refine ⟨_, q, _, rfl, rfl, .inl (SqL.of hq4), by
      rw [TL.len_tl (Str.ofString " "), tl_blank]
      simp only [List.length_singleton]; omega, ?_⟩
    generalize Txt.join (Str.ofString " ") (ys.drop r2.toNat) = tj at Tj ⊢
    walk_at "go"
    refine ⟨sz (by simp), fun q2 hq2 => ?_⟩
    have b5 := b4.new (o := .lst [.str w, .str tj]) hq2
    have f5 := f4.new (o := .lst [.str w, .str tj]) hq2
    have n5 := (b4.ne hq2).symm
    have hq5 : upd G2 q2 (.lst [.str w, .str tj]) q2 = _ := upd_same
    generalize upd G2 q2 (.lst [.str w, .str tj]) = G3 at b5 f5 hq5 ⊢
    walk_at "go"
    refine use_draw b5 (by omega) (by omega) (by omega) fun r3 H3 r30 r31 b6 s6 => ?_
    have f6 := f5.trans s6
    obtain ⟨x, hx, Tx0⟩ : ∃ x : Str, atI [V.str w, V.str tj] r3 = some (.str x) ∧ Tx 200 x := by
      have : r3 = 0 ∨ r3 = 1 := by omega
      rcases this with rfl | rfl
      · exact ⟨_, rfl, T.mono (by decide)⟩
      · exact ⟨_, rfl, Tj⟩
    refine s_ixL (SqL.of (s6 _ _ n5 hq5)) hx ?_
    walk_at "go"
    refine ⟨w, rfl, sz (by omega), ?_⟩
    walk_at "go"
    refine use_draw b6 (by omega) (by omega) (by omega) fun r4 H4 r40 r41 b7 s7 => ?_
    have f7 := f6.trans s7
    walk_at "go"
    refine s_slS (sz (Nat.le_trans Tx0.len (by decide))) ?_
    have T2 : Tx 24 (cutS x none (some r4)) := ⟨by
      rw [TL.len_tl, tl_cut_to r40, List.length_take]; omega, (Tx0.cut none (some r4)).ok⟩
    generalize cutS x none (some r4) = y at T2 ⊢
    walk_at "go"
    refine ⟨sz (by simp), fun q3 hq3 => ?_⟩
    have b8 := b7.new (o := .lst [.str (Str.ofString ""), .str (Str.ofString ""), .str (Str.ofString ""), .str (Str.ofString "b"), .str (Str.ofString " "), .str (Str.ofString "a")]) hq3
    have n8 := (b7.ne hq3).symm
    walk_at "go"
    refine use_draw b8 (by omega) (by omega) (by omega) fun r5 H5 r50 r51 b9 s9 => ?_
    obtain ⟨z, hz, Tz⟩ : ∃ z : Str, atI [V.str (Str.ofString ""), V.str (Str.ofString ""), V.str (Str.ofString ""), V.str (Str.ofString "b"), V.str (Str.ofString " "), V.str (Str.ofString "a")] r5 = some (.str z) ∧ Tx 1 z := by
      have : r5 = 0 ∨ r5 = 1 ∨ r5 = 2 ∨ r5 = 3 ∨ r5 = 4 ∨ r5 = 5 := by omega
      rcases this with rfl | rfl | rfl | rfl | rfl | rfl <;> exact ⟨_, rfl, by decide +kernel, by decide +kernel⟩
    refine s_ixL (SqL.of (s9 _ _ n8 upd_same)) hz ?_
    have a2 := T2.app Tz
    refine ⟨_, _, rfl, rfl, sz (by have := T2.len; have := Tz.len; omega), ?_⟩
    walk_at "go"
    refine s_slS (sz (Nat.le_trans a2.len (by decide))) ?_
    refine k _ _ ⟨?_, (a2.cut none (some 24)).ok⟩ (b9.mono (by omega)) ((f7.new hq3).trans s9)
    rw [TL.len_tl, tl_cut_to (by decide), List.length_take]
    omega
theorem ok_law_tails (T : Top K mg)  : Fn P w K mg base 1 "_law_tails" ["_law_word_here"] spTails := by
  refine T.d_law_tails.ok sc_law_tails bi_law_tails (fun vs H Q E h => ?_) (fun f cdv A outer s H vs Q E hr h => ?_)
  · obtain ⟨w, rfl, hw, k⟩ := h; rfl
  · obtain ⟨w, rfl, hw, k⟩ := h
    refine ⟨_, (pss_cons (ps_set (i := 1) sc_law_tails.nd rfl (Or.inl rfl) (pe_lst (pa_cons (pv 0) pa_nil)))
    (pss_cons (ps_for PassesOwn.never rfl (pi_range1 rfl T.n_range (pa_cons (pe_callB call_len_str rfl T.n_len (by decide +kernel) (pa_cons (pv 0) pa_nil)) pa_nil)) (pg_name (i := 2) sc_law_tails.nd rfl (Or.inl rfl)) (pss_one (ps_if (pt_cmpR op_eq (pe_ix ix_str (pv 0) (pv 2) (fun _ _ => rfl)) (pe_str) (nomark _)) (pss_one (ps_expr (pe_bm PySem.F.plainAttrs_list PySem.F.slot_list_append PySem.F.type_list_append mt_append (pv 1) (pa_cons (pe_slice sl_str (pv 0) (po_some (pe_op op_add (pv 2) (pe_int))) po_none) pa_nil)))) pss_nil)))
    (pss_one (ps_ret (pv 1))))), ?_⟩
    have hlen := isW_len hw
    have hz : w.length ≤ sizeLine := sz (by omega)
    walk_at "go"
    refine ⟨sz (by simp), fun q hq => ?_⟩
    walk_at "go"
    refine ⟨w, rfl, hz, ?_⟩
    walk_at "go"
    refine ⟨by omega, by omega, for_range (lo := 0) (n := w.length) (fun j σ' H' => ∃ (v : Option V) (ts : List Str), σ' = [some (.str w), some (.ref q), v] ∧ H' q = some (.lst (ts.map V.str)) ∧ ts.length ≤ j + 1 ∧ ts.map TL.tl ++ tailsA ((TL.tl w).drop j) = tailsL (TL.tl w) ∧ Same H H') ⟨none, [w], rfl, upd_same, by simp, by simp [tailsL], Same.new (Same.refl _) hq⟩ ?_ ?_⟩
    · rintro j σ' H' hj ⟨v, ts, rfl, hT, hl, he, hs⟩
      have hj2 : j < (TL.tl w).length := by rw [← TL.len_tl]; exact hj
      rw [show (0 : Int) + (j : Int) = (j : Int) by omega]
      have hc : w.cps.toList[j]? = some ((TL.tl w)[j]) := by show (TL.tl w)[j]? = _; simp [hj2]
      rw [List.drop_eq_getElem_cons hj2] at he
      generalize (TL.tl w)[j] = c at hc he
      walk_at "go"
      refine s_ixS hz (atI_nat hc) ?_
      walk_at "go"
      rw [eq_blank]
      refine dT (fun h1 => ?_) (fun h1 => ?_)
      · walk_at "go"
        refine s_slS hz ?_
        walk_at "go"
        refine s_app hT (by rw [List.length_map, sizeLine_eq]; omega) ?_
        walk_at "go"
        refine ⟨_, ts ++ [cutS w (some ((j : Int) + 1)) none], rfl, by rw [upd_same]; simp, by simp; omega, ?_, Same.mut hs hq⟩
        rw [List.map_append, List.map_cons, List.map_nil, tl_cut_from (by omega), show ((j : Int) + 1).toNat = j + 1 by omega, List.append_assoc]
        rw [show tailsA (c :: (TL.tl w).drop (j + 1)) = (TL.tl w).drop (j + 1) :: tailsA ((TL.tl w).drop (j + 1)) by simp [tailsA, h1]] at he
        exact he
      · walk_at "go"
        refine ⟨_, ts, rfl, hT, by omega, ?_, hs⟩
        rw [show tailsA (c :: (TL.tl w).drop (j + 1)) = tailsA ((TL.tl w).drop (j + 1)) by simp [tailsA, h1]] at he
        exact he
    · rintro σ' H' ⟨v, ts, rfl, hT, hl, he, hs⟩
      rw [TL.len_tl, List.drop_length] at he
      simp only [tailsA, List.append_nil] at he
      walk_at "go"
      exact k q ts H' hT hq he hs
/-- law's: a list of at most 63 ints is handed in, True comes out -/
def spLaw (K : PySem.W.Frag) : Sp := fun vs H Q _ => ∃ (a : Addr) (ns : List Int), vs = [.ref a] ∧ SqL K H a (ns.map V.int) ∧ ns.length ≤ 63 ∧ ∀ H', Q (.bl true) H'
theorem okF_law {fa : Addr} {fd : FuncData} (T : Top K mg) (F : Fun K "law" "law" s_law fa fd) (F_law_beginning : Fn P w K mg base 2 "_law_beginning" ["_law_feed_here", "_law_words_here"] spBegF) (F_law_feed : Fn P w K mg base 1 "_law_feed" ["_law_script"] (spFeed K)) (F_law_tails : Fn P w K mg base 1 "_law_tails" ["_law_word_here"] spTails) (F_law_words : Fn P w K mg base 4 "_law_words" ["_law_feed_here", "_law_many"] (spWordsF K)) (F_found_at : Fn P w K mg base 2 "found_at" ["word", "beginning"] spFound) (F_tail_of : Fn P w K mg base 1 "tail_of" ["word", "place"] spTail) : FnOk P w K mg base (L2.CX P w) 5 fa fd ["_law_script"] (spLaw K) := by
  refine F.okX sc_law (fun vs H Q E h => ?_) (fun cdv A outer s H vs Q E hr h => ?_)
  · obtain ⟨a, ns, rfl, hS, hl, k⟩ := h; rfl
  · obtain ⟨a, ns, rfl, hS, hl, k⟩ := h
    refine ⟨_, PSs.nox ((pss_cons (ps_set (i := 1) sc_law.nd rfl (Or.inl rfl) (pe_fn F_law_feed (hr.mono (by decide)) passL (pa_cons (pv 0) pa_nil)))
    (pss_cons (ps_set (i := 2) sc_law.nd rfl (Or.inl rfl) (pe_fn F_law_words (hr.mono (by decide)) passL (pa_cons (pv 1) (pa_cons (pe_int) pa_nil))))
    (pss_cons (ps_for PassesOwn.never rfl (pi_list (pv 2)) (pg_name (i := 3) sc_law.nd rfl (Or.inl rfl)) (pss_cons (ps_set (i := 4) sc_law.nd rfl (Or.inr rfl) (pe_fn F_law_tails (hr.mono (by decide)) passL (pa_cons (pv 3) pa_nil)))
    (pss_cons (ps_for PassesOwn.never rfl (pi_range1 rfl T.n_range (pa_cons (pe_callB call_len_seq rfl T.n_len (by decide +kernel) (pa_cons (pv 4) pa_nil)) pa_nil)) (pg_name (i := 5) sc_law.nd rfl (Or.inl rfl)) (pss_cons (ps_set (i := 6) sc_law.nd rfl (Or.inl rfl) (pe_fn F_tail_of (hr.mono (by decide)) passL (pa_cons (pv 3) (pa_cons (pv 5) pa_nil))))
    (pss_one (ps_if (PW.pt (pw_or (pt_not (pt_val (pe_callB call_isi rfl T.n_isinstance (by decide +kernel) (pa_cons (pv 6) (pa_cons (pe_ty "str" rfl T.n_str (by decide +kernel)) pa_nil))))) (pw_or1 (pt_cmpR op_ne (pv 6) (pe_ix ix_list (pv 4) (pv 5) (fun _ _ => rfl)) (nomark _))))) (pss_one (ps_ret (pe_bl))) pss_nil))))
    (pss_one (ps_for PassesOwn.never rfl (pi_list (pe_lst (pa_cons (pe_str) (pa_cons (pe_fn F_law_beginning (hr.mono (by decide)) passL (pa_cons (pv 1) (pa_cons (pv 2) pa_nil))) (pa_cons (pe_fn F_law_beginning (hr.mono (by decide)) passL (pa_cons (pv 1) (pa_cons (pe_lst (pa_cons (pv 3) pa_nil)) pa_nil))) (pa_cons (pv 3) (pa_cons (pe_str) (pa_cons (pe_slice sl_str (pv 3) (po_some (pe_int)) po_none) pa_nil)))))))) (pg_name (i := 7) sc_law.nd rfl (Or.inr rfl)) (pss_cons (ps_setLc (i := 8) (own := [("_law_k", 5)]) (by rfl) sc_law.nd rfl rfl (sw_true rfl rfl rfl (by decide +kernel)) (pi_range1 rfl T.n_range (pa_cons (pe_callB call_len_seq rfl T.n_len (by decide +kernel) (pa_cons (pv 4) pa_nil)) pa_nil)) (blkOk_by (own := [("_law_k", 5)]) (N := ["_law_script", "_law_feed_here", "_law_words_here", "_law_word_here", "_law_tails_here", "_law_k", "_law_found", "_law_text", "_law_places"]) (sc := defScope s_law) (by decide +kernel)) (fun _ _ _ _ _ => (pg_name (i := 5) sc_law.nd rfl (Or.inl rfl))) (fun _ _ _ _ _ => (pts_one (pt_cmpR op_eq (pe_slice sl_str (pe_ix (ix_listK (K := K) rfl) (pv 4) (pv 5) (fun _ _ => rfl)) po_none (po_some (pe_callB call_len_str rfl T.n_len (by decide +kernel) (pa_cons (pv 7) pa_nil)))) (pv 7) (nomark _)))) (fun _ _ _ _ _ => (pv 5)))
    (pss_cons (ps_set (i := 6) sc_law.nd rfl (Or.inl rfl) (pe_fn F_found_at (hr.mono (by decide)) passL (pa_cons (pv 3) (pa_cons (pv 7) pa_nil))))
    (pss_one (ps_if (pt_cmpR (op_eqD hr.units) (pv 8) (pe_lst pa_nil) (nomark _)) (pss_one (ps_if (pt_cmpR op_notN (pv 6) (pe_non) (nomark _)) (pss_one (ps_ret (pe_bl))) pss_nil)) (pss_one (ps_if (PW.pt (pw_or (pt_not (pt_val (pe_callB call_isi rfl T.n_isinstance (by decide +kernel) (pa_cons (pv 6) (pa_cons (pe_ty "int" rfl T.n_int (by decide +kernel)) pa_nil))))) (pw_or (pt_val (pe_callB call_isi rfl T.n_isinstance (by decide +kernel) (pa_cons (pv 6) (pa_cons (pe_ty "bool" rfl T.n_bool (by decide +kernel)) pa_nil)))) (pw_or1 (pt_cmpR op_ne (pv 6) (pe_ix ix_list (pv 8) (pe_int) (fun _ _ => rfl)) (nomark _)))))) (pss_one (ps_ret (pe_bl))) pss_nil)))))))))))
    (pss_one (ps_ret (pe_bl))))))), ?_⟩
    walk_at "go"
    refine ⟨a, ns, rfl, hS, hl, fun b H1 _ _ b1 => ?_⟩
    walk_at "go"
    refine ⟨b, 6, _, rfl, b1, by decide, by decide, by decide, fun q ss H2 hq _ hnd hne hl6 hw b2 _ => ?_⟩
    walk_at "go"
    refine ⟨⟨_, SqL.of hq⟩, for_list (xs := ss.map V.str) (fun i σ' H' => ∃ (v3 v4 v5 v6 v7 v8 : Option V), σ' = [some (.ref a), some (.ref b), some (.ref q), v3, v4, v5, v6, v7, v8] ∧ H' q = some (.lst (ss.map V.str)) ∧ FeedAt (2000 + 100 * i) H' b) ⟨_, _, _, _, _, _, rfl, hq, b2.mono (by omega)⟩ (fun i σ' H' _ h => by obtain ⟨_, _, _, _, _, _, _, s, _⟩ := h; exact SqL.of s) ?_ ?_⟩
    · rintro i x σ' H3 hi ⟨v3, v4, v5, v6, v7, v8, rfl, hq3, b3⟩
      obtain ⟨w, hwi, rfl⟩ := map_get hi
      have hi2 : i < 6 := by
        have := (List.getElem?_eq_some_iff.mp hwi).1
        omega
      have hww : isW w = true := hw w (List.mem_of_getElem? hwi)
      have hlen := isW_len hww
      have hwz : w.length ≤ sizeLine := sz (by omega)
      have T := Tx.word hww
      walk_at "go"
      refine ⟨w, rfl, hww, fun t ts H4 ht hnt hts s4 => ?_⟩
      have hq4 := s4 _ _ hq3
      have b4 := b3.same s4
      have hn : ts.length = (tailsL (TL.tl w)).length := by rw [← hts, List.length_map]
      have hn25 : (tailsL (TL.tl w)).length ≤ 4 := by rw [tails_len]; exact wordL_spA hww
      walk_at "go"
      rw [List.length_map, hn]
      refine ⟨by omega, by omega, for_range (lo := 0) (n := Int.toNat ((tailsL (TL.tl w)).length : Int)) (fun j σ' H' => ∃ (v5 v6 : Option V), σ' = [some (.ref a), some (.ref b), some (.ref q), some (.str w), some (.ref t), v5, v6, v7, v8] ∧ Same H4 H') ⟨_, _, rfl, Same.refl _⟩ ?_ ?_⟩
      · rintro j σ' H5 hj ⟨v5, v6, rfl, s5⟩
        rw [Int.toNat_natCast] at hj
        rw [show (0 : Int) + (j : Int) = (j : Int) by omega]
        walk_at "go"
        refine ⟨w, j, rfl, hww, hj, fun s H6 hs2 T2 s6 => ?_⟩
        have ht6 := s6 _ _ (s5 _ _ ht)
        walk_at "go"
        obtain ⟨y, hy⟩ : ∃ y, ts[j]? = some y := ⟨ts[j]'(by omega), by simp [hn, hj]⟩
        have hys : y = s := tl_inj (by
          rw [hs2, ← hts, List.getD_eq_getElem?_getD, List.getElem?_map, hy]; rfl)
        subst hys
        refine s_ixL (SqL.of ht6) (atI_nat (v := .str y) (by rw [List.getElem?_map, hy]; rfl)) ?_
        walk_at "go"
        rw [decide_eq_true rfl]
        walk_at "go"
        exact ⟨_, _, rfl, s5.trans s6⟩
      · rintro σ' H5 ⟨v5, v6, rfl, s5⟩
        have hq5 := s5 _ _ hq4
        have ht5 := s5 _ _ ht
        have b5 := b4.same s5
        have nqb := b5.nes hq5
        have ntb := b5.nes ht5
        walk_at "go"
        refine ⟨b, q, ss, _, rfl, b5, by omega, hq5, nqb, hne, by omega, hw, fun x1 H6 T1 b6 s6 => ?_⟩
        have hq6 := s6 _ _ nqb hq5
        have ht6 := s6 _ _ ntb ht5
        walk_at "go"
        refine ⟨sz (by simp), fun p hp => ?_⟩
        have hp7 : (upd H6 p (.lst [.str w])) p = some (.lst (([w] : List Str).map V.str)) := upd_same
        have b7 := b6.new (o := .lst [.str w]) hp
        have hq7 := keepN (u := .lst [.str w]) hq6 hp
        have ht7 := keepN (u := .lst [.str w]) ht6 hp
        generalize upd H6 p (.lst [.str w]) = H7 at hp7 b7 hq7 ht7 ⊢
        walk_at "go"
        refine ⟨b, p, [w], _, rfl, b7, by omega, hp7, b7.nes hp7, by simp, by simp, by simpa using hww, fun x2 H8 T2 b8 s8 => ?_⟩
        have hq8 := s8 _ _ nqb hq7
        have ht8 := s8 _ _ ntb ht7
        walk_at "go"
        refine s_slS hwz ?_
        walk_at "go"
        refine ⟨sz (by simp), fun p2 hp2 => ?_⟩
        obtain ⟨tx, etx, htx⟩ : ∃ tx : List Str, [V.str "", V.str x1, V.str x2, V.str w, V.str " ", V.str (cutS w (some 1) none)] = tx.map V.str ∧ (∀ z ∈ tx, Tx 24 z) := ⟨["", x1, x2, w, " ", cutS w (some 1) none], rfl, fun z hz => by
          simp only [List.mem_cons, List.not_mem_nil, or_false] at hz
          rcases hz with rfl | rfl | rfl | rfl | rfl | rfl
          · exact ⟨by decide +kernel, by decide +kernel⟩
          · exact T1
          · exact T2
          · exact T
          · exact ⟨by decide +kernel, by decide +kernel⟩
          · exact T.cut _ _⟩
        rw [etx]
        have hp9 : (upd H8 p2 (.lst (tx.map V.str))) p2 = some (.lst (tx.map V.str)) := upd_same
        have b9 := b8.new (o := .lst (tx.map V.str)) hp2
        have hq9 := keepN (u := .lst (tx.map V.str)) hq8 hp2
        have ht9 := keepN (u := .lst (tx.map V.str)) ht8 hp2
        generalize upd H8 p2 (.lst (tx.map V.str)) = H9 at hp9 b9 hq9 ht9 ⊢
        walk_at "go"
        refine ⟨⟨_, SqL.of hp9⟩, for_list (xs := tx.map V.str) (fun i σ' H' => ∃ (v5 v6 v7 v8 : Option V), σ' = [some (.ref a), some (.ref b), some (.ref q), some (.str w), some (.ref t), v5, v6, v7, v8] ∧ Same H9 H') ⟨_, _, _, _, rfl, Same.refl _⟩ (fun i σ' H' _ h => by obtain ⟨_, _, _, _, _, s⟩ := h; exact SqL.of (s _ _ hp9)) ?_ ?_⟩
        · rintro i2 x σ' H10 hi2 ⟨v5, v6, v7, v8, rfl, s10⟩
          obtain ⟨z, hzi, rfl⟩ := map_get hi2
          have Tz := htx z (List.mem_of_getElem? hzi)
          have hzz : z.length ≤ sizeLine := sz (Nat.le_trans Tz.len (by decide))
          have ht10 := s10 _ _ ht9
          walk_at "go"
          rw [List.length_map, hn]
          refine ⟨by omega, by omega, fun D hD => ?_⟩
          refine lc_range (lo := 0) (n := Int.toNat ((tailsL (TL.tl w)).length : Int)) (PvV (resF (List.range (tailsL (TL.tl w)).length) (fun k => decide (((tailsL (TL.tl w)).getD k []).take (TL.tl z).length = TL.tl z)) fun k => .int k) _ D) (lc_begin hD resF_0) ?_ ?_
          · rintro j H11 hj pv
            rw [Int.toNat_natCast] at hj
            rw [show (0 : Int) + (j : Int) = (j : Int) by omega]
            have ht11 := pv.1 _ _ ht10
            obtain ⟨y, hy⟩ : ∃ y, ts[j]? = some y := ⟨ts[j]'(by omega), by simp [hn, hj]⟩
            have hyt : (tailsL (TL.tl w)).getD j [] = TL.tl y := by
              rw [← hts, List.getD_eq_getElem?_getD, List.getElem?_map, hy]; rfl
            have hrj : (List.range (tailsL (TL.tl w)).length)[j]? = some j := by simp [hj]
            have hyl : y.length ≤ sizeLine := by
              have h1 := suff_len (TL.tl w) j
              have h2 := tails_get (l := TL.tl w) (k := j) hj
              rw [List.getD_eq_getElem?_getD, h2] at hyt
              rw [TL.len_tl, ← hyt]
              rw [TL.len_tl] at hwz
              exact Nat.le_trans h1 hwz
            walk_at "go"
            refine ⟨rfl, ?_⟩
            walk_at "go"
            refine s_ixL (SqL.of ht11) (atI_nat (v := .str y) (by rw [List.getElem?_map, hy]; rfl)) ?_
            walk_at "go"
            refine ⟨z, rfl, hzz, ?_⟩
            walk_at "go"
            refine s_slS hyl ?_
            walk_at "go"
            have ed : decide (V.str (cutS y none (some (z.length : Int))) = V.str z) = decide (((tailsL (TL.tl w)).getD j []).take (TL.tl z).length = TL.tl z) := by
              rw [Bool.eq_iff_iff, decide_eq_true_eq, decide_eq_true_eq, hyt]
              have e3 := tl_cut_to (z := y) (n := (z.length : Int)) (by omega)
              rw [Int.toNat_natCast, TL.len_tl] at e3
              constructor
              · intro h
                injection h with h
                rw [← e3]
                rw [TL.len_tl] at h
                rw [h]
              · intro h
                rw [← e3] at h
                have := tl_inj h
                rw [TL.len_tl, this]
            rw [ed]
            refine bT (fun hc => ?_) (fun hc => ?_)
            · walk_at "go"
              exact lc_put pv hD (Same.refl _) (resF_y (p := fun k => decide (((tailsL (TL.tl w)).getD k []).take (TL.tl z).length = TL.tl z)) hrj hc) (resF_len (by simp; omega))
            · exact lc_skip pv (Same.refl _) (resF_n (p := fun k => decide (((tailsL (TL.tl w)).getD k []).take (TL.tl z).length = TL.tl z)) hrj hc)
          · intro H11 pv
            rw [Int.toNat_natCast] at pv
            have hD11 := pv.2
            rw [resF_all (by simp)] at hD11
            have s11 := s10.trans pv.1
            clear pv
            have hfa : ((List.range (tailsL (TL.tl w)).length).filter (fun k => decide (((tailsL (TL.tl w)).getD k []).take (TL.tl z).length = TL.tl z))).head? = foundAt (TL.tl w) (TL.tl z) := List.head?_filter
            generalize (List.range (tailsL (TL.tl w)).length).filter (fun k => decide (((tailsL (TL.tl w)).getD k []).take (TL.tl z).length = TL.tl z)) = is at hfa hD11
            walk_at "go"
            refine ⟨w, z, rfl, hww, fun H12 s12 => ?_⟩
            rw [← hfa]
            have hD12 := s12 _ _ hD11
            walk_at "go"
            refine ⟨sz (by simp), fun e he => ?_⟩
            have hD13 := keepN (u := .lst []) hD12 he
            have s13 := Same.new (o := .lst []) (s11.trans s12) he
            walk_at "go"
            refine s_eqD (d := .list (is.map fun k : Nat => PyData.int (k : Int))) (.lst (SqL.of hD13) (DpAll.of_map fun k _ => .int _)) (.lst (SqL.of upd_same) .nil) (shaped_of (n := 1) (by
              simp only [okD]
              exact okDs_map fun k _ => by simp [okD])) rfl ?_
            cases is with
            | nil =>
              rw [show PyData.eqv (.list (List.map (fun k : Nat => PyData.int (k : Int)) [])) (.list []) = true from rfl]
              walk_at "go"
              refine ⟨rfl, ?_⟩
              rw [show (!decide (optI ([] : List Nat).head? = V.non)) = false from rfl]
              walk_at "go"
              exact ⟨_, _, _, _, rfl, s13⟩
            | cons i0 ir =>
              rw [show PyData.eqv (.list (List.map (fun k : Nat => PyData.int (k : Int)) (i0 :: ir))) (.list []) = false from rfl]
              rw [show optI (i0 :: ir : List Nat).head? = V.int (i0 : Int) from rfl]
              walk_at "go"
              refine s_ixL (SqL.of hD13) (atI_nat (j := 0) rfl) ?_
              walk_at "go"
              rw [decide_eq_true rfl]
              walk_at "go"
              exact ⟨_, _, _, _, rfl, s13⟩
        · rintro σ' H10 ⟨v5, v6, v7, v8, rfl, s10⟩
          walk_at "go"
          exact ⟨_, _, _, _, _, _, rfl, s10 _ _ hq9, (b9.same s10).mono (by omega)⟩
    · rintro σ' H3 ⟨v3, v4, v5, v6, v7, v8, rfl, hq3, b3⟩
      walk_at "go"
      exact k _
end
theorem all_mk {l : PySem.W.OpenLaw} {w : World} {K : PySem.W.Frag} {h : Heap} {mg : Str → Option Value} {fa : Addr} (X : K.In h) (G : h.Ns mainGlobals mg) (hfa : mg "law" = some (.ref fa))
    {f_tail_of : Addr} {od_tail_of an_tail_of : Option Addr} {sl_tail_of : Array (Option Value)} {oc_tail_of kV_tail_of dc_tail_of pm_tail_of cd_tail_of ct_tail_of : Value} {f_found_at : Addr} {od_found_at an_found_at : Option Addr} {sl_found_at : Array (Option Value)} {oc_found_at kV_found_at dc_found_at pm_found_at cd_found_at ct_found_at : Value} {f_law_feed : Addr} {od_law_feed an_law_feed : Option Addr} {sl_law_feed : Array (Option Value)} {oc_law_feed kV_law_feed dc_law_feed pm_law_feed cd_law_feed ct_law_feed : Value} {f_law_draw : Addr} {od_law_draw an_law_draw : Option Addr} {sl_law_draw : Array (Option Value)} {oc_law_draw kV_law_draw dc_law_draw pm_law_draw cd_law_draw ct_law_draw : Value} {f_law_part : Addr} {od_law_part an_law_part : Option Addr} {sl_law_part : Array (Option Value)} {oc_law_part kV_law_part dc_law_part pm_law_part cd_law_part ct_law_part : Value} {f_law_is_fit : Addr} {od_law_is_fit an_law_is_fit : Option Addr} {sl_law_is_fit : Array (Option Value)} {oc_law_is_fit kV_law_is_fit dc_law_is_fit pm_law_is_fit cd_law_is_fit ct_law_is_fit : Value} {f_law_word : Addr} {od_law_word an_law_word : Option Addr} {sl_law_word : Array (Option Value)} {oc_law_word kV_law_word dc_law_word pm_law_word cd_law_word ct_law_word : Value} {f_law_words : Addr} {od_law_words an_law_words : Option Addr} {sl_law_words : Array (Option Value)} {oc_law_words kV_law_words dc_law_words pm_law_words cd_law_words ct_law_words : Value} {f_law_beginning : Addr} {od_law_beginning an_law_beginning : Option Addr} {sl_law_beginning : Array (Option Value)} {oc_law_beginning kV_law_beginning dc_law_beginning pm_law_beginning cd_law_beginning ct_law_beginning : Value} {f_law_tails : Addr} {od_law_tails an_law_tails : Option Addr} {sl_law_tails : Array (Option Value)} {oc_law_tails kV_law_tails dc_law_tails pm_law_tails cd_law_tails ct_law_tails : Value} {f_law : Addr} {od_law an_law : Option Addr} {sl_law : Array (Option Value)} {oc_law kV_law dc_law pm_law cd_law ct_law : Value}
    (a_tail_of : PySem.W.nsIn K mainGlobals "tail_of" = some (some (.ref f_tail_of)))
    (l_tail_of : K.lookup f_tail_of = some ⟨oc_tail_of, od_tail_of, .func (PySem.W.fnOf "tail_of" "tail_of" (defArgs s_tail_of) (defBody s_tail_of) (defScope s_tail_of) .none kV_tail_of dc_tail_of pm_tail_of an_tail_of cd_tail_of ct_tail_of), sl_tail_of⟩)
    (q_tail_of : PySem.W.codeIn K cd_tail_of "tail_of" = true)
    (k_tail_of : PySem.W.keepIn K (.ref f_tail_of) = true)
    (a_found_at : PySem.W.nsIn K mainGlobals "found_at" = some (some (.ref f_found_at)))
    (l_found_at : K.lookup f_found_at = some ⟨oc_found_at, od_found_at, .func (PySem.W.fnOf "found_at" "found_at" (defArgs s_found_at) (defBody s_found_at) (defScope s_found_at) .none kV_found_at dc_found_at pm_found_at an_found_at cd_found_at ct_found_at), sl_found_at⟩)
    (q_found_at : PySem.W.codeIn K cd_found_at "found_at" = true)
    (k_found_at : PySem.W.keepIn K (.ref f_found_at) = true)
    (a_law_feed : PySem.W.nsIn K mainGlobals "_law_feed" = some (some (.ref f_law_feed)))
    (l_law_feed : K.lookup f_law_feed = some ⟨oc_law_feed, od_law_feed, .func (PySem.W.fnOf "_law_feed" "_law_feed" (defArgs s_law_feed) (defBody s_law_feed) (defScope s_law_feed) .none kV_law_feed dc_law_feed pm_law_feed an_law_feed cd_law_feed ct_law_feed), sl_law_feed⟩)
    (q_law_feed : PySem.W.codeIn K cd_law_feed "_law_feed" = true)
    (k_law_feed : PySem.W.keepIn K (.ref f_law_feed) = true)
    (a_law_draw : PySem.W.nsIn K mainGlobals "_law_draw" = some (some (.ref f_law_draw)))
    (l_law_draw : K.lookup f_law_draw = some ⟨oc_law_draw, od_law_draw, .func (PySem.W.fnOf "_law_draw" "_law_draw" (defArgs s_law_draw) (defBody s_law_draw) (defScope s_law_draw) .none kV_law_draw dc_law_draw pm_law_draw an_law_draw cd_law_draw ct_law_draw), sl_law_draw⟩)
    (q_law_draw : PySem.W.codeIn K cd_law_draw "_law_draw" = true)
    (k_law_draw : PySem.W.keepIn K (.ref f_law_draw) = true)
    (a_law_part : PySem.W.nsIn K mainGlobals "_law_part" = some (some (.ref f_law_part)))
    (l_law_part : K.lookup f_law_part = some ⟨oc_law_part, od_law_part, .func (PySem.W.fnOf "_law_part" "_law_part" (defArgs s_law_part) (defBody s_law_part) (defScope s_law_part) .none kV_law_part dc_law_part pm_law_part an_law_part cd_law_part ct_law_part), sl_law_part⟩)
    (q_law_part : PySem.W.codeIn K cd_law_part "_law_part" = true)
    (k_law_part : PySem.W.keepIn K (.ref f_law_part) = true)
    (a_law_is_fit : PySem.W.nsIn K mainGlobals "_law_is_fit" = some (some (.ref f_law_is_fit)))
    (l_law_is_fit : K.lookup f_law_is_fit = some ⟨oc_law_is_fit, od_law_is_fit, .func (PySem.W.fnOf "_law_is_fit" "_law_is_fit" (defArgs s_law_is_fit) (defBody s_law_is_fit) (defScope s_law_is_fit) .none kV_law_is_fit dc_law_is_fit pm_law_is_fit an_law_is_fit cd_law_is_fit ct_law_is_fit), sl_law_is_fit⟩)
    (q_law_is_fit : PySem.W.codeIn K cd_law_is_fit "_law_is_fit" = true)
    (k_law_is_fit : PySem.W.keepIn K (.ref f_law_is_fit) = true)
    (a_law_word : PySem.W.nsIn K mainGlobals "_law_word" = some (some (.ref f_law_word)))
    (l_law_word : K.lookup f_law_word = some ⟨oc_law_word, od_law_word, .func (PySem.W.fnOf "_law_word" "_law_word" (defArgs s_law_word) (defBody s_law_word) (defScope s_law_word) .none kV_law_word dc_law_word pm_law_word an_law_word cd_law_word ct_law_word), sl_law_word⟩)
    (q_law_word : PySem.W.codeIn K cd_law_word "_law_word" = true)
    (k_law_word : PySem.W.keepIn K (.ref f_law_word) = true)
    (a_law_words : PySem.W.nsIn K mainGlobals "_law_words" = some (some (.ref f_law_words)))
    (l_law_words : K.lookup f_law_words = some ⟨oc_law_words, od_law_words, .func (PySem.W.fnOf "_law_words" "_law_words" (defArgs s_law_words) (defBody s_law_words) (defScope s_law_words) .none kV_law_words dc_law_words pm_law_words an_law_words cd_law_words ct_law_words), sl_law_words⟩)
    (q_law_words : PySem.W.codeIn K cd_law_words "_law_words" = true)
    (k_law_words : PySem.W.keepIn K (.ref f_law_words) = true)
    (a_law_beginning : PySem.W.nsIn K mainGlobals "_law_beginning" = some (some (.ref f_law_beginning)))
    (l_law_beginning : K.lookup f_law_beginning = some ⟨oc_law_beginning, od_law_beginning, .func (PySem.W.fnOf "_law_beginning" "_law_beginning" (defArgs s_law_beginning) (defBody s_law_beginning) (defScope s_law_beginning) .none kV_law_beginning dc_law_beginning pm_law_beginning an_law_beginning cd_law_beginning ct_law_beginning), sl_law_beginning⟩)
    (q_law_beginning : PySem.W.codeIn K cd_law_beginning "_law_beginning" = true)
    (k_law_beginning : PySem.W.keepIn K (.ref f_law_beginning) = true)
    (a_law_tails : PySem.W.nsIn K mainGlobals "_law_tails" = some (some (.ref f_law_tails)))
    (l_law_tails : K.lookup f_law_tails = some ⟨oc_law_tails, od_law_tails, .func (PySem.W.fnOf "_law_tails" "_law_tails" (defArgs s_law_tails) (defBody s_law_tails) (defScope s_law_tails) .none kV_law_tails dc_law_tails pm_law_tails an_law_tails cd_law_tails ct_law_tails), sl_law_tails⟩)
    (q_law_tails : PySem.W.codeIn K cd_law_tails "_law_tails" = true)
    (k_law_tails : PySem.W.keepIn K (.ref f_law_tails) = true)
    (a_law : PySem.W.nsIn K mainGlobals "law" = some (some (.ref f_law)))
    (l_law : K.lookup f_law = some ⟨oc_law, od_law, .func (PySem.W.fnOf "law" "law" (defArgs s_law) (defBody s_law) (defScope s_law) .none kV_law dc_law pm_law an_law cd_law ct_law), sl_law⟩)
    (q_law : PySem.W.codeIn K cd_law "law" = true)
    (k_law : PySem.W.keepIn K (.ref f_law) = true)
    (z_bool : PySem.W.nsIn K mainGlobals "bool" = some none)
    (z_int : PySem.W.nsIn K mainGlobals "int" = some none)
    (z_isinstance : PySem.W.nsIn K mainGlobals "isinstance" = some none)
    (z_len : PySem.W.nsIn K mainGlobals "len" = some none)
    (z_max : PySem.W.nsIn K mainGlobals "max" = some none)
    (z_range : PySem.W.nsIn K mainGlobals "range" = some none)
    (z_str : PySem.W.nsIn K mainGlobals "str" = some none) :
    ∃ fd : FuncData, (∀ (s : Shared) (v : Value), BindsTo s fd ⟨[v], []⟩ [("_law_script", v)]) ∧ ∀ base : Heap, K.In base → base.Ns mainGlobals mg → FnOk l.prog w K mg base (L2.CX l.prog w) 5 fa fd ["_law_script"] (spLaw K) := by
  have e := hfa.symm.trans (PySem.W.mg_of X G a_law)
  cases e
  have T : Top K mg := ⟨PySem.W.mg_none_of X G z_bool,
    PySem.W.mg_none_of X G z_int,
    PySem.W.mg_none_of X G z_isinstance,
    PySem.W.mg_none_of X G z_len,
    PySem.W.mg_none_of X G z_max,
    PySem.W.mg_none_of X G z_range,
    PySem.W.mg_none_of X G z_str,
    ⟨_, _, fun_mk (st := s_tail_of) l_tail_of q_tail_of k_tail_of, PySem.W.mg_of X G a_tail_of⟩,
    ⟨_, _, fun_mk (st := s_found_at) l_found_at q_found_at k_found_at, PySem.W.mg_of X G a_found_at⟩,
    ⟨_, _, fun_mk (st := s_law_feed) l_law_feed q_law_feed k_law_feed, PySem.W.mg_of X G a_law_feed⟩,
    ⟨_, _, fun_mk (st := s_law_draw) l_law_draw q_law_draw k_law_draw, PySem.W.mg_of X G a_law_draw⟩,
    ⟨_, _, fun_mk (st := s_law_part) l_law_part q_law_part k_law_part, PySem.W.mg_of X G a_law_part⟩,
    ⟨_, _, fun_mk (st := s_law_is_fit) l_law_is_fit q_law_is_fit k_law_is_fit, PySem.W.mg_of X G a_law_is_fit⟩,
    ⟨_, _, fun_mk (st := s_law_word) l_law_word q_law_word k_law_word, PySem.W.mg_of X G a_law_word⟩,
    ⟨_, _, fun_mk (st := s_law_words) l_law_words q_law_words k_law_words, PySem.W.mg_of X G a_law_words⟩,
    ⟨_, _, fun_mk (st := s_law_beginning) l_law_beginning q_law_beginning k_law_beginning, PySem.W.mg_of X G a_law_beginning⟩,
    ⟨_, _, fun_mk (st := s_law_tails) l_law_tails q_law_tails k_law_tails, PySem.W.mg_of X G a_law_tails⟩⟩
  have F_tail_of := fun (base : Heap) => ok_tail_of (P := l.prog) (w := w) (base := base) T 
  have F_found_at := fun (base : Heap) => ok_found_at (P := l.prog) (w := w) (base := base) T (F_tail_of base)
  have F_law_feed := fun (base : Heap) => ok_law_feed (P := l.prog) (w := w) (base := base) T 
  have F_law_draw := fun (base : Heap) => ok_law_draw (P := l.prog) (w := w) (base := base) T 
  have F_law_part := fun (base : Heap) => ok_law_part (P := l.prog) (w := w) (base := base) T (F_law_draw base)
  have F_law_is_fit := fun (base : Heap) => ok_law_is_fit (P := l.prog) (w := w) (base := base) T 
  have F_law_word := fun (base : Heap) => ok_law_word (P := l.prog) (w := w) (base := base) T (F_law_draw base) (F_law_is_fit base) (F_law_part base)
  have F_law_words := fun (base : Heap) => ok_law_words (P := l.prog) (w := w) (base := base) T (F_law_draw base) (F_law_word base)
  have F_law_beginning := fun (base : Heap) => ok_law_beginning (P := l.prog) (w := w) (base := base) T (F_law_draw base)
  have F_law_tails := fun (base : Heap) => ok_law_tails (P := l.prog) (w := w) (base := base) T 
  exact ⟨PySem.W.fnOf "law" "law" (defArgs s_law) (defBody s_law) (defScope s_law) .none kV_law dc_law pm_law an_law cd_law ct_law, fun s v => .of_eq rfl, fun base _ _ => okF_law (base := base) T (fun_mk (st := s_law) l_law q_law k_law) (F_law_beginning base) (F_law_feed base) (F_law_tails base) (F_law_words base) (F_found_at base) (F_tail_of base)⟩
theorem walk {l : PySem.W.OpenLaw} {q : Program} {loose : List Str} {XP : (Str → Option Value) → Heap → Prop} {YP : World → Heap → Prop} {d : DefRec} {K : Params → PySem.W.Frag} (hn : l.most = some 63) (hdf : d.params.defaults = [])
    (hY : ∀ (w : World) (h : Heap), YP w h → (K w.params).In h)
    (F : ∀ (w : World) (mg : Str → Option Value) (fa : Addr) (h : Heap), (K w.params).In h → h.Ns mainGlobals mg → mg d.name = some (.ref fa) →
      ∃ fd : FuncData, (∀ (s : Shared) (u : Value), BindsTo s fd ⟨[u], []⟩ [("_law_script", u)]) ∧ ∀ base : Heap, (K w.params).In base → base.Ns mainGlobals mg → FnOk l.prog w (K w.params) mg base (L2.CX l.prog w) 5 fa fd ["_law_script"] (spLaw (K w.params))) :
    PySem.W.WalkO q loose XP YP l.row.toRowW d [] (fun f vs => PySem.call f vs) :=
  L2.walk_of (n := 63) (k := 5) (x := "_law_script") (CX := fun w => L2.CX l.prog w) (sp := fun w => spLaw (K w.params)) hn (by decide) hdf ⟨rfl, by decide, by decide⟩ hY F (fun _ _ a ns hl _ hS => ⟨a, ns, rfl, hS, hl, fun _ => rfl⟩) fun _ _ _ _ _ z => by
    obtain ⟨_, _, _, _, _, _, _, _, _, _, _, _, z⟩ := z
    exact z
end Ah
open PySem PySem.W PyProof.Rows
set_option maxRecDepth 100000 in
set_option maxHeartbeats 0 in
theorem PySem.Challenge.cw_aheadword_k35_tails_and_places_holds : PySem.Challenge.rw_aheadword_k35_tails_and_places.Holds := by
  w_on; o_law; k_head; (case hw => w_witness2)
  k_fill
  refine Ah.walk (l := PySem.Challenge.rw_aheadword_k35_tails_and_places) rfl rfl (fun w h Y => PySem.W.kIn_of Y) ?F
  case F =>
    intro w mg fa h KX G hmg
    refine' Ah.all_mk KX G hmg ?a_tail_of ?l_tail_of ?q_tail_of ?k_tail_of ?a_found_at ?l_found_at ?q_found_at ?k_found_at ?a_law_feed ?l_law_feed ?q_law_feed ?k_law_feed ?a_law_draw ?l_law_draw ?q_law_draw ?k_law_draw ?a_law_part ?l_law_part ?q_law_part ?k_law_part ?a_law_is_fit ?l_law_is_fit ?q_law_is_fit ?k_law_is_fit ?a_law_word ?l_law_word ?q_law_word ?k_law_word ?a_law_words ?l_law_words ?q_law_words ?k_law_words ?a_law_beginning ?l_law_beginning ?q_law_beginning ?k_law_beginning ?a_law_tails ?l_law_tails ?q_law_tails ?k_law_tails ?a_law ?l_law ?q_law ?k_law ?z_bool ?z_int ?z_isinstance ?z_len ?z_max ?z_range ?z_str
    (case a_tail_of => k_is)
    (case l_tail_of => k_is)
    (case q_tail_of => k_is)
    (case k_tail_of => k_is)
    (case a_found_at => k_is)
    (case l_found_at => k_is)
    (case q_found_at => k_is)
    (case k_found_at => k_is)
    (case a_law_feed => k_is)
    (case l_law_feed => k_is)
    (case q_law_feed => k_is)
    (case k_law_feed => k_is)
    (case a_law_draw => k_is)
    (case l_law_draw => k_is)
    (case q_law_draw => k_is)
    (case k_law_draw => k_is)
    (case a_law_part => k_is)
    (case l_law_part => k_is)
    (case q_law_part => k_is)
    (case k_law_part => k_is)
    (case a_law_is_fit => k_is)
    (case l_law_is_fit => k_is)
    (case q_law_is_fit => k_is)
    (case k_law_is_fit => k_is)
    (case a_law_word => k_is)
    (case l_law_word => k_is)
    (case q_law_word => k_is)
    (case k_law_word => k_is)
    (case a_law_words => k_is)
    (case l_law_words => k_is)
    (case q_law_words => k_is)
    (case k_law_words => k_is)
    (case a_law_beginning => k_is)
    (case l_law_beginning => k_is)
    (case q_law_beginning => k_is)
    (case k_law_beginning => k_is)
    (case a_law_tails => k_is)
    (case l_law_tails => k_is)
    (case q_law_tails => k_is)
    (case k_law_tails => k_is)
    (case a_law => k_is)
    (case l_law => k_is)
    (case q_law => k_is)
    (case k_law => k_is)
    (case z_bool => k_is)
    (case z_int => k_is)
    (case z_isinstance => k_is)
    (case z_len => k_is)
    (case z_max => k_is)
    (case z_range => k_is)
    (case z_str => k_is)
