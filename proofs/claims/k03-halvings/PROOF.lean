import PyProof.Rows.All
import Wide.All
import OpenK.AllK
import Wide.FinOn
import HandS.ForMost
import HandS.ForExc
import HandS.IsInst
import HandS.Wide
import HandS.Flow
import HandS.Evl
import PySem.Challenge.RW_aheadword_k03_halvings
set_option Elab.async false
set_option linter.all false
set_option maxRecDepth 100000
set_option maxHeartbeats 4000000
set_option Elab.async false
set_option linter.all false
set_option maxRecDepth 100000
set_option maxHeartbeats 4000000
/-! Ah: words of my own over the layer: a def at its name, boxes of draws, what changes and what stays. -/
namespace Ah
open PySem PySem.Spec PyProof.Rows L2

/-- the def x stands behind the top, as the text st says -/
structure DefAt (K : PySem.W.Frag) (mg : Str → Option Value) (x : Str) (st : Stmt) : Prop where
  ex : ∃ (f : Addr) (fd : FuncData), Fun K x x st f fd ∧ mg x = some (.ref f)
/-- the def x keeps the promise sp, by at most k calls one in another -/
structure Fn (P : Program) (w : World) (K : PySem.W.Frag) (mg : Str → Option Value) (base : Heap) (k : Nat) (x : Str) (ps : List Str) (sp : Sp) : Prop where
  ex : ∃ (f : Addr) (fd : FuncData), FnOk P w K mg base (L2.CX P w) k f fd ps sp ∧ mg x = some (.ref f) ∧ PySem.W.keepIn K (.ref f) = true ∧ Binds K fd ps []
section
variable {P : Program} {w : World} {K : PySem.W.Frag} {mg : Str → Option Value} {base : Heap} {j k : Nat} {x : Str} {ps : List Str} {sp sp' : Sp} {st : Stmt} {N : List Str}
theorem Fn.mono (F : Fn P w K mg base j x ps sp) (h : j ≤ k) : Fn P w K mg base k x ps sp := by
  obtain ⟨f, fd, a, b⟩ := F.ex
  exact ⟨f, fd, a.mono h, b⟩
theorem Fn.imp (F : Fn P w K mg base k x ps sp) (h : ∀ vs H Q E, sp' vs H Q E → sp vs H Q E) : Fn P w K mg base k x ps sp' := by
  obtain ⟨f, fd, a, b⟩ := F.ex
  exact ⟨f, fd, a.imp h, b⟩
/-- how arguments bind, as a premise on the text alone -/
abbrev BindOk (x : Str) (st : Stmt) (ps : List Str) : Prop := ∀ (kV doc pm : Value) (an : Option Addr) (cdv ct : Value) (us : List Value), us.length = ps.length → bindArgs (PySem.W.fnOf x x (defArgs st) (defBody st) (defScope st) .none kV doc pm an cdv ct) ⟨us, []⟩ = pure (ps.zip us)
/-- a def that raises nothing -/
theorem DefAt.ok (D : DefAt K mg x st) (S : FnScope N ps (defScope st)) (B : BindOk x st ps) (len : ∀ vs H Q E, sp vs H Q E → vs.length = ps.length)
    (hbody : ∀ (f : Addr) (cdv : Value) (A : Around) (outer : List Env) (s : Shared) (H : Hp) (vs : List V) (Q : VK) (E : XK), Room k (A.deeper (envOfC x (defScope st) s.heap.objs.size f cdv)) → sp vs H Q E →
      ∃ t, PSs (cxOf (L2.CX P w) P w K mg base N x (defScope st) f cdv A outer s H E).nox (defBody st) t ∧ t { nx := fun _ H' => Q .non H', rt := Q } (start N vs) H) : Fn P w K mg base (k + 1) x ps sp := by
  obtain ⟨f, fd, F, m⟩ := D.ex
  refine ⟨f, fd, F.okX S len fun cdv A outer s H vs Q E hr h => ?_, m, F.kp, F.binds B⟩
  obtain ⟨t, h1, h2⟩ := hbody f cdv A outer s H vs Q E hr h
  exact ⟨t, h1.nox, h2⟩
/-- a def that may raise -/
theorem DefAt.okX (D : DefAt K mg x st) (S : FnScope N ps (defScope st)) (B : BindOk x st ps) (len : ∀ vs H Q E, sp vs H Q E → vs.length = ps.length)
    (hbody : ∀ (f : Addr) (cdv : Value) (A : Around) (outer : List Env) (s : Shared) (H : Hp) (vs : List V) (Q : VK) (E : XK), Room k (A.deeper (envOfC x (defScope st) s.heap.objs.size f cdv)) → sp vs H Q E →
      ∃ t, PSs (cxOf (L2.CX P w) P w K mg base N x (defScope st) f cdv A outer s H E) (defBody st) t ∧ t { nx := fun _ H' => Q .non H', rt := Q } (start N vs) H) : Fn P w K mg base (k + 1) x ps sp := by
  obtain ⟨f, fd, F, m⟩ := D.ex
  exact ⟨f, fd, F.okX S len fun cdv A outer s H vs Q E hr h => hbody f cdv A outer s H vs Q E hr h, m, F.kp, F.binds B⟩
end
section
variable {X : Cx} {k : Nat} {ps : List Str} {sp : Sp} {E : XK} {x : Str} {p pos : Pos} {e : Expr} {es : List Expr} {t : TA}
theorem pe_fn (F : Fn X.prog X.w X.K X.mg X.base k x ps sp) (hr : Room k X.A) (hx : Passes (L2.CX X.prog X.w) X E) (ha : PA X (e :: es) t) (hg : Gl X x := by rfl)
    (hdb : (x == ("__debug__" : Str)) = false := by decide) (he : starEach (e :: es) X.env = (false, eval e X.env) :: starEach es X.env := by rfl) (hpl : (backTo pos (starEach es X.env)).any (·.1) = false := by rfl) :
    PE X (.Call (.Name x p) (e :: es) [] pos) (tCall sp [] E t) := by
  obtain ⟨f, fd, a, m, kp, b⟩ := F.ex
  exact pe_call a hr hg m kp b .nil hx ha hdb he hpl
end

/-! ### what stays -/
/-- all but the object at b stays -/
def But (b : Addr) (H H' : Hp) : Prop := ∀ a o, a ≠ b → H a = some o → H' a = some o
theorem But.refl {b : Addr} {H : Hp} : But b H H := fun _ _ _ h => h
theorem But.trans {b : Addr} {H H1 H2 : Hp} (x : But b H H1) (y : But b H1 H2) : But b H H2 := fun a o n h => y a o n (x a o n h)
theorem But.upd {b : Addr} {H H1 : Hp} {o : HO} (x : But b H H1) : But b H (upd H1 b o) := fun a u n h => by rw [upd_ne n]; exact x a u n h
theorem But.new {b p : Addr} {H H1 : Hp} {o : HO} (x : But b H H1) (h : H1 p = none) : But b H (L2.upd H1 p o) := fun a u n e => by
  have := x a u n e
  rw [upd_ne (ne_of_none this h)]; exact this
theorem Same.new {p : Addr} {H H1 : Hp} {o : HO} (x : Same H H1) (h : H1 p = none) : Same H (upd H1 p o) := fun a u e => by
  have := x a u e
  rw [upd_ne (ne_of_none this h)]; exact this
theorem But.of {b : Addr} {H H1 : Hp} (x : Same H H1) : But b H H1 := fun a o _ h => x a o h
theorem But.free {b p : Addr} {H H1 : Hp} {o : HO} (x : But b H H1) (hb : H1 b = some o) (h : H1 p = none) : H p = none := by
  cases e : H p with
  | none => rfl
  | some u => rw [x p u (by rintro rfl; rw [hb] at h; cases h) e] at h; cases h
theorem But.sql {K : PySem.W.Frag} {b a : Addr} {H H1 : Hp} {xs : List V} (x : But b H H1) (n : a ≠ b) (h : SqL K H a xs) : SqL K H1 a xs := by
  rcases h with (h | ⟨o, h⟩) | h
  · exact .inl (.inl (x _ _ n h))
  · exact .inl (.inr ⟨o, x _ _ n h⟩)
  · exact .inr h

/-! ### boxes of draws -/
/-- a box stands at b: four numbers, whichever -/
def BoxAt (H : Hp) (b : Addr) : Prop := ∃ x0 x1 x2 x3 : Int, H b = some (.lst [.int x0, .int x1, .int x2, .int x3])
theorem BoxAt.keep {H H' : Hp} {b c : Addr} (h : BoxAt H b) (x : But c H H') (n : b ≠ c) : BoxAt H' b := by
  obtain ⟨x0, x1, x2, x3, e⟩ := h
  exact ⟨x0, x1, x2, x3, x _ _ n e⟩
theorem BoxAt.new {H : Hp} {b p : Addr} {o : HO} (h : BoxAt H b) (n : H p = none) : BoxAt (upd H p o) b := by
  obtain ⟨x0, x1, x2, x3, e⟩ := h
  exact ⟨x0, x1, x2, x3, by rw [upd_ne (ne_of_none e n)]; exact e⟩
theorem BoxAt.ne {H : Hp} {b p : Addr} (h : BoxAt H b) (n : H p = none) : b ≠ p := by
  obtain ⟨x0, x1, x2, x3, e⟩ := h
  exact ne_of_none e n
/-- a draw: the box's numbers change, the answer lies below the number asked -/
def spTake : Sp := fun vs H Q _ => ∃ (b : Addr) (m : Int), vs = [.ref b, .int m] ∧ BoxAt H b ∧ 0 < m ∧ m < 18446744073709551616 ∧
  ∀ (r : Int) (H' : Hp), 0 ≤ r → r < m → BoxAt H' b → But b H H' → Q (.int r) H'
theorem use_take {H : Hp} {Q : VK} {E : XK} {b : Addr} {m : Int} (hb : BoxAt H b) (hm : 0 < m) (hl : m < 18446744073709551616)
    (k : ∀ (r : Int) (H' : Hp), 0 ≤ r → r < m → BoxAt H' b → But b H H' → Q (.int r) H') : spTake [.ref b, .int m] H Q E := ⟨b, m, rfl, hb, hm, hl, k⟩

/-! ### steps of a reading -/
theorem dT {p : Prop} [Decidable p] {A B : Prop} (h1 : p → A) (h2 : ¬ p → B) : if decide p = true then A else B := by
  by_cases h : p
  · rw [if_pos (decide_eq_true h)]; exact h1 h
  · rw [if_neg (by rw [decide_eq_false h]; decide)]; exact h2 h
theorem dF {p : Prop} [Decidable p] {A B : Prop} (h1 : ¬ p → A) (h2 : p → B) : if (!decide p) = true then A else B := by
  by_cases h : p
  · rw [decide_eq_true h]; exact iteF (h2 h)
  · rw [decide_eq_false h]; exact iteT (h1 h)
theorem bT {c : Bool} {A B : Prop} (h1 : c = true → A) (h2 : c = false → B) : if c = true then A else B := by
  cases c with
  | true => exact iteT (h1 rfl)
  | false => exact iteF (h2 rfl)
/-! ### the readings' steps, as lemmas -/
section
variable {K : PySem.W.Frag} {H : Hp} {Q : VK} {σ : L2.St} {p : Addr} {xs : List V} {i j : Int} {v x y : V}
theorem s_var {n : Nat} (h : σ[n]? = some (some v)) (q : Q v H) : tVar n σ H Q := ⟨v, h, q⟩
theorem s_ii {g : Int → Int → V} (q : Q (g i j) H) : rI0 g (.int i) (.int j) H Q := ⟨i, j, rfl, rfl, q⟩
theorem s_iiC {C : Int → Int → Prop} {g : Int → Int → V} (c : C i j) (q : Q (g i j) H) : rI C g (.int i) (.int j) H Q := ⟨i, j, rfl, rfl, c, q⟩
theorem s_un {g : Int → V} (q : Q (g i) H) : rU g (.int i) H Q := ⟨i, rfl, q⟩
theorem s_eq (h : scal x y = true) (q : Q (.bl (decide (x = y))) H) : rEq x y H Q := ⟨h, q⟩
theorem s_ne (h : scal x y = true) (q : Q (.bl (!decide (x = y))) H) : rNe x y H Q := ⟨h, q⟩
theorem s_ixL (h : SqL K H p xs) (a : atI xs i = some v) (q : Q v H) : rIxL K (.ref p) (.int i) H Q := ⟨p, xs, i, v, rfl, rfl, h, a, q⟩
theorem s_ixT (h : SqT K H p xs) (a : atI xs i = some v) (q : Q v H) : rIxT K (.ref p) (.int i) H Q := ⟨p, xs, i, v, rfl, rfl, h, a, q⟩
theorem s_setL {q : Hp → Prop} {n : Nat} (h : H p = some (.lst xs)) (a : ixN xs.length i = some n) (k : q (upd H p (.lst (xs.set n v)))) : rSetL (.ref p) (.int i) v H q := ⟨p, xs, i, n, rfl, rfl, h, a, k⟩
theorem s_bl {b : Bool} {q : Bool → Hp → Prop} (k : q b H) : ∃ c, V.bl b = .bl c ∧ q c H := ⟨b, rfl, k⟩
end
/-! ### the combinators opened, one at a time -/
section
variable {K : PySem.W.Frag} {H : Hp} {Q : VK} {σ : L2.St} {D : Ends} {t u : TS} {te ta tb tc : TE} {tt tu : TT} {g : TG} {r r' : R2} {v : V} {T : TA}
theorem u_seq (q : t { D with nx := u D } σ H) : tSeq t u D σ H := q
theorem u_asg (q : te σ H fun x H1 => g x σ H1 D.nx) : tAsg te g D σ H := q
theorem u_drop (q : te σ H fun _ H1 => D.nx σ H1) : tDrop te D σ H := q
theorem u_ret (q : te σ H D.rt) : tRet te D σ H := q
theorem u_retN (q : D.rt .non H) : tRetN D σ H := q
theorem u_next (q : D.nx σ H) : tNext D σ H := q
theorem u_brk (q : D.bk σ H) : tBreak D σ H := q
theorem u_cont (q : D.ct σ H) : tCont D σ H := q
theorem u_ifS (q : tt σ H fun b H1 => if b = true then t D σ H1 else u D σ H1) : tIfS tt t u D σ H := q
theorem u_op (q : ta σ H fun x H1 => tb σ H1 fun y H2 => r x y H2 Q) : tOp r ta tb σ H Q := q
theorem u_un {r : V → Hp → VK → Prop} (q : ta σ H fun x H1 => r x H1 Q) : tUn r ta σ H Q := q
theorem u_c (q : Q v H) : tC v σ H Q := q
theorem u_and {q : Bool → Hp → Prop} (k : tt σ H fun c H1 => if c = true then tu σ H1 q else q false H1) : tAnd tt tu σ H q := k
theorem u_or {q : Bool → Hp → Prop} (k : tt σ H fun c H1 => if c = true then q true H1 else tu σ H1 q) : tOr tt tu σ H q := k
theorem u_not {q : Bool → Hp → Prop} (k : tt σ H fun c H1 => q (!c) H1) : tNot tt σ H q := k
theorem u_andV (q : ta σ H fun x H1 => ∃ c, x = .bl c ∧ if c = true then tb σ H1 Q else Q (.bl false) H1) : tAndV ta tb σ H Q := q
theorem u_orV (q : ta σ H fun x H1 => ∃ c, x = .bl c ∧ if c = true then Q (.bl true) H1 else tb σ H1 Q) : tOrV ta tb σ H Q := q
theorem u_notV (q : ta σ H fun x H1 => ∃ c, x = .bl c ∧ Q (.bl (!c)) H1) : tNotV ta σ H Q := q
theorem u_if (q : tt σ H fun c H1 => if c = true then ta σ H1 Q else tb σ H1 Q) : tIf tt ta tb σ H Q := q
theorem u_test {q : Bool → Hp → Prop} (k : te σ H fun x H' => ∃ k, x = .bl k ∧ q k H') : tTest te σ H q := k
theorem u_B {q : Bool → Hp → Prop} (k : te σ H fun x H1 => ∃ c, x = .bl c ∧ q c H1) : tB te σ H q := k
theorem u_chain (q : ta σ H fun x H1 => tb σ H1 fun y H2 => r x y H2 fun z H3 => ∃ k, z = .bl k ∧ (if k = true then tc σ H3 fun w' H4 => r' y w' H4 Q else Q (.bl false) H3)) : tChain r r' ta tb tc σ H Q := q
theorem u_name {i : Nat} {q : L2.St → Hp → Prop} (k : q (σ.set i (some v)) H) : gName i v σ H q := k
theorem u_sub {s : TSet} {q : L2.St → Hp → Prop} (k : ta σ H fun o H1 => tb σ H1 fun i H2 => s o i v H2 fun H3 => q σ H3) : gSub ta tb s v σ H q := k
theorem u_nil {q : List V → Hp → Prop} (k : q [] H) : tNil σ H q := k
theorem u_cons {q : List V → Hp → Prop} (k : ta σ H fun x H1 => T σ H1 fun xs H2 => q (x :: xs) H2) : tCons ta T σ H q := k
theorem u_call {sp : Sp} {E : XK} (k : T σ H fun vs H1 => sp vs H1 Q E) : tCall sp [] E T σ H Q := by
  show T σ H fun vs H1 => sp (vs ++ []) H1 Q E
  simpa only [List.append_nil] using k
theorem u_CB {f : List V → Hp → VK → Prop} (k : T σ H fun vs H1 => f vs H1 Q) : tCB f T σ H Q := k
theorem u_tup (k : T σ H fun xs H1 => xs.length ≤ sizeLine ∧ ∀ p, H1 p = none → Q (.ref p) (upd H1 p (.tup xs))) : tTup T σ H Q := k
theorem u_lst (k : T σ H fun xs H1 => xs.length ≤ sizeLine ∧ ∀ p, H1 p = none → Q (.ref p) (upd H1 p (.lst xs))) : tLst T σ H Q := k
theorem u_cut {M : L2.St → Hp → Prop} (h : t { D with nx := M } σ H) (k : ∀ σ' H', M σ' H' → u D σ' H') : Evl.tCut t u D σ H := ⟨M, h, k⟩
end

theorem divW {i m : Int} (hm : 0 < m) (hl : m < 18446744073709551616) : CDivW i m := wide_div (b := 64) hm (by
  have e : (2 : Nat) ^ 64 = 18446744073709551616 := by decide
  rw [e]; omega) (by decide) (by decide)
theorem sz {n : Nat} (h : n ≤ 1000) : n ≤ sizeLine := Nat.le_trans h (by decide)
theorem sz16 {n : Nat} (h : n ≤ 16777216) : n ≤ sizeLine := Nat.le_trans h (by rw [sizeLine_eq]; decide)
theorem But.same {b : Addr} {H H1 H2 : Hp} (x : But b H1 H2) (s : Same H H1) (n : H b = none) : Same H H2 := fun a o e => x a o (ne_of_none e n) (s a o e)

/-! ### loops -/
section
variable {K : PySem.W.Frag} {H : Hp} {Q : VK} {σ : L2.St} {D : Ends} {c : TT} {tb : TS} {v : V} {a : Addr} {xs : List V}
theorem w_while (W : Nat → L2.St → Hp → Prop) (m : Nat) (h0 : W m σ H)
    (hs : ∀ m σ H, W m σ H → c σ H fun b H1 => if b = true then ∃ N : L2.St → Hp → Prop, (∀ σ' H', N σ' H' → ∃ m', m' < m ∧ W m' σ' H') ∧ tb { D with nx := N, ct := N, bk := D.nx } σ H1 else D.nx σ H1) : tWhile c tb D σ H := ⟨W, ⟨m, h0⟩, hs⟩
theorem w_turn {W : Nat → L2.St → Hp → Prop} {m : Nat} (k : tb { D with nx := fun σ' H' => ∃ m', m' < m ∧ W m' σ' H', ct := fun σ' H' => ∃ m', m' < m ∧ W m' σ' H', bk := D.nx } σ H) :
    ∃ N : L2.St → Hp → Prop, (∀ σ' H', N σ' H' → ∃ m', m' < m ∧ W m' σ' H') ∧ tb { D with nx := N, ct := N, bk := D.nx } σ H := ⟨_, fun _ _ n => n, k⟩
theorem u_for {wi : TI} {g : TG} (k : wi σ H fun J H1 => ∃ W : Nat → Nat → L2.St → Hp → Prop, (∃ m, W 0 m σ H1) ∧ ∀ i m σ H, W i m σ H →
      (J.stop i H ∧ D.nx σ H) ∨ (J.go i H ∧ ∃ N : L2.St → Hp → Prop, (∀ σ' H', N σ' H' → ∃ m', m' < m ∧ W (i + 1) m' σ' H') ∧ ∀ x H', J.yld i H x H' → g x σ H' fun σ2 H2 => tb { D with nx := N, ct := N, bk := D.nx } σ2 H2)) : tFor wi g tb D σ H := k
theorem u_iList {tl : TE} {R : It → Hp → Prop} (k : tl σ H fun x H1 => ∃ a, x = .ref a ∧ (∃ xs, SqL K H1 a xs) ∧ R (Itl K a) H1) : iList K tl σ H R := k
theorem u_iTup {tl : TE} {R : It → Hp → Prop} (k : tl σ H fun x H1 => ∃ a, x = .ref a ∧ (∃ xs, SqT K H1 a xs) ∧ R (Itt K a) H1) : iTup K tl σ H R := k
theorem u_iRng1 {ta : TA} {R : It → Hp → Prop} (k : ta σ H fun vs H1 => ∃ j : Int, vs = [.int j] ∧ -(2 ^ 62) ≤ j ∧ j < 2 ^ 62 ∧ R (Itr 0 j.toNat) H1) : iRng1 ta σ H R := k
theorem u_iRng2 {ta : TA} {R : It → Hp → Prop} (k : ta σ H fun vs H1 => ∃ i j : Int, vs = [.int i, .int j] ∧ (-(2 ^ 62) ≤ i ∧ i < 2 ^ 62 ∧ -(2 ^ 62) ≤ j ∧ j < 2 ^ 62) ∧ R (Itr i (j - i).toNat) H1) : iRng2 ta σ H R := k
theorem u_gcons {t : TG} {u : TGs} {r : List V} {q : L2.St → Hp → Prop} (k : t v σ H fun σ' H' => u r σ' H' q) : gCons t u (v :: r) σ H q := ⟨v, r, rfl, k⟩
theorem u_gnil {q : L2.St → Hp → Prop} (k : q σ H) : gNil [] σ H q := ⟨rfl, k⟩
theorem s_gtup {n : Nat} {t : TGs} {q : L2.St → Hp → Prop} (h : SqT K H a xs) (l : xs.length = n) (k : t xs σ H q) : gTup K n t (.ref a) σ H q := ⟨a, xs, rfl, h, l, k⟩
theorem s_isi {x : V} {t T : String} {b : Bool} (ty : TyX K H x (.type t)) (k : kitB t T = some b) (q : Q (.bl b) H) : rIsi K [x, .ty T] H Q := ⟨x, .ty T, .type t, .type T, b, rfl, .ty T, ty, kit_ty k, q⟩
end

/-! ### a law's first helpers -/
/-- a cell of the script: some number -/
def spCell (K : PySem.W.Frag) : Sp := fun vs H Q _ => ∃ (a : Addr) (ns : List Int) (i : Int), vs = [.ref a, .int i] ∧ SqL K H a (ns.map V.int) ∧ 0 ≤ i ∧ ∀ r : Int, Q (.int r) H
/-- a new box -/
def spBox : Sp := fun vs H Q _ => ∃ c : Int, vs = [.int c] ∧ ∀ (p : Addr) (H' : Hp), H p = none → Same H H' → BoxAt H' p → Q (.ref p) H'

theorem pow2_pos (k : Nat) : (0 : Int) < 2 ^ k := by
  induction k with
  | zero => decide
  | succ k ih => rw [Int.pow_succ]; omega
theorem pow2_mono {a b : Nat} (h : a ≤ b) : (2 : Int) ^ a ≤ 2 ^ b := by
  induction b with
  | zero => have : a = 0 := by omega
            subst this; exact Int.le_refl _
  | succ b ih =>
    by_cases e : a = b + 1
    · subst e; exact Int.le_refl _
    · have := ih (by omega)
      have := pow2_pos b
      rw [Int.pow_succ]; omega
section
variable {X : Cx} {x : Str} {pos : Pos}
theorem pe_ty (T : String) (hg : Gl X x) (hm : X.mg x = none) (hv : bootBuiltins x = some (.type T)) (hn : x ≠ "__name__" := by decide) (hd : (x == ("__debug__" : Str)) = false := by decide) : PE X (.Name x pos) (tC (.ty T)) := pe_bltn hg hm hv rfl hn hd
end
theorem kb_int_int : kitB "int" "int" = some true := by decide +kernel
theorem kb_int_bool : kitB "int" "bool" = some false := by decide +kernel
theorem kb_int_str : kitB "int" "str" = some false := by decide +kernel
theorem kb_int_list : kitB "int" "list" = some false := by decide +kernel
theorem kb_int_tuple : kitB "int" "tuple" = some false := by decide +kernel
theorem kb_bool_int : kitB "bool" "int" = some true := by decide +kernel
theorem kb_bool_bool : kitB "bool" "bool" = some true := by decide +kernel
theorem kb_bool_str : kitB "bool" "str" = some false := by decide +kernel
theorem kb_bool_list : kitB "bool" "list" = some false := by decide +kernel
theorem kb_bool_tuple : kitB "bool" "tuple" = some false := by decide +kernel
theorem kb_str_int : kitB "str" "int" = some false := by decide +kernel
theorem kb_str_bool : kitB "str" "bool" = some false := by decide +kernel
theorem kb_str_str : kitB "str" "str" = some true := by decide +kernel
theorem kb_str_list : kitB "str" "list" = some false := by decide +kernel
theorem kb_str_tuple : kitB "str" "tuple" = some false := by decide +kernel
theorem kb_NoneType_int : kitB "NoneType" "int" = some false := by decide +kernel
theorem kb_NoneType_bool : kitB "NoneType" "bool" = some false := by decide +kernel
theorem kb_NoneType_str : kitB "NoneType" "str" = some false := by decide +kernel
theorem kb_NoneType_list : kitB "NoneType" "list" = some false := by decide +kernel
theorem kb_NoneType_tuple : kitB "NoneType" "tuple" = some false := by decide +kernel
theorem kb_list_int : kitB "list" "int" = some false := by decide +kernel
theorem kb_list_bool : kitB "list" "bool" = some false := by decide +kernel
theorem kb_list_str : kitB "list" "str" = some false := by decide +kernel
theorem kb_list_list : kitB "list" "list" = some true := by decide +kernel
theorem kb_list_tuple : kitB "list" "tuple" = some false := by decide +kernel
theorem kb_tuple_int : kitB "tuple" "int" = some false := by decide +kernel
theorem kb_tuple_bool : kitB "tuple" "bool" = some false := by decide +kernel
theorem kb_tuple_str : kitB "tuple" "str" = some false := by decide +kernel
theorem kb_tuple_list : kitB "tuple" "list" = some false := by decide +kernel
theorem kb_tuple_tuple : kitB "tuple" "tuple" = some true := by decide +kernel
theorem kb_dict_int : kitB "dict" "int" = some false := by decide +kernel
theorem kb_dict_bool : kitB "dict" "bool" = some false := by decide +kernel
theorem kb_dict_str : kitB "dict" "str" = some false := by decide +kernel
theorem kb_dict_list : kitB "dict" "list" = some false := by decide +kernel
theorem kb_dict_tuple : kitB "dict" "tuple" = some false := by decide +kernel
theorem ntT {A B : Prop} (h : A) : if (!false) = true then A else B := iteT h
theorem ntF {A B : Prop} (h : B) : if (!true) = true then A else B := iteF h
section
variable {K : PySem.W.Frag} {H : Hp} {Q : VK} {σ : L2.St} {te : TE} {tl th : TO} {a : Addr} {xs : List V} {lo hi : Option Int} {z : Str}
theorem u_sl {r : V → Option Int → Option Int → Hp → VK → Prop} (k : te σ H fun x H1 => tl σ H1 fun l H2 => th σ H2 fun u H3 => r x l u H3 Q) : tSl r te tl th σ H Q := k
theorem u_part {q : Option Int → Hp → Prop} (k : te σ H fun x H1 => ∃ i, x = .int i ∧ q (some i) H1) : tPart te σ H q := k
theorem u_nopart {q : Option Int → Hp → Prop} (k : q none H) : tNoPart σ H q := k
theorem s_slL (h : SqL K H a xs) (q : ∀ p, H p = none → Q (.ref p) (upd H p (.lst (cutV xs lo hi)))) : rSlL K (.ref a) lo hi H Q := ⟨a, xs, rfl, h, q⟩
theorem s_slS (h : z.length ≤ sizeLine) (q : Q (.str (cutS z lo hi)) H) : rSlS (.str z) lo hi H Q := ⟨z, rfl, h, q⟩
/-- a part of a list of ints is a list of ints -/
theorem cutV_ints (ns : List Int) (lo hi : Option Int) : ∃ ms : List Int, cutV (ns.map V.int) lo hi = ms.map V.int ∧ ms.length ≤ ns.length := by
  refine ⟨(ns.drop (HT.sIx (ns.map V.int).length 0 lo)).take (HT.sIx (ns.map V.int).length (ns.map V.int).length hi - HT.sIx (ns.map V.int).length 0 lo), ?_, ?_⟩
  · unfold cutV; rw [List.map_take, List.map_drop]
  · rw [List.length_take, List.length_drop]; omega
theorem sql_new {p : Addr} {o : HO} (h : SqL K H a xs) (n : H p = none) : SqL K (upd H p o) a xs := (Same.new (Same.refl H) n).seq h
theorem Same.ne {H H1 : Hp} {b p : Addr} {o : HO} (_ : Same H H1) (h : H1 b = some o) (n : H1 p = none) : b ≠ p := ne_of_none h n
theorem ints_get {ns : List Int} {i : Nat} {x : V} (h : (ns.map V.int)[i]? = some x) : ∃ n, ns[i]? = some n ∧ x = .int n := by
  rw [List.getElem?_map] at h
  cases e : ns[i]? with
  | none => rw [e] at h; cases h
  | some n => rw [e] at h; exact ⟨n, rfl, (Option.some.inj h).symm⟩
end

/-! ### rules whose reading speaks of K, with K told (for a comprehension's block) -/
section
variable {X : Cx} {K : PySem.W.Frag}
theorem pg_tupK {es : List Expr} {k : Nat} {t : TGs} {n : Nat} {pos : Pos} (hK : X.K = K) (hc : X.calm = true) (h : PGs X es t)
    (hn : (assignEach es X.env).length = n := by rfl) (hst : (assignEach es X.env).findIdx? (·.1) = none := by rfl) : PG X (.Tuple es k pos) (gTup K n t) := hK ▸ pg_tup hc h hn hst
theorem pe_fldK {e : Expr} {f : Str} {pos : Pos} {ta : TE} (hK : X.K = K) (he : PE X e ta) (hb : attributeBase e f X.env (eval e X.env) = eval e X.env) : PE X (.Attribute e f pos) (tFld K ta f) := hK ▸ pe_fld he hb
theorem call_len_seqK (hK : X.K = K) : CallR X (.builtin "len") (fun xs H Q => ∃ p ys, xs = [.ref p] ∧ (SqL K H p ys ∨ SqT K H p ys) ∧ Q (.int ys.length) H) := hK ▸ call_len_seq
theorem ix_listK (hK : X.K = K) : IxR X (rIxL K) := hK ▸ ix_list
theorem ix_tupK (hK : X.K = K) : IxR X (rIxT K) := hK ▸ ix_tup
theorem op_in_seqK (hK : X.K = K) : OpR X (compareOp .In) (rIn K false) := hK ▸ op_in_seq
theorem op_notIn_seqK (hK : X.K = K) : OpR X (compareOp .NotIn) (rIn K true) := hK ▸ op_notIn_seq
theorem op_eqDK (hK : X.K = K) (hu : X.A.units + 64 < cLine) : OpR X (compareOp .Eq) (rEqD K) := hK ▸ op_eqD hu
theorem op_neDK (hK : X.K = K) (hu : X.A.units + 64 < cLine) : OpR X (compareOp .NotEq) (rNeD K) := hK ▸ op_neD hu
theorem call_isiK' (hK : X.K = K) : CallR X (.builtin "isinstance") (rIsi K) := hK ▸ call_isi
theorem call_isiTK (hK : X.K = K) : CallR X (.builtin "isinstance") (rIsiT K) := hK ▸ call_isiT
theorem sl_listK (hK : X.K = K) : SlR X (rSlL K) := hK ▸ sl_list
theorem cr_maxK (hK : X.K = K) (hc : X.calm = true) : CallR X (.builtin "max") (rMax K) := hK ▸ cr_max hc
theorem cr_minK' (hK : X.K = K) (hc : X.calm = true) : CallR X (.builtin "min") (rMin K) := hK ▸ cr_min hc
end
end Ah
set_option Elab.async false
set_option linter.all false
set_option maxRecDepth 100000
set_option maxHeartbeats 4000000
/-! worths in plain numbers -/
namespace Ah
open PySem PySem.Spec PyProof.Rows L2
/-- a count c of the era e is worth so much at the era n -/
def worth (c e n : Int) : Int := c / 2 ^ (n - e).toNat
theorem worth_at_begin {c e n : Int} (h : n ≤ e) : worth c e n = c := by
  unfold worth
  have : (n - e).toNat = 0 := by omega
  rw [this]; simp
theorem worth_step {c e n : Int} (h : e < n) : worth c e n = worth (c / 2) (e + 1) n := by
  unfold worth
  have h1 : (n - e).toNat = (n - (e + 1)).toNat + 1 := by omega
  rw [h1, Int.pow_succ, Int.mul_comm, Int.ediv_ediv_of_nonneg (by decide)]
theorem worth_zero (e n : Int) : worth 0 e n = 0 := by unfold worth; simp
theorem worth_nonneg {c e n : Int} (h : 0 ≤ c) : 0 ≤ worth c e n := Int.ediv_nonneg h (Int.le_of_lt (pow2_pos _))
theorem worth_le {c e n : Int} (h : 0 ≤ c) : worth c e n ≤ c := Int.ediv_le_self _ h
theorem worth_mono {c d e n : Int} (h : c ≤ d) : worth c e n ≤ worth d e n := Int.ediv_le_ediv (pow2_pos _) h
/-- halved some eras and then some more -/
theorem worth_worth {c e m n : Int} (h1 : e ≤ m) (h2 : m ≤ n) : worth (worth c e m) m n = worth c e n := by
  unfold worth
  rw [Int.ediv_ediv_of_nonneg (Int.le_of_lt (pow2_pos _)), ← Int.pow_add]
  congr 2; omega

/-! ### worth_at, used_mark -/
def spWorth (K : PySem.W.Frag) : Sp := fun vs H Q _ => ∃ (t : Addr) (c e n : Int), vs = [.ref t, .int n] ∧ SqT K H t [.int c, .int e] ∧ 0 ≤ c ∧ Q (.int (worth c e n)) H
def spUsed (K : PySem.W.Frag) : Sp := fun vs H Q _ => ∃ (t : Addr) (c e n m : Int), vs = [.ref t, .int n, .int m] ∧ SqT K H t [.int c, .int e] ∧ 0 ≤ c ∧ ∀ p, H p = none → Q (.ref p) (upd H p (.tup [.int (worth c e n + m), .int n]))
end Ah
set_option Elab.async false
set_option linter.all false
set_option maxRecDepth 100000
set_option maxHeartbeats 4000000
/-! data in the heap -/
namespace Ah
open PySem PySem.Spec PyProof.Rows L2
section
variable {K : PySem.W.Frag} {H H' : Hp}
theorem Same.seqT {a : Addr} {xs : List V} (e : Same H H') (h : SqT K H a xs) : SqT K H' a xs := by
  rcases h with (h | ⟨o, h⟩) | h
  · exact .inl (.inl (e _ _ h))
  · exact .inl (.inr ⟨o, e _ _ h⟩)
  · exact .inr h
mutual
theorem Dp.same (e : Same H H') : ∀ {v : V} {d : PyData}, Dp K H v d → Dp K H' v d
  | _, _, .non => .non
  | _, _, .bl b => .bl b
  | _, _, .int i => .int i
  | _, _, .str x => .str x
  | _, _, .lst h a => .lst (e.seq h) (DpAll.same e a)
  | _, _, .tup h a => .tup (Same.seqT e h) (DpAll.same e a)
theorem DpAll.same (e : Same H H') : ∀ {vs : List V} {ds : List PyData}, DpAll K H vs ds → DpAll K H' vs ds
  | _, _, .nil => .nil
  | _, _, .cons h t => .cons (Dp.same e h) (DpAll.same e t)
end
theorem DpAll.length {vs : List V} {ds : List PyData} : DpAll K H vs ds → vs.length = ds.length := by
  intro h
  induction vs generalizing ds with
  | nil => cases h; rfl
  | cons v vs ih => cases h with | cons _ t => simp [ih t]
theorem DpAll.append : ∀ {vs ws : List V} {ds es : List PyData}, DpAll K H vs ds → DpAll K H ws es → DpAll K H (vs ++ ws) (ds ++ es)
  | [], _, _, _, .nil, b => b
  | _ :: _, _, _, _, .cons h t, b => .cons h (DpAll.append t b)
theorem DpAll.get : ∀ {vs : List V} {ds : List PyData} {i : Nat} {v : V}, DpAll K H vs ds → vs[i]? = some v → ∃ d, ds[i]? = some d ∧ Dp K H v d
  | _, _, 0, _, .cons h _, e => by cases e; exact ⟨_, rfl, h⟩
  | _, _, i + 1, v, .cons _ t, e => by
    obtain ⟨d, h1, h2⟩ := DpAll.get (i := i) (v := v) t (by simpa using e)
    exact ⟨d, by simpa using h1, h2⟩
theorem DpAll.of_map {α : Type} {f : α → V} {g : α → PyData} : ∀ {l : List α}, (∀ a ∈ l, Dp K H (f a) (g a)) → DpAll K H (l.map f) (l.map g)
  | [], _ => .nil
  | a :: l, h => .cons (h a (by simp)) (DpAll.of_map fun b hb => h b (by simp [hb]))
theorem DpAll.mem : ∀ {vs : List V} {ds : List PyData} {v : V}, DpAll K H vs ds → v ∈ vs → ∃ d, d ∈ ds ∧ Dp K H v d
  | _, _, v, .cons h t, hm => by
    rcases List.mem_cons.mp hm with e | hm
    · subst e; exact ⟨_, by simp, h⟩
    · obtain ⟨d, h1, h2⟩ := DpAll.mem t hm
      exact ⟨d, by simp [h1], h2⟩
end
/-! ### flat data, of any depth: what == asks -/
mutual
/-- texts short, depth small -/
def okD : Nat → PyData → Bool
  | _, .none => true
  | _, .bool _ => true
  | _, .int _ => true
  | _, .str x => PyData.strOk x
  | 0, .list _ => false
  | n + 1, .list xs => okDs n xs
  | 0, .tuple _ => false
  | n + 1, .tuple xs => okDs n xs
  | _, .dict _ => false
def okDs : Nat → List PyData → Bool
  | _, [] => true
  | n, x :: xs => okD n x && okDs n xs
end
mutual
theorem okD_shape : ∀ (n : Nat) (d : PyData), okD n d = true → d.canLay0 = true ∧ d.depth ≤ n
  | n, .none, _ => by constructor <;> simp [PyData.canLay0, PyData.depth]
  | n, .bool _, _ => by constructor <;> simp [PyData.canLay0, PyData.depth]
  | n, .int _, _ => by constructor <;> simp [PyData.canLay0, PyData.depth]
  | n, .str x, h => by
    have h' : PyData.strOk x = true := by simpa [okD] using h
    constructor
    · simpa [PyData.canLay0] using h'
    · simp [PyData.depth]
  | 0, .list _, h => by simp [okD] at h
  | n + 1, .list xs, h => by
    obtain ⟨a, b⟩ := okDs_shape n xs (by simpa [okD] using h)
    exact ⟨by simpa [PyData.canLay0] using a, by simp only [PyData.depth]; omega⟩
  | 0, .tuple _, h => by simp [okD] at h
  | n + 1, .tuple xs, h => by
    obtain ⟨a, b⟩ := okDs_shape n xs (by simpa [okD] using h)
    exact ⟨by simpa [PyData.canLay0] using a, by simp only [PyData.depth]; omega⟩
  | n, .dict _, h => by cases n <;> simp [okD] at h
theorem okDs_shape : ∀ (n : Nat) (ds : List PyData), okDs n ds = true → PyData.canLayAll0 ds = true ∧ PyData.depthAll ds ≤ n
  | n, [], _ => by constructor <;> simp [PyData.canLayAll0, PyData.depthAll]
  | n, d :: ds, h => by
    have h' : okD n d = true ∧ okDs n ds = true := by simpa [okDs] using h
    obtain ⟨a, b⟩ := okD_shape n d h'.1
    obtain ⟨a', b'⟩ := okDs_shape n ds h'.2
    exact ⟨by simp [PyData.canLayAll0, a, a'], by simp only [PyData.depthAll]; omega⟩
end
theorem shaped_of {n : Nat} {d : PyData} (h : okD n d = true) (hn : n ≤ 64 := by decide) : SeqAt.shaped d = true := by
  obtain ⟨a, b⟩ := okD_shape n d h
  unfold SeqAt.shaped
  rw [a, Bool.true_and]
  exact decide_eq_true (by omega)
theorem okDs_map {α : Type} {n : Nat} {f : α → PyData} : ∀ {l : List α}, (∀ a ∈ l, okD n (f a) = true) → okDs n (l.map f) = true
  | [], _ => by simp [okDs]
  | a :: l, h => by
    show okDs n (f a :: l.map f) = true
    simp only [okDs, h a (by simp), Bool.true_and]
    exact okDs_map fun b hb => h b (by simp [hb])
theorem eqv_same {n : Nat} {d : PyData} (h : okD n d = true) : PyData.eqv d d = true := SeqAt.eqv_refl d (okD_shape n d h).1
section
variable {K : PySem.W.Frag} {H : Hp} {Q : VK} {x y : V} {d e : PyData}
theorem s_eqD (hx : Dp K H x d) (hy : Dp K H y e) (h1 : SeqAt.shaped d = true) (h2 : SeqAt.shaped e = true) (q : Q (.bl (PyData.eqv d e)) H) : rEqD K x y H Q := ⟨d, e, hx, hy, h1, h2, q⟩
theorem s_neD (hx : Dp K H x d) (hy : Dp K H y e) (h1 : SeqAt.shaped d = true) (h2 : SeqAt.shaped e = true) (q : Q (.bl (!PyData.eqv d e)) H) : rNeD K x y H Q := ⟨d, e, hx, hy, h1, h2, q⟩
end
/-! ### lists of marks: refs to tuples (count, era) -/
def mref (m : Addr × Int × Int) : V := .ref m.1
structure MarksAt (K : PySem.W.Frag) (H : Hp) (p : Addr) (ms : List (Addr × Int × Int)) : Prop where
  seq : SqL K H p (ms.map mref)
  tup : ∀ m ∈ ms, SqT K H m.1 [.int m.2.1, .int m.2.2] ∧ 0 ≤ m.2.1
theorem MarksAt.same {K : PySem.W.Frag} {H H' : Hp} {p : Addr} {ms : List (Addr × Int × Int)} (h : MarksAt K H p ms) (e : Same H H') : MarksAt K H' p ms := ⟨e.seq h.seq, fun m hm => ⟨Same.seqT e (h.tup m hm).1, (h.tup m hm).2⟩⟩
def dMarks (ms : List (Addr × Int × Int)) : PyData := .list (ms.map fun m => .tuple [.int m.2.1, .int m.2.2])
theorem MarksAt.data {K : PySem.W.Frag} {H : Hp} {p : Addr} {ms : List (Addr × Int × Int)} (h : MarksAt K H p ms) : Dp K H (.ref p) (dMarks ms) :=
  .lst h.seq (DpAll.of_map fun m hm => .tup (h.tup m hm).1 (.cons (.int _) (.cons (.int _) .nil)))
theorem ok_marks (ms : List (Addr × Int × Int)) : okD 2 (dMarks ms) = true := by
  unfold dMarks
  simp only [okD]
  exact okDs_map fun m _ => by simp [okD, okDs]
theorem map_get {α β : Type} {f : α → β} {l : List α} {i : Nat} {y : β} (h : (l.map f)[i]? = some y) : ∃ a, l[i]? = some a ∧ y = f a := by
  rw [List.getElem?_map] at h
  cases e : l[i]? with
  | none => rw [e] at h; cases h
  | some n => rw [e] at h; exact ⟨n, rfl, (Option.some.inj h).symm⟩
theorem take_more {α : Type} {l : List α} {i : Nat} {x : α} (h : l[i]? = some x) : l.take (i + 1) = l.take i ++ [x] := by
  obtain ⟨hi, e⟩ := List.getElem?_eq_some_iff.mp h
  rw [List.take_succ, h]; rfl
/-- a list's greatest worth -/
def spGreat (K : PySem.W.Frag) : Sp := fun vs H Q _ => ∃ (p : Addr) (ms : List (Addr × Int × Int)) (n : Int), vs = [.ref p, .int n] ∧ MarksAt K H p ms ∧ ms.length ≤ 1000 ∧
  (ms = [] → ∀ H', Same H H' → Q .non H') ∧ (∀ (g : Int) (H' : Hp), Same H H' → (∃ m ∈ ms, g = worth m.2.1 m.2.2 n) → (∀ m ∈ ms, worth m.2.1 m.2.2 n ≤ g) → Q (.int g) H')

/-! ### comprehensions whose values are told by the turn alone -/
def PvV (res : Nat → List V) (H1 : Hp) (D : Addr) (i : Nat) (H : Hp) : Prop := Same H1 H ∧ H D = some (.lst (res i))
section
variable {res : Nat → List V} {H1 H H4 : Hp} {D : Addr} {i : Nat} {y : V}
theorem lc_begin (hD : H1 D = none) (r0 : res 0 = []) : PvV res H1 D 0 (upd H1 D (.lst [])) := ⟨Same.new (Same.refl _) hD, by rw [upd_same, r0]⟩
theorem Same.mut {H1 H : Hp} {D : Addr} {o : HO} (s : Same H1 H) (hD : H1 D = none) : Same H1 (upd H D o) := fun a u e => by
  rw [upd_ne (ne_of_none e hD)]; exact s a u e
theorem lc_put (p : PvV res H1 D i H) (hD : H1 D = none) (e : Same H H4) (er : res (i + 1) = res i ++ [y]) (hl : (res i).length < sizeLine) :
    ∃ acc, H4 D = some (.lst acc) ∧ acc.length < sizeLine ∧ PvV res H1 D (i + 1) (upd H4 D (.lst (acc ++ [y]))) :=
  ⟨res i, e _ _ p.2, hl, Same.mut (p.1.trans e) hD, by rw [upd_same, er]⟩
theorem lc_skip (p : PvV res H1 D i H) (e : Same H H4) (er : res (i + 1) = res i) : PvV res H1 D (i + 1) H4 := ⟨p.1.trans e, by rw [er]; exact e _ _ p.2⟩
end
/-- the values of a map, so far -/
def resM {α : Type} (l : List α) (g : α → V) (i : Nat) : List V := (l.take i).map g
theorem resM_0 {α : Type} {l : List α} {g : α → V} : resM l g 0 = [] := by simp [resM]
theorem resM_s {α : Type} {l : List α} {g : α → V} {i : Nat} {x : α} (h : l[i]? = some x) : resM l g (i + 1) = resM l g i ++ [g x] := by
  unfold resM; rw [take_more h, List.map_append]; rfl
theorem resM_all {α : Type} {l : List α} {g : α → V} {n : Nat} (h : n = l.length) : resM l g n = l.map g := by subst h; simp [resM]
theorem resM_len {α : Type} {l : List α} {g : α → V} {i : Nat} (h : l.length ≤ 100000) : (resM l g i).length < sizeLine := by
  have : (resM l g i).length ≤ l.length := by simp [resM]; omega
  rw [sizeLine_eq]; omega
/-- those of a filter, then mapped, so far -/
def resF {α : Type} (l : List α) (p : α → Bool) (g : α → V) (i : Nat) : List V := ((l.take i).filter p).map g
theorem resF_0 {α : Type} {l : List α} {p : α → Bool} {g : α → V} : resF l p g 0 = [] := by simp [resF]
theorem resF_y {α : Type} {l : List α} {p : α → Bool} {g : α → V} {i : Nat} {x : α} (h : l[i]? = some x) (c : p x = true) : resF l p g (i + 1) = resF l p g i ++ [g x] := by
  unfold resF; rw [take_more h, List.filter_append, List.map_append]; simp [c]
theorem resF_n {α : Type} {l : List α} {p : α → Bool} {g : α → V} {i : Nat} {x : α} (h : l[i]? = some x) (c : p x = false) : resF l p g (i + 1) = resF l p g i := by
  unfold resF; rw [take_more h, List.filter_append, List.map_append]; simp [c]
theorem resF_all {α : Type} {l : List α} {p : α → Bool} {g : α → V} {n : Nat} (h : n = l.length) : resF l p g n = (l.filter p).map g := by subst h; simp [resF]
theorem resF_len {α : Type} {l : List α} {p : α → Bool} {g : α → V} {i : Nat} (h : l.length ≤ 100000) : (resF l p g i).length < sizeLine := by
  have h1 : (resF l p g i).length ≤ (l.take i).length := by unfold resF; rw [List.length_map]; exact List.length_filter_le _ _
  have h2 : (l.take i).length ≤ l.length := by simp; omega
  rw [sizeLine_eq]; omega
section
variable {H : Hp} {Q : VK} {σ : L2.St}
theorem u_lc {wi : TI} {g : TG} {tt : TT} {te : TE} {vs : List Nat} (k : wi σ H fun J H1 => ∀ D, H1 D = none → ∃ W : Nat → Nat → Hp → Prop, (∃ m, W 0 m (upd H1 D (.lst []))) ∧ ∀ i m H, W i m H →
  (J.stop i H ∧ Q (.ref D) H) ∨ (J.go i H ∧ ∃ Nx : Hp → Prop, (∀ H', Nx H' → ∃ m', m' < m ∧ W (i + 1) m' H') ∧ ∀ x H', J.yld i H x H' → g x (wipe σ vs) H' fun σ2 H2 => wipe σ2 vs = wipe σ vs ∧ tt σ2 H2 fun b H3 =>
    if b = true then te σ2 H3 fun y H4 => ∃ acc, H4 D = some (.lst acc) ∧ acc.length < sizeLine ∧ Nx (upd H4 D (.lst (acc ++ [y]))) else Nx H3)) : tLc wi g tt te vs σ H Q := k
theorem u_yes {q : Bool → Hp → Prop} (k : q true H) : tYes σ H q := k
end

section
variable {K : PySem.W.Frag} {H : Hp} {Q : VK} {σ : L2.St} {T : String} {r : V → List V → Hp → VK → Prop} {to : TE} {t : TA} {p : Addr} {xs : List V} {B : Prop}
theorem u_bm (k : to σ H fun x H1 => tyV K T x H1 ∧ t σ H1 fun xs H2 => r x xs H2 Q) : tBM K T r to t σ H Q := k
theorem u_bm0 (k : to σ H fun x H1 => tyV K T x H1 ∧ r x [] H1 Q) : tBM0 K T r to σ H Q := k
theorem s_tyL (h : SqL K H p xs) (k : B) : tyV K "list" (.ref p) H ∧ B := ⟨.inl ⟨rfl, _, h⟩, k⟩
theorem s_app {y : V} (h : H p = some (.lst xs)) (hl : xs.length < sizeLine) (q : Q .non (upd H p (.lst (xs ++ [y])))) : rAppend (.ref p) [y] H Q := ⟨p, xs, y, rfl, rfl, h, hl, q⟩
end
end Ah
namespace Ah
open PySem PySem.Spec PyProof.Rows L2
def top (i : Nat) : Stmt := PySem.Challenge.pw_aheadword_k03_halvings.main.body.getD i (.Pass ⟨0, 0, 0, 0⟩)
abbrev s_worth_at : Stmt := top 1
theorem sc_worth_at : FnScope ["mark", "era", "count", "begun"] ["mark", "era"] (defScope s_worth_at) := ⟨rfl, rfl, rfl, by decide +kernel, rfl, by decide +kernel, by decide +kernel⟩
theorem bi_worth_at : BindOk "worth_at" s_worth_at ["mark", "era"] := fun _ _ _ _ _ _ us hl => match us, hl with | [_, _], _ => rfl
abbrev s_greatest_at : Stmt := top 2
theorem sc_greatest_at : FnScope ["marks", "era", "mark"] ["marks", "era"] (defScope s_greatest_at) := ⟨rfl, rfl, rfl, by decide +kernel, rfl, by decide +kernel, by decide +kernel⟩
theorem bi_greatest_at : BindOk "greatest_at" s_greatest_at ["marks", "era"] := fun _ _ _ _ _ _ us hl => match us, hl with | [_, _], _ => rfl
abbrev s_law_cell_at : Stmt := top 4
theorem sc_law_cell_at : FnScope ["_law_script", "_law_k"] ["_law_script", "_law_k"] (defScope s_law_cell_at) := ⟨rfl, rfl, rfl, by decide +kernel, rfl, by decide +kernel, by decide +kernel⟩
theorem bi_law_cell_at : BindOk "_law_cell_at" s_law_cell_at ["_law_script", "_law_k"] := fun _ _ _ _ _ _ us hl => match us, hl with | [_, _], _ => rfl
abbrev s_law_box : Stmt := top 5
theorem sc_law_box : FnScope ["_law_cell"] ["_law_cell"] (defScope s_law_box) := ⟨rfl, rfl, rfl, by decide +kernel, rfl, by decide +kernel, by decide +kernel⟩
theorem bi_law_box : BindOk "_law_box" s_law_box ["_law_cell"] := fun _ _ _ _ _ _ us hl => match us, hl with | [_], _ => rfl
abbrev s_law_take : Stmt := top 6
theorem sc_law_take : FnScope ["_law_box_here", "_law_many", "_law_found"] ["_law_box_here", "_law_many"] (defScope s_law_take) := ⟨rfl, rfl, rfl, by decide +kernel, rfl, by decide +kernel, by decide +kernel⟩
theorem bi_law_take : BindOk "_law_take" s_law_take ["_law_box_here", "_law_many"] := fun _ _ _ _ _ _ us hl => match us, hl with | [_, _], _ => rfl
abbrev s_law_whole : Stmt := top 7
theorem sc_law_whole : FnScope ["_law_found", "_law_due"] ["_law_found", "_law_due"] (defScope s_law_whole) := ⟨rfl, rfl, rfl, by decide +kernel, rfl, by decide +kernel, by decide +kernel⟩
theorem bi_law_whole : BindOk "_law_whole" s_law_whole ["_law_found", "_law_due"] := fun _ _ _ _ _ _ us hl => match us, hl with | [_, _], _ => rfl
abbrev s_law_halved : Stmt := top 8
theorem sc_law_halved : FnScope ["_law_count", "_law_times", "_law_power"] ["_law_count", "_law_times"] (defScope s_law_halved) := ⟨rfl, rfl, rfl, by decide +kernel, rfl, by decide +kernel, by decide +kernel⟩
theorem bi_law_halved : BindOk "_law_halved" s_law_halved ["_law_count", "_law_times"] := fun _ _ _ _ _ _ us hl => match us, hl with | [_, _], _ => rfl
abbrev s_law_marks : Stmt := top 9
theorem sc_law_marks : FnScope ["_law_box_here", "_law_base", "_law_marks_here", "_law_k", "_law_count"] ["_law_box_here"] (defScope s_law_marks) := ⟨rfl, rfl, rfl, by decide +kernel, rfl, by decide +kernel, by decide +kernel⟩
theorem bi_law_marks : BindOk "_law_marks" s_law_marks ["_law_box_here"] := fun _ _ _ _ _ _ us hl => match us, hl with | [_], _ => rfl
abbrev s_law_right : Stmt := top 10
theorem sc_law_right : FnScope ["_law_marks_here", "_law_first", "_law_second", "_law_ones", "_law_count", "_law_era", "_law_others", "_law_k", "_law_j", "_law_handed", "_law_found"] ["_law_marks_here", "_law_first", "_law_second"] (defScope s_law_right) := ⟨rfl, rfl, rfl, by decide +kernel, rfl, by decide +kernel, by decide +kernel⟩
theorem bi_law_right : BindOk "_law_right" s_law_right ["_law_marks_here", "_law_first", "_law_second"] := fun _ _ _ _ _ _ us hl => match us, hl with | [_, _, _], _ => rfl
abbrev s_law : Stmt := top 11
theorem sc_law : FnScope ["_law_script", "_law_cell", "_law_box_here", "_law_marks_here", "_law_first"] ["_law_script"] (defScope s_law) := ⟨rfl, rfl, rfl, by decide +kernel, rfl, by decide +kernel, by decide +kernel⟩
theorem bi_law : BindOk "law" s_law ["_law_script"] := fun _ _ _ _ _ _ us hl => match us, hl with | [_], _ => rfl
structure Top (K : PySem.W.Frag) (mg : Str → Option Value) : Prop where
  n_bool : mg "bool" = none
  n_int : mg "int" = none
  n_isinstance : mg "isinstance" = none
  n_len : mg "len" = none
  n_list : mg "list" = none
  n_max : mg "max" = none
  n_range : mg "range" = none
  d_worth_at : DefAt K mg "worth_at" s_worth_at
  d_greatest_at : DefAt K mg "greatest_at" s_greatest_at
  d_law_cell_at : DefAt K mg "_law_cell_at" s_law_cell_at
  d_law_box : DefAt K mg "_law_box" s_law_box
  d_law_take : DefAt K mg "_law_take" s_law_take
  d_law_whole : DefAt K mg "_law_whole" s_law_whole
  d_law_halved : DefAt K mg "_law_halved" s_law_halved
  d_law_marks : DefAt K mg "_law_marks" s_law_marks
  d_law_right : DefAt K mg "_law_right" s_law_right
/-! ### short steps -/
local macro_rules | `(tactic| walk_at "ne") => `(tactic| first | assumption | (apply Ne.symm; assumption) | (exact ne_of_none (by assumption) (by assumption)) | (exact (ne_of_none (by assumption) (by assumption)).symm))
local macro_rules | `(tactic| walk_at "hp") => `(tactic| first | assumption | exact upd_same | (refine' (upd_ne ?n).trans ?h; (case n => walk_at "ne"); (case h => walk_at "hp")))
local macro_rules | `(tactic| walk_at "sq") => `(tactic| first | assumption | (refine' SqL.of ?h; (case h => walk_at "hp")))
local macro_rules | `(tactic| walk_at "st") => `(tactic| first | assumption | (refine' SqT.of ?h; (case h => walk_at "hp")))
local macro_rules | `(tactic| walk_at "sd") => `(tactic| first | assumption | decide | (constructor <;> decide) | omega | (constructor <;> omega))
local macro_rules | `(tactic| walk_at "kb") => `(tactic| first | exact kb_int_int | exact kb_int_bool | exact kb_int_str | exact kb_int_list | exact kb_int_tuple | exact kb_bool_int | exact kb_bool_bool | exact kb_bool_str | exact kb_bool_list | exact kb_bool_tuple | exact kb_str_int | exact kb_str_bool | exact kb_str_str | exact kb_str_list | exact kb_str_tuple | exact kb_NoneType_int | exact kb_NoneType_bool | exact kb_NoneType_str | exact kb_NoneType_list | exact kb_NoneType_tuple | exact kb_list_int | exact kb_list_bool | exact kb_list_str | exact kb_list_list | exact kb_list_tuple | exact kb_tuple_int | exact kb_tuple_bool | exact kb_tuple_str | exact kb_tuple_list | exact kb_tuple_tuple | exact kb_dict_int | exact kb_dict_bool | exact kb_dict_str | exact kb_dict_list | exact kb_dict_tuple)
local macro_rules | `(tactic| walk_at "ty") => `(tactic| first | exact .base (.int _) | exact .base (.bl _) | exact .base (.str _) | exact .base .non | (refine' .base (.tup ?h); (case h => walk_at "hp")) | (refine' .base (.lst ?h); (case h => walk_at "hp")))
local macro_rules | `(tactic| walk_at "u") => `(tactic| with_reducible first
  | refine u_seq ?_
  | refine u_asg ?_
  | refine u_drop ?_
  | refine u_ret ?_
  | refine u_retN ?_
  | refine u_next ?_
  | refine u_brk ?_
  | refine u_cont ?_
  | refine u_ifS ?_
  | refine u_op ?_
  | refine u_un ?_
  | refine u_c ?_
  | refine u_and ?_
  | refine u_or ?_
  | refine u_not ?_
  | refine u_andV ?_
  | refine u_orV ?_
  | refine u_notV ?_
  | refine u_if ?_
  | refine u_test ?_
  | refine u_B ?_
  | refine u_chain ?_
  | refine u_name ?_
  | refine u_sub ?_
  | refine u_nil ?_
  | refine u_cons ?_
  | refine u_call ?_
  | refine u_CB ?_
  | refine u_tup ?_
  | refine u_lst ?_
  | refine u_for ?_
  | refine u_iList ?_
  | refine u_iTup ?_
  | refine u_iRng1 ?_
  | refine u_iRng2 ?_
  | refine u_sl ?_
  | refine u_part ?_
  | refine u_nopart ?_
  | refine u_lc ?_
  | refine u_bm ?_
  | refine u_bm0 ?_
  | refine u_yes ?_
  | refine u_gcons ?_
  | refine u_gnil ?_)
local macro_rules | `(tactic| walk_at "s") => `(tactic| first
  | ((with_reducible refine' s_var ?h ?q); (case h => rfl))
  | with_reducible refine s_ii ?_
  | ((with_reducible refine' s_eq ?h ?q); (case h => rfl))
  | ((with_reducible refine' s_ne ?h ?q); (case h => rfl))
  | with_reducible refine iteF ?_
  | with_reducible refine iteT ?_
  | with_reducible refine ntT ?_
  | with_reducible refine ntF ?_
  | (with_reducible refine Exists.intro _ (And.intro (show V.bl _ = V.bl _ from rfl) ?_))
  | (with_reducible refine Exists.intro _ (And.intro (show V.int _ = V.int _ from rfl) ?_))
  | (with_reducible refine Exists.intro _ (And.intro (show [V.int _] = [V.int _] from rfl) ?_))
  | (with_reducible refine Exists.intro _ (And.intro (show V.ref _ = V.ref _ from rfl) ?_))
  | with_reducible refine s_un ?_
  | ((with_reducible refine' s_ixL ?h ?a ?q); (case h => walk_at "sq"); (case a => rfl))
  | ((with_reducible refine' s_ixT ?h ?a ?q); (case h => walk_at "st"); (case a => rfl))
  | ((with_reducible refine' s_setL ?h ?a ?k); (case h => walk_at "hp"); (case a => rfl))
  | ((with_reducible refine' s_tyL ?h ?k); (case h => walk_at "sq"))
  | ((with_reducible refine' s_slL ?h ?q); (case h => walk_at "sq"))
  | ((with_reducible refine' s_isi ?t ?k ?q); (case t => walk_at "ty"); (case k => walk_at "kb"))
  | ((with_reducible refine' s_gtup ?h ?l ?k); (case h => walk_at "st"); (case l => rfl))
  | ((refine' ⟨_, _, rfl, Or.inl ?h, ?q⟩); (case h => walk_at "sq"))
  | ((refine' ⟨_, _, rfl, Or.inr ?h, ?q⟩); (case h => walk_at "st"))
  | ((with_reducible refine' s_iiC ?c ?q); (case c => walk_at "sd")))
local macro_rules | `(tactic| walk_at "go") => `(tactic| repeat first | walk_at "u" | walk_at "s")
section
variable {P : Program} {w : World} {K : PySem.W.Frag} {mg : Str → Option Value} {base : Heap}
theorem ok_worth_at (T : Top K mg)  : Fn P w K mg base 1 "worth_at" ["mark", "era"] (spWorth K) := by
  refine T.d_worth_at.ok sc_worth_at bi_worth_at (fun vs H Q E h => ?_) (fun f cdv A outer s H vs Q E hr h => ?_)
  · obtain ⟨t, c, e, n, rfl, ht, h0, k⟩ := h; rfl
  · obtain ⟨t, c, e, n, rfl, ht, h0, k⟩ := h
    refine ⟨_, (pss_cons (ps_asg (pv 0) (pg_tup rfl (pgs_cons (pg_name (i := 2) sc_worth_at.nd rfl (Or.inl rfl)) (pgs_cons (pg_name (i := 3) sc_worth_at.nd rfl (Or.inl rfl)) pgs_nil))))
    (pss_cons (ps_while PassesOwn.never (PW.pt (pw_and (pt_cmpR op_lt (pv 3) (pv 1) (nomark _)) (pw_and1 (pt_cmpR op_gt (pv 2) (pe_int) (nomark _))))) (pss_cons (ps_set (i := 2) sc_worth_at.nd rfl (Or.inl rfl) (pe_op op_fdiv (pv 2) (pe_int)))
    (pss_one (ps_set (i := 3) sc_worth_at.nd rfl (Or.inl rfl) (pe_op op_add (pv 3) (pe_int))))))
    (pss_one (ps_ret (pv 2))))), ?_⟩
    walk_at "go"
    refine w_while (W := fun m σ' H' => ∃ c' e' : Int, σ' = [some (.ref t), some (.int n), some (.int c'), some (.int e')] ∧ H' = H ∧ 0 ≤ c' ∧ worth c e n = worth c' e' n ∧ m = (n - e').toNat) (n - e).toNat ⟨c, e, rfl, rfl, h0, rfl, rfl⟩ ?_
    rintro m σ' H' ⟨c', e', rfl, rfl, h1, h2, rfl⟩
    walk_at "go"
    refine dT (fun hc => ?_) (fun hc => ?_)
    · walk_at "go"
      refine dT (fun hd => ?_) (fun hd => ?_)
      · walk_at "go"
        refine w_turn ?_
        walk_at "go"
        exact ⟨_, by omega, _, _, rfl, rfl, by omega, by rw [h2, worth_step hc], rfl⟩
      · walk_at "go"
        have : c' = 0 := by omega
        subst this
        rw [worth_zero] at h2
        rw [h2] at k; exact k
    · walk_at "go"
      rw [worth_at_begin (show n ≤ e' by omega)] at h2
      rw [h2] at k; exact k
theorem ok_greatest_at (T : Top K mg) (F_worth_at : Fn P w K mg base 1 "worth_at" ["mark", "era"] (spWorth K)) : Fn P w K mg base 2 "greatest_at" ["marks", "era"] (spGreat K) := by
  refine T.d_greatest_at.ok sc_greatest_at bi_greatest_at (fun vs H Q E h => ?_) (fun f cdv A outer s H vs Q E hr h => ?_)
  · obtain ⟨p, ms, n, rfl, hM, hl, k0, k1⟩ := h; rfl
  · obtain ⟨p, ms, n, rfl, hM, hl, k0, k1⟩ := h
    refine ⟨_, (pss_cons (ps_if (pt_cmpR (op_eqD hr.units) (pv 0) (pe_lst pa_nil) (nomark _)) (pss_one (ps_ret (pe_non))) pss_nil)
    (pss_one (ps_ret (pe_callB (cr_max rfl) rfl T.n_max (by decide +kernel) (pa_cons (pe_lc (own := [("mark", 2)]) (by rfl) sc_greatest_at.nd (pi_list (pv 0)) (blkOk_by (own := [("mark", 2)]) (N := ["marks", "era", "mark"]) (sc := defScope s_greatest_at) (by decide +kernel)) (fun _ _ _ _ _ => (pg_name (i := 2) sc_greatest_at.nd rfl (Or.inl rfl))) (fun _ _ _ _ _ => pts_nil) (fun _ _ _ _ _ => (pe_fn F_worth_at (hr.mono (by decide)) passL (pa_cons (pv 2) (pa_cons (pv 1) pa_nil))))) pa_nil))))), ?_⟩
    walk_at "go"
    refine ⟨sz (by simp), fun p0 hp0 => ?_⟩
    have s0 : Same H (upd H p0 (.lst [])) := Same.new (Same.refl H) hp0
    have hM2 := hM.same s0
    refine s_eqD hM2.data (.lst (SqL.of upd_same) .nil) (shaped_of (ok_marks ms)) rfl ?_
    walk_at "go"
    refine bT (fun hc => ?_) (fun hc => ?_)
    · have e : ms = [] := by
        cases ms with
        | nil => rfl
        | cons m ms => simp [dMarks, PyData.eqv, PyData.eqvAll] at hc
      walk_at "go"
      exact k0 e _ s0
    · have e : ms ≠ [] := by
        rintro rfl
        simp [dMarks, PyData.eqv, PyData.eqvAll] at hc
      walk_at "go"
      refine ⟨⟨_, hM2.seq⟩, fun D hD => ?_⟩
      refine lc_list (xs := ms.map mref) (PvV (resM ms fun m => .int (worth m.2.1 m.2.2 n)) _ D) (lc_begin hD resM_0) (fun i H' _ p => p.1.seq hM2.seq) ?_ ?_
      · intro i x H' hi pv
        obtain ⟨m, hm, rfl⟩ := map_get hi
        obtain ⟨ht, h0⟩ := (hM2.same pv.1).tup m (List.mem_of_getElem? hm)
        walk_at "go"
        refine ⟨rfl, ?_⟩
        walk_at "go"
        refine ⟨m.1, m.2.1, m.2.2, n, rfl, ht, h0, ?_⟩
        exact lc_put pv hD (Same.refl _) (resM_s hm) (resM_len (by omega))
      · intro H' pv
        rw [List.length_map] at pv
        walk_at "go"
        have hl2 : H' D = some (.lst ((ms.map fun m => worth m.2.1 m.2.2 n).map V.int)) := by
          rw [pv.2, resM_all rfl, List.map_map]; rfl
        refine ⟨D, ms.map fun m => worth m.2.1 m.2.2 n, rfl, SqL.of hl2, ?_, fun g hg hge => ?_⟩
        · cases ms with
          | nil => exact absurd rfl e
          | cons _ _ => simp
        · obtain ⟨m, hm, rfl⟩ := List.mem_map.mp hg
          exact k1 _ _ (s0.trans pv.1) ⟨m, hm, rfl⟩ fun m' hm' => hge _ (List.mem_map.mpr ⟨m', hm', rfl⟩)
theorem ok_law_cell_at (T : Top K mg)  : Fn P w K mg base 1 "_law_cell_at" ["_law_script", "_law_k"] (spCell K) := by
  refine T.d_law_cell_at.ok sc_law_cell_at bi_law_cell_at (fun vs H Q E h => ?_) (fun f cdv A outer s H vs Q E hr h => ?_)
  · obtain ⟨a, ns, i, rfl, hS, h0, k⟩ := h; rfl
  · obtain ⟨a, ns, i, rfl, hS, h0, k⟩ := h
    refine ⟨_, (pss_cons (ps_if (pt_cmpR op_lt (pv 1) (pe_callB call_len_seq rfl T.n_len (by decide +kernel) (pa_cons (pv 0) pa_nil)) (nomark _)) (pss_one (ps_ret (pe_ix ix_list (pv 0) (pv 1) (fun _ _ => rfl)))) pss_nil)
    (pss_one (ps_ret (pe_int)))), ?_⟩
    walk_at "go"
    refine dT (fun hc => ?_) (fun hc => ?_)
    · walk_at "go"
      rw [List.length_map] at hc
      obtain ⟨j, rfl⟩ : ∃ j : Nat, i = (j : Int) := ⟨i.toNat, by omega⟩
      have hj : j < ns.length := by omega
      exact ⟨a, ns.map V.int, j, .int ns[j], rfl, rfl, hS, atI_nat (by simp [hj]), k _⟩
    · walk_at "go"
      exact k _
theorem ok_law_box (T : Top K mg)  : Fn P w K mg base 1 "_law_box" ["_law_cell"] spBox := by
  refine T.d_law_box.ok sc_law_box bi_law_box (fun vs H Q E h => ?_) (fun f cdv A outer s H vs Q E hr h => ?_)
  · obtain ⟨c, rfl, k⟩ := h; rfl
  · obtain ⟨c, rfl, k⟩ := h
    refine ⟨_, (pss_one (ps_ret (pe_lst (pa_cons (pe_op op_fdiv (pv 0) (pe_int)) (pa_cons (pe_op op_mod (pv 0) (pe_int)) (pa_cons (pe_int) (pa_cons (pv 0) pa_nil))))))), ?_⟩
    walk_at "go"
    exact ⟨sz (by simp), fun p hp => k p _ hp (Same.new (Same.refl _) hp) ⟨_, _, _, _, upd_same⟩⟩
theorem ok_law_take (T : Top K mg)  : Fn P w K mg base 1 "_law_take" ["_law_box_here", "_law_many"] spTake := by
  refine T.d_law_take.ok sc_law_take bi_law_take (fun vs H Q E h => ?_) (fun f cdv A outer s H vs Q E hr h => ?_)
  · obtain ⟨b, m, rfl, ⟨x0, x1, x2, x3, hb⟩, hm, hl, k⟩ := h; rfl
  · obtain ⟨b, m, rfl, ⟨x0, x1, x2, x3, hb⟩, hm, hl, k⟩ := h
    refine ⟨_, (pss_cons (ps_asg (pe_op op_add (pe_ix ix_list (pv 0) (pe_int) (fun _ _ => rfl)) (pe_int)) (pg_sub (pv 0) (pe_int) set_list))
    (Evl.pss_cut (ps_if (PW.pt (pw_and (pt_cmpR op_eq (pe_ix ix_list (pv 0) (pe_int) (fun _ _ => rfl)) (pe_int) (nomark _)) (pw_and1 (pt_chain op_le op_le (pe_un un_neg (pe_int)) (pe_ix ix_list (pv 0) (pe_int) (fun _ _ => rfl)) (pe_int))))) (pss_cons (ps_asg (pe_ix ix_list (pv 0) (pe_int) (fun _ _ => rfl)) (pg_sub (pv 0) (pe_int) set_list))
    (pss_one (ps_asg (pe_int) (pg_sub (pv 0) (pe_int) set_list)))) pss_nil)
    (pss_cons (ps_if (pt_cmpR op_eq (pe_ix ix_list (pv 0) (pe_int) (fun _ _ => rfl)) (pe_int) (nomark _)) (pss_cons (ps_set (i := 2) sc_law_take.nd rfl (Or.inl rfl) (pe_op op_mod (pe_ix ix_list (pv 0) (pe_int) (fun _ _ => rfl)) (pv 1)))
    (pss_cons (ps_asg (pe_op op_fdivW (pe_ix ix_list (pv 0) (pe_int) (fun _ _ => rfl)) (pv 1)) (pg_sub (pv 0) (pe_int) set_list))
    (pss_one (ps_ret (pv 2))))) pss_nil)
    (pss_cons (ps_asg (pe_op op_mod (pe_op op_add (pe_op op_add (pe_op op_mul (pe_op op_mod (pe_ix ix_list (pv 0) (pe_int) (fun _ _ => rfl)) (pe_int)) (pe_int)) (pe_op op_mul (pe_int) (pe_ix ix_list (pv 0) (pe_int) (fun _ _ => rfl)))) (pe_int)) (pe_int)) (pg_sub (pv 0) (pe_int) set_list))
    (pss_one (ps_ret (pe_op op_mod (pe_op op_fdiv (pe_op op_mod (pe_op op_mul (pe_ix ix_list (pv 0) (pe_int) (fun _ _ => rfl)) (pe_int)) (pe_int)) (pe_int)) (pv 1)))))))), ?_⟩
    walk_at "go"
    refine u_cut (M := fun σ H' => σ = [some (.ref b), some (.int m), none] ∧ BoxAt H' b ∧ But b H H') ?_ ?_
    · walk_at "go"
      refine bT (fun hc => ?_) (fun hc => ?_)
      · walk_at "go"
        refine bT (fun hc => ?_) (fun hc => ?_)
        · walk_at "go"
          refine bT (fun hc => ?_) (fun hc => ?_)
          · walk_at "go"
            exact ⟨rfl, ⟨_, _, _, _, upd_same⟩, ((But.refl.upd).upd).upd⟩
          · walk_at "go"
            exact ⟨rfl, ⟨_, _, _, _, upd_same⟩, But.refl.upd⟩
        · walk_at "go"
          exact ⟨rfl, ⟨_, _, _, _, upd_same⟩, But.refl.upd⟩
      · walk_at "go"
        exact ⟨rfl, ⟨_, _, _, _, upd_same⟩, But.refl.upd⟩
    · rintro σ' H' ⟨rfl, ⟨y0, y1, y2, y3, hb'⟩, hs⟩
      have hd : CDivW y0 m := divW hm hl
      walk_at "go"
      refine bT (fun hc => ?_) (fun hc => ?_)
      · walk_at "go"
        exact k _ _ (Int.emod_nonneg _ (by omega)) (Int.emod_lt_of_pos _ hm) ⟨_, _, _, _, upd_same⟩ hs.upd
      · walk_at "go"
        exact k _ _ (Int.emod_nonneg _ (by omega)) (Int.emod_lt_of_pos _ hm) ⟨_, _, _, _, upd_same⟩ hs.upd
/-- whole: of two numbers -/
def spWhole : Sp := fun vs H Q _ => ∃ i j : Int, vs = [.int i, .int j] ∧ Q (.bl (decide (i = j))) H
theorem ok_law_whole (T : Top K mg)  : Fn P w K mg base 1 "_law_whole" ["_law_found", "_law_due"] spWhole := by
  refine T.d_law_whole.ok sc_law_whole bi_law_whole (fun vs H Q E h => ?_) (fun f cdv A outer s H vs Q E hr h => ?_)
  · obtain ⟨i, j, rfl, k⟩ := h; rfl
  · obtain ⟨i, j, rfl, k⟩ := h
    refine ⟨_, (pss_one (ps_ret ((pe_and (pe_callB call_isi rfl T.n_isinstance (by decide +kernel) (pa_cons (pv 0) (pa_cons (pe_ty "int" rfl T.n_int (by decide +kernel)) pa_nil))) (pe_and (pe_not (pe_callB call_isi rfl T.n_isinstance (by decide +kernel) (pa_cons (pv 0) (pa_cons (pe_ty "bool" rfl T.n_bool (by decide +kernel)) pa_nil)))) (pe_one (pe_cmpR op_eq (pv 0) (pv 1) (nomark _)))))))), ?_⟩
    walk_at "go"
    rw [show decide (V.int i = V.int j) = decide (i = j) by simp]
    exact k
/-- halved so often, by one division -/
def spHalved : Sp := fun vs H Q _ => ∃ c n : Int, vs = [.int c, .int n] ∧ 0 ≤ c ∧ c < 1000000000000000 ∧ 0 ≤ n ∧ Q (.int (c / 2 ^ n.toNat)) H
theorem ok_law_halved (T : Top K mg)  : Fn P w K mg base 1 "_law_halved" ["_law_count", "_law_times"] spHalved := by
  refine T.d_law_halved.ok sc_law_halved bi_law_halved (fun vs H Q E h => ?_) (fun f cdv A outer s H vs Q E hr h => ?_)
  · obtain ⟨c, n, rfl, h0, h1, h2, k⟩ := h; rfl
  · obtain ⟨c, n, rfl, h0, h1, h2, k⟩ := h
    refine ⟨_, (pss_cons (ps_set (i := 2) sc_law_halved.nd rfl (Or.inl rfl) (pe_int))
    (Evl.pss_cut (ps_while PassesOwn.never (PW.pt (pw_and (pt_cmpR op_gt (pv 1) (pe_int) (nomark _)) (pw_and1 (pt_cmpR op_le (pv 2) (pv 0) (nomark _))))) (pss_cons (ps_set (i := 2) sc_law_halved.nd rfl (Or.inl rfl) (pe_op op_mul (pv 2) (pe_int)))
    (pss_one (ps_set (i := 1) sc_law_halved.nd rfl (Or.inl rfl) (pe_op op_sub (pv 1) (pe_int))))))
    (pss_one (ps_ret (pe_op op_fdivW (pv 0) (pv 2)))))), ?_⟩
    walk_at "go"
    refine u_cut (M := fun σ' H' => ∃ p m : Int, σ' = [some (.int c), some (.int m), some (.int p)] ∧ H' = H ∧ 0 < p ∧ p < 18446744073709551616 ∧ c / p = c / 2 ^ n.toNat) ?_ ?_
    · refine w_while (W := fun k σ' H' => ∃ (j : Nat) (m : Int), σ' = [some (.int c), some (.int m), some (.int (2 ^ j))] ∧ H' = H ∧ 0 ≤ m ∧ (j : Int) + m = n ∧ j ≤ 52 ∧ k = m.toNat) n.toNat ⟨0, n, rfl, rfl, h2, by omega, by omega, rfl⟩ ?_
      rintro k σ' H' ⟨j, m, rfl, rfl, hm, hj, hl, rfl⟩
      have pp := pow2_pos j
      have hb : (2 : Int) ^ j ≤ 2 ^ 52 := pow2_mono hl
      have hx : CMul (2 ^ j) 2 := Or.inr (by decide)
      walk_at "go"
      refine dT (fun hc => ?_) (fun hc => ?_)
      · walk_at "go"
        refine dT (fun hd => ?_) (fun hd => ?_)
        · walk_at "go"
          refine w_turn ?_
          walk_at "go"
          refine ⟨_, by omega, j + 1, m - 1, ?_, rfl, by omega, by omega, ?_, rfl⟩
          · rw [Int.pow_succ]; rfl
          · have : ¬ (52 ≤ j) := fun h => by
              have hq : (2 : Int) ^ 52 ≤ 2 ^ j := pow2_mono h
              have : (2 : Int) ^ 52 = 4503599627370496 := by decide
              omega
            omega
        · walk_at "go"
          refine ⟨2 ^ j, m, rfl, rfl, pp, ?_, ?_⟩
          · have : (2 : Int) ^ 52 = 4503599627370496 := by decide
            omega
          · have hn : j ≤ n.toNat := by omega
            have h3 : (2 : Int) ^ j ≤ 2 ^ n.toNat := pow2_mono hn
            rw [Int.ediv_eq_zero_of_lt h0 (by omega), Int.ediv_eq_zero_of_lt h0 (by omega)]
      · walk_at "go"
        have e : m = 0 := by omega
        subst e
        have e2 : n.toNat = j := by omega
        refine ⟨2 ^ j, 0, rfl, rfl, pp, ?_, by rw [e2]⟩
        have : (2 : Int) ^ 52 = 4503599627370496 := by decide
        omega
    · rintro σ' H' ⟨p, m, rfl, rfl, hp, hq, e⟩
      have hd : CDivW c p := divW hp hq
      walk_at "go"
      rw [← e] at k
      exact k
/-- marks drawn: none to six -/
def spMarks3 (K : PySem.W.Frag) : Sp := fun vs H Q _ => ∃ b : Addr, vs = [.ref b] ∧ BoxAt H b ∧ ∀ (p : Addr) (ms : List (Addr × Int × Int)) (H' : Hp), H p = none → MarksAt K H' p ms → ms.length ≤ 6 → (∀ m ∈ ms, m.2.1 < 1000000000000000 ∧ m.2.2 ≤ 4) → BoxAt H' b → But b H H' → Q (.ref p) H'
theorem pick2 {a b : Int} {r : Int} {P : Int → Prop} (h0 : 0 ≤ r) (h1 : r < 2) (ha : P a) (hb : P b) : ∃ c : Int, atI [V.int a, V.int b] r = some (.int c) ∧ P c := by
  have : r = 0 ∨ r = 1 := by omega
  rcases this with rfl | rfl
  · exact ⟨_, rfl, ha⟩
  · exact ⟨_, rfl, hb⟩
theorem pick3 {a b c : Int} {r : Int} {P : Int → Prop} (h0 : 0 ≤ r) (h1 : r < 3) (ha : P a) (hb : P b) (hc : P c) : ∃ x : Int, atI [V.int a, V.int b, V.int c] r = some (.int x) ∧ P x := by
  have : r = 0 ∨ r = 1 ∨ r = 2 := by omega
  rcases this with rfl | rfl | rfl
  · exact ⟨_, rfl, ha⟩
  · exact ⟨_, rfl, hb⟩
  · exact ⟨_, rfl, hc⟩
theorem pick4 {a b c d : Int} {r : Int} {P : Int → Prop} (h0 : 0 ≤ r) (h1 : r < 4) (ha : P a) (hb : P b) (hc : P c) (hd : P d) : ∃ x : Int, atI [V.int a, V.int b, V.int c, V.int d] r = some (.int x) ∧ P x := by
  have : r = 0 ∨ r = 1 ∨ r = 2 ∨ r = 3 := by omega
  rcases this with rfl | rfl | rfl | rfl
  · exact ⟨_, rfl, ha⟩
  · exact ⟨_, rfl, hb⟩
  · exact ⟨_, rfl, hc⟩
  · exact ⟨_, rfl, hd⟩
theorem ok_law_marks (T : Top K mg) (F_law_take : Fn P w K mg base 1 "_law_take" ["_law_box_here", "_law_many"] spTake) : Fn P w K mg base 2 "_law_marks" ["_law_box_here"] (spMarks3 K) := by
  refine T.d_law_marks.ok sc_law_marks bi_law_marks (fun vs H Q E h => ?_) (fun f cdv A outer s H vs Q E hr h => ?_)
  · obtain ⟨b, rfl, hb, k⟩ := h; rfl
  · obtain ⟨b, rfl, hb, k⟩ := h
    refine ⟨_, (pss_cons (ps_set (i := 1) sc_law_marks.nd rfl (Or.inl rfl) (pe_ix ix_list (pe_lst (pa_cons (pe_fn F_law_take (hr.mono (by decide)) passL (pa_cons (pv 0) (pa_cons (pe_int) pa_nil))) (pa_cons (pe_fn F_law_take (hr.mono (by decide)) passL (pa_cons (pv 0) (pa_cons (pe_op op_pow (pe_int) (pe_int)) pa_nil))) pa_nil))) (pe_fn F_law_take (hr.mono (by decide)) passL (pa_cons (pv 0) (pa_cons (pe_int) pa_nil))) (fun _ _ => rfl)))
    (pss_cons (ps_set (i := 2) sc_law_marks.nd rfl (Or.inl rfl) (pe_lst pa_nil))
    (pss_cons (ps_for PassesOwn.never rfl (pi_range1 rfl T.n_range (pa_cons (pe_fn F_law_take (hr.mono (by decide)) passL (pa_cons (pv 0) (pa_cons (pe_int) pa_nil))) pa_nil)) (pg_name (i := 3) sc_law_marks.nd rfl (Or.inl rfl)) (pss_cons (ps_set (i := 4) sc_law_marks.nd rfl (Or.inl rfl) (pe_ix ix_list (pe_lst (pa_cons (pv 1) (pa_cons (pe_op op_add (pv 1) (pe_fn F_law_take (hr.mono (by decide)) passL (pa_cons (pv 0) (pa_cons (pe_int) pa_nil)))) (pa_cons (pe_fn F_law_take (hr.mono (by decide)) passL (pa_cons (pv 0) (pa_cons (pe_int) pa_nil))) (pa_cons (pe_fn F_law_take (hr.mono (by decide)) passL (pa_cons (pv 0) (pa_cons (pe_op op_pow (pe_int) (pe_int)) pa_nil))) pa_nil))))) (pe_fn F_law_take (hr.mono (by decide)) passL (pa_cons (pv 0) (pa_cons (pe_int) pa_nil))) (fun _ _ => rfl)))
    (pss_one (ps_expr (pe_bm PySem.F.plainAttrs_list PySem.F.slot_list_append PySem.F.type_list_append mt_append (pv 2) (pa_cons (pe_tup (pa_cons (pv 4) (pa_cons (pe_fn F_law_take (hr.mono (by decide)) passL (pa_cons (pv 0) (pa_cons (pe_ix ix_list (pe_lst (pa_cons (pe_int) (pa_cons (pe_int) pa_nil))) (pe_fn F_law_take (hr.mono (by decide)) passL (pa_cons (pv 0) (pa_cons (pe_int) pa_nil))) (fun _ _ => rfl)) pa_nil))) pa_nil))) pa_nil))))))
    (pss_one (ps_ret (pv 2)))))), ?_⟩
    walk_at "go"
    refine use_take hb (by decide) (by decide) fun r1 H1 r10 r11 b1 s1 => ?_
    walk_at "go"
    refine use_take b1 (by decide) (by decide) fun r2 H2 r20 r21 b2 s2 => ?_
    walk_at "go"
    refine ⟨sz (by simp), fun l hl => ?_⟩
    walk_at "go"
    refine use_take (b2.new hl) (by decide) (by decide) fun r3 H3 r30 r31 b3 s3 => ?_
    have z14 : (10 : Int) ^ Int.toNat 14 = 100000000000000 := by decide
    have z15 : (10 : Int) ^ Int.toNat 15 = 1000000000000000 := by decide
    obtain ⟨bs, hbs, bs0, bs1⟩ := pick2 (P := fun c => 0 ≤ c ∧ c < 100000000000000) r30 r31 (show 0 ≤ r1 ∧ r1 < _ by omega) (show 0 ≤ r2 ∧ r2 < _ by omega)
    refine s_ixL (SqL.of (s3 _ _ (b2.ne hl).symm upd_same)) hbs ?_
    walk_at "go"
    refine ⟨sz (by simp), fun p hp => ?_⟩
    have f3 : But b H H3 := ((s1.trans s2).new hl).trans s3
    have hpH : H p = none := by
      obtain ⟨_, _, _, _, e⟩ := b3
      exact f3.free e hp
    have npb : p ≠ b := (b3.ne hp).symm
    walk_at "go"
    refine use_take (b3.new hp) (by decide) (by decide) fun r4 H4 r40 r41 b4 s4 => ?_
    walk_at "go"
    have hp4 : H4 p = some (.lst []) := s4 _ _ npb upd_same
    refine ⟨by omega, by omega, for_range (lo := 0) (n := r4.toNat) (fun i σ' H' => ∃ v1 v2 ms, σ' = [some (.ref b), some (.int bs), some (.ref p), v1, v2] ∧ H' p = some (.lst (ms.map mref)) ∧ (∀ m ∈ ms, H' m.1 = some (.tup [.int m.2.1, .int m.2.2]) ∧ 0 ≤ m.2.1 ∧ m.2.1 < 1000000000000000 ∧ m.2.2 ≤ 4) ∧ ms.length = i ∧ BoxAt H' b ∧ But b H H') ⟨none, none, [], rfl, hp4, (fun _ h => nomatch h), rfl, b4, (f3.new hp).trans s4⟩ ?_ ?_⟩
    · rintro i σ' H' hi ⟨v1, v2, ms, rfl, hP, hT, hn, bx, fr⟩
      walk_at "go"
      refine use_take bx (by decide) (by decide) fun d1 G1 d10 d11 c1 t1 => ?_
      walk_at "go"
      refine use_take c1 (by decide) (by decide) fun d2 G2 d20 d21 c2 t2 => ?_
      walk_at "go"
      refine use_take c2 (by decide) (by decide) fun d3 G3 d30 d31 c3 t3 => ?_
      walk_at "go"
      refine ⟨sz (by simp), fun q hq => ?_⟩
      walk_at "go"
      refine use_take (c3.new hq) (by decide) (by decide) fun d4 G4 d40 d41 c4 t4 => ?_
      obtain ⟨ct, hct, ct0, ct1⟩ := pick4 (P := fun c => 0 ≤ c ∧ c < 1000000000000000) d40 d41 (show 0 ≤ bs ∧ bs < _ by omega) (show 0 ≤ bs + d1 ∧ bs + d1 < _ by omega) (show 0 ≤ d2 ∧ d2 < _ by omega) (show 0 ≤ d3 ∧ d3 < _ by omega)
      refine s_ixL (SqL.of (t4 _ _ (c3.ne hq).symm upd_same)) hct ?_
      walk_at "go"
      have g4 : But b H' G4 := ((t1.trans (t2.trans t3)).new hq).trans t4
      have hPg := g4 _ _ npb hP
      walk_at "go"
      refine ⟨sz (by simp), fun q2 hq2 => ?_⟩
      walk_at "go"
      refine use_take (c4.new hq2) (by decide) (by decide) fun d5 G5 d50 d51 c5 t5 => ?_
      obtain ⟨mm, hmm, mm0, mm1, mm2⟩ := pick2 (a := 1) (b := 5) (P := fun c => 0 < c ∧ c < 18446744073709551616 ∧ c ≤ 5) d50 d51 (by decide) (by decide)
      refine s_ixL (SqL.of (t5 _ _ (c4.ne hq2).symm upd_same)) hmm ?_
      walk_at "go"
      refine use_take c5 mm0 mm1 fun d6 G6 d60 d61 c6 t6 => ?_
      walk_at "go"
      refine ⟨sz (by simp), fun t ht => ?_⟩
      walk_at "go"
      have g6 : But b H' G6 := ((g4.new hq2).trans t5).trans t6
      have hp6 : (upd G6 t (.tup [.int ct, .int d6])) p = some (.lst (ms.map mref)) := by
        rw [upd_ne (ne_of_none (g6 _ _ npb hP) ht)]; exact g6 _ _ npb hP
      have npt : p ≠ t := ne_of_none (g6 _ _ npb hP) ht
      have nbt : b ≠ t := c6.ne ht
      refine s_app hp6 (by rw [List.length_map, sizeLine_eq]; omega) ?_
      refine ⟨_, _, ms ++ [(t, ct, d6)], rfl, by rw [upd_same, List.map_append]; rfl, ?_, by simp [hn], ?_, ?_⟩
      · intro m hm
        rcases List.mem_append.mp hm with hm | hm
        · obtain ⟨e1, e2⟩ := hT m hm
          have nm : m.1 ≠ b := fun z => by
            obtain ⟨_, _, _, _, e⟩ := bx
            rw [z, e] at e1; cases e1
          have nmp : m.1 ≠ p := fun z => by rw [z, hP] at e1; cases e1
          have := g6 _ _ nm e1
          refine ⟨?_, e2⟩
          rw [upd_ne nmp, upd_ne (ne_of_none this ht)]; exact this
        · simp only [List.mem_singleton] at hm
          subst hm
          exact ⟨by rw [upd_ne npt.symm, upd_same], ct0, ct1, by show d6 ≤ 4; omega⟩
      · obtain ⟨x0, x1, x2, x3, e⟩ := c6
        exact ⟨x0, x1, x2, x3, by rw [upd_ne npb.symm, upd_ne nbt]; exact e⟩
      · intro a o na e
        have nap : a ≠ p := fun z => by rw [z, hpH] at e; cases e
        rw [upd_ne nap]
        exact ((fr.trans g6).new ht) a o na e
    · rintro σ' H' ⟨v1, v2, ms, rfl, hP, hT, hn, bx, fr⟩
      walk_at "go"
      exact k p ms H' hpH ⟨SqL.of hP, fun m hm => ⟨SqT.of (hT m hm).1, (hT m hm).2.1⟩⟩ (by omega) (fun m hm => (hT m hm).2.2) bx fr
def spRight3 (K : PySem.W.Frag) : Sp := fun vs H Q _ => ∃ (p : Addr) (ms : List (Addr × Int × Int)) (n1 n2 : Int), vs = [.ref p, .int n1, .int n2] ∧ MarksAt K H p ms ∧ ms.length ≤ 6 ∧ (∀ m ∈ ms, m.2.1 < 1000000000000000 ∧ m.2.2 ≤ 4) ∧ 4 ≤ n1 ∧ n1 ≤ n2 ∧ ∀ H', Same H H' → Q (.bl true) H'
/-- the comprehension of both rows -/
theorem halv_row {m : Addr × Int × Int} {n : Int} (h : m.2.2 ≤ n) : m.2.1 / 2 ^ (n - m.2.2).toNat = worth m.2.1 m.2.2 n := rfl
theorem ok_law_right (T : Top K mg) (F_law_halved : Fn P w K mg base 1 "_law_halved" ["_law_count", "_law_times"] spHalved) (F_law_whole : Fn P w K mg base 1 "_law_whole" ["_law_found", "_law_due"] spWhole) (F_greatest_at : Fn P w K mg base 2 "greatest_at" ["marks", "era"] (spGreat K)) (F_worth_at : Fn P w K mg base 1 "worth_at" ["mark", "era"] (spWorth K)) : Fn P w K mg base 3 "_law_right" ["_law_marks_here", "_law_first", "_law_second"] (spRight3 K) := by
  refine T.d_law_right.ok sc_law_right bi_law_right (fun vs H Q E h => ?_) (fun f cdv A outer s H vs Q E hr h => ?_)
  · obtain ⟨p, ms, n1, n2, rfl, hM, hl, hb, h4, h12, k⟩ := h; rfl
  · obtain ⟨p, ms, n1, n2, rfl, hM, hl, hb, h4, h12, k⟩ := h
    refine ⟨_, (pss_cons (ps_setLc (i := 3) (own := [("_law_count", 4), ("_law_era", 5)]) (by rfl) sc_law_right.nd rfl rfl (sw_true rfl rfl rfl (by decide +kernel)) (pi_list (pv 0)) (blkOk_by (own := [("_law_count", 4), ("_law_era", 5)]) (N := ["_law_marks_here", "_law_first", "_law_second", "_law_ones", "_law_count", "_law_era", "_law_others", "_law_k", "_law_j", "_law_handed", "_law_found"]) (sc := defScope s_law_right) (by decide +kernel)) (by exact fun _ _ _ _ _ => (pg_tupK (n := 2) (K := K) rfl rfl (pgs_cons (pg_name (i := 4) sc_law_right.nd rfl (Or.inl rfl)) (pgs_cons (pg_name (i := 5) sc_law_right.nd rfl (Or.inl rfl)) pgs_nil)))) (fun _ _ _ _ _ => pts_nil) (fun _ _ _ _ _ => (pe_fn F_law_halved (hr.mono (by decide)) passL (pa_cons (pv 4) (pa_cons (pe_op op_sub (pv 1) (pv 5)) pa_nil)))))
    (pss_cons (ps_setLc (i := 6) (own := [("_law_count", 4), ("_law_era", 5)]) (by rfl) sc_law_right.nd rfl rfl (sw_true rfl rfl rfl (by decide +kernel)) (pi_list (pv 0)) (blkOk_by (own := [("_law_count", 4), ("_law_era", 5)]) (N := ["_law_marks_here", "_law_first", "_law_second", "_law_ones", "_law_count", "_law_era", "_law_others", "_law_k", "_law_j", "_law_handed", "_law_found"]) (sc := defScope s_law_right) (by decide +kernel)) (by exact fun _ _ _ _ _ => (pg_tupK (n := 2) (K := K) rfl rfl (pgs_cons (pg_name (i := 4) sc_law_right.nd rfl (Or.inl rfl)) (pgs_cons (pg_name (i := 5) sc_law_right.nd rfl (Or.inl rfl)) pgs_nil)))) (fun _ _ _ _ _ => pts_nil) (fun _ _ _ _ _ => (pe_fn F_law_halved (hr.mono (by decide)) passL (pa_cons (pv 4) (pa_cons (pe_op op_sub (pv 2) (pv 5)) pa_nil)))))
    (pss_cons (ps_for PassesOwn.never rfl (pi_range1 rfl T.n_range (pa_cons (pe_callB call_len_seq rfl T.n_len (by decide +kernel) (pa_cons (pv 0) pa_nil)) pa_nil)) (pg_name (i := 7) sc_law_right.nd rfl (Or.inl rfl)) (pss_cons (ps_if (PW.pt (pw_or (pt_cmpR op_ne (pe_fn F_worth_at (hr.mono (by decide)) passL (pa_cons (pe_ix ix_list (pv 0) (pv 7) (fun _ _ => rfl)) (pa_cons (pv 1) pa_nil))) (pe_ix ix_list (pv 3) (pv 7) (fun _ _ => rfl)) (nomark _)) (pw_or1 (pt_cmpR op_ne (pe_fn F_worth_at (hr.mono (by decide)) passL (pa_cons (pe_ix ix_list (pv 0) (pv 7) (fun _ _ => rfl)) (pa_cons (pv 2) pa_nil))) (pe_ix ix_list (pv 6) (pv 7) (fun _ _ => rfl)) (nomark _))))) (pss_one (ps_ret (pe_bl))) pss_nil)
    (pss_cons (ps_if (pt_cmpR op_ne (pe_fn F_worth_at (hr.mono (by decide)) passL (pa_cons (pe_tup (pa_cons (pe_ix ix_list (pv 3) (pv 7) (fun _ _ => rfl)) (pa_cons (pv 1) pa_nil))) (pa_cons (pv 2) pa_nil))) (pe_ix ix_list (pv 6) (pv 7) (fun _ _ => rfl)) (nomark _)) (pss_one (ps_ret (pe_bl))) pss_nil)
    (pss_one (ps_for PassesOwn.never rfl (pi_range1 rfl T.n_range (pa_cons (pe_callB call_len_seq rfl T.n_len (by decide +kernel) (pa_cons (pv 0) pa_nil)) pa_nil)) (pg_name (i := 8) sc_law_right.nd rfl (Or.inl rfl)) (pss_one (ps_if (PW.pt (pw_and (pt_cmpR op_le (pe_ix ix_list (pv 3) (pv 8) (fun _ _ => rfl)) (pe_ix ix_list (pv 3) (pv 7) (fun _ _ => rfl)) (nomark _)) (pw_and1 (pt_cmpR op_gt (pe_ix ix_list (pv 6) (pv 8) (fun _ _ => rfl)) (pe_ix ix_list (pv 6) (pv 7) (fun _ _ => rfl)) (nomark _))))) (pss_one (ps_ret (pe_bl))) pss_nil)))))))
    (pss_cons (ps_set (i := 9) sc_law_right.nd rfl (Or.inl rfl) (pe_callTy call_list_of rfl T.n_list (by decide +kernel) (pa_cons (pv 0) pa_nil)))
    (pss_cons (ps_set (i := 10) sc_law_right.nd rfl (Or.inl rfl) (pe_lst (pa_cons (pe_fn F_greatest_at (hr.mono (by decide)) passL (pa_cons (pv 9) (pa_cons (pv 1) pa_nil))) (pa_cons (pe_fn F_greatest_at (hr.mono (by decide)) passL (pa_cons (pv 9) (pa_cons (pv 2) pa_nil))) pa_nil))))
    (pss_cons (ps_if (pt_cmpR (op_eqD hr.units) (pv 0) (pe_lst pa_nil) (nomark _)) (pss_one (ps_ret (pe_cmpR (op_eqD hr.units) (pv 10) (pe_lst (pa_cons (pe_non) (pa_cons (pe_non) pa_nil))) (nomark _)))) pss_nil)
    (pss_cons (ps_if (PW.pt (pw_or (pt_not (pt_val (pe_fn F_law_whole (hr.mono (by decide)) passL (pa_cons (pe_ix ix_list (pv 10) (pe_int) (fun _ _ => rfl)) (pa_cons (pe_callB (cr_max rfl) rfl T.n_max (by decide +kernel) (pa_cons (pv 3) pa_nil)) pa_nil))))) (pw_or (pt_not (pt_val (pe_fn F_law_whole (hr.mono (by decide)) passL (pa_cons (pe_ix ix_list (pv 10) (pe_int) (fun _ _ => rfl)) (pa_cons (pe_callB (cr_max rfl) rfl T.n_max (by decide +kernel) (pa_cons (pv 6) pa_nil)) pa_nil))))) (pw_or1 (pt_cmpR (op_neD hr.units) (pv 9) (pv 0) (nomark _)))))) (pss_one (ps_ret (pe_bl))) pss_nil)
    (pss_one (ps_ret (pe_cmpR op_eq (pe_fn F_worth_at (hr.mono (by decide)) passL (pa_cons (pe_tup (pa_cons (pe_ix ix_list (pv 10) (pe_int) (fun _ _ => rfl)) (pa_cons (pv 1) pa_nil))) (pa_cons (pv 2) pa_nil))) (pe_ix ix_list (pv 10) (pe_int) (fun _ _ => rfl)) (nomark _))))))))))), ?_⟩
    walk_at "go"
    refine ⟨⟨_, hM.seq⟩, fun D hD => ?_⟩
    refine lc_list (xs := ms.map mref) (PvV (resM ms fun m => .int (worth m.2.1 m.2.2 n1)) _ D) (lc_begin hD resM_0) (fun i H' _ p => p.1.seq hM.seq) ?_ ?_
    · intro i x H' hi pv
      obtain ⟨m, hm, rfl⟩ := map_get hi
      obtain ⟨ht, h0⟩ := (hM.same pv.1).tup m (List.mem_of_getElem? hm)
      obtain ⟨hc, he⟩ := hb m (List.mem_of_getElem? hm)
      unfold mref
      walk_at "go"
      refine ⟨rfl, ?_⟩
      walk_at "go"
      refine ⟨_, _, rfl, h0, hc, by omega, ?_⟩
      exact lc_put pv hD (Same.refl _) (resM_s hm) (resM_len (by omega))
    intro H1 pv1
    rw [List.length_map] at pv1
    have hO1 : H1 D = some (.lst ((ms.map fun m => worth m.2.1 m.2.2 n1).map V.int)) := by
      rw [pv1.2, resM_all rfl, List.map_map]; rfl
    have sM1 := hM.same pv1.1
    walk_at "go"
    refine ⟨⟨_, sM1.seq⟩, fun D2 hD2 => ?_⟩
    refine lc_list (xs := ms.map mref) (PvV (resM ms fun m => .int (worth m.2.1 m.2.2 n2)) _ D2) (lc_begin hD2 resM_0) (fun i H' _ p => p.1.seq sM1.seq) ?_ ?_
    · intro i x H' hi pv
      obtain ⟨m, hm, rfl⟩ := map_get hi
      obtain ⟨ht, h0⟩ := (sM1.same pv.1).tup m (List.mem_of_getElem? hm)
      obtain ⟨hc, he⟩ := hb m (List.mem_of_getElem? hm)
      unfold mref
      walk_at "go"
      refine ⟨rfl, ?_⟩
      walk_at "go"
      refine ⟨_, _, rfl, h0, hc, by omega, ?_⟩
      exact lc_put pv hD2 (Same.refl _) (resM_s hm) (resM_len (by omega))
    intro H2 pv2
    rw [List.length_map] at pv2
    have hO2 : H2 D2 = some (.lst ((ms.map fun m => worth m.2.1 m.2.2 n2).map V.int)) := by
      rw [pv2.2, resM_all rfl, List.map_map]; rfl
    have sM2 := sM1.same pv2.1
    have hO1' := pv2.1 _ _ hO1
    have s2 : Same H H2 := pv1.1.trans pv2.1
    walk_at "go"
    refine ⟨_, _, rfl, .inl sM2.seq, ?_⟩
    rw [List.length_map]
    walk_at "go"
    have w12 : ∀ m ∈ ms, worth (worth m.2.1 m.2.2 n1) n1 n2 = worth m.2.1 m.2.2 n2 := fun m hm => worth_worth (by have := (hb m hm).2; omega) h12
    refine ⟨by omega, by omega, for_range (lo := 0) (n := ((ms.length : Nat) : Int).toNat) (fun i σ' H' => ∃ v7 v8, σ' = [some (.ref p), some (.int n1), some (.int n2), some (.ref D), none, none, some (.ref D2), v7, v8, none, none] ∧ Same H2 H') ⟨none, none, rfl, Same.refl _⟩ ?_ ?_⟩
    · rintro i σ' H' hi ⟨v7, v8, rfl, sq⟩
      have hi' : i < ms.length := by omega
      have hm : ms[i] ∈ ms := List.getElem_mem hi'
      have M := sM2.same sq
      obtain ⟨ht, h0⟩ := M.tup _ hm
      have e1 := sq _ _ hO1'
      have e2 := sq _ _ hO2
      have i0 : atI (ms.map mref) (0 + (i : Int)) = some (.ref ms[i].1) := by rw [Int.zero_add]; exact atI_nat (by simp [hi', mref])
      have i1 : atI ((ms.map fun m => worth m.2.1 m.2.2 n1).map V.int) (0 + (i : Int)) = some (.int (worth ms[i].2.1 ms[i].2.2 n1)) := by rw [Int.zero_add]; exact atI_nat (by simp [hi'])
      have i2 : atI ((ms.map fun m => worth m.2.1 m.2.2 n2).map V.int) (0 + (i : Int)) = some (.int (worth ms[i].2.1 ms[i].2.2 n2)) := by rw [Int.zero_add]; exact atI_nat (by simp [hi'])
      walk_at "go"
      refine s_ixL M.seq i0 ?_
      walk_at "go"
      refine ⟨_, _, _, _, rfl, ht, h0, ?_⟩
      walk_at "go"
      refine s_ixL (SqL.of e1) i1 ?_
      walk_at "go"
      refine dF (fun h => absurd rfl h) (fun _ => ?_)
      walk_at "go"
      refine s_ixL M.seq i0 ?_
      walk_at "go"
      refine ⟨_, _, _, _, rfl, ht, h0, ?_⟩
      walk_at "go"
      refine s_ixL (SqL.of e2) i2 ?_
      walk_at "go"
      refine dF (fun h => absurd rfl h) (fun _ => ?_)
      walk_at "go"
      refine s_ixL (SqL.of e1) i1 ?_
      walk_at "go"
      refine ⟨sz (by simp), fun t ht2 => ?_⟩
      walk_at "go"
      refine ⟨t, _, _, _, rfl, SqT.of upd_same, worth_nonneg h0, ?_⟩
      rw [w12 _ hm]
      have sq2 : Same H2 (upd H' t (.tup [.int (worth ms[i].2.1 ms[i].2.2 n1), .int n1])) := Same.new sq ht2
      generalize (upd H' t (.tup [.int (worth ms[i].2.1 ms[i].2.2 n1), .int n1])) = G at sq2 ⊢
      have M2 := sM2.same sq2
      have g1 := sq2 _ _ hO1'
      have g2 := sq2 _ _ hO2
      walk_at "go"
      refine s_ixL (SqL.of g2) i2 ?_
      walk_at "go"
      refine dF (fun h => absurd rfl h) (fun _ => ?_)
      walk_at "go"
      refine ⟨_, _, rfl, .inl M2.seq, ?_⟩
      rw [List.length_map]
      walk_at "go"
      refine ⟨by omega, by omega, for_range (lo := 0) (n := ((ms.length : Nat) : Int).toNat) (fun j σ' H' => ∃ v8, σ' = [some (.ref p), some (.int n1), some (.int n2), some (.ref D), none, none, some (.ref D2), some (.int (0 + (i : Int))), v8, none, none] ∧ H' = G) ⟨v8, rfl, rfl⟩ ?_ ?_⟩
      · rintro j σ' H' hj ⟨v8, rfl, rfl⟩
        have hj' : j < ms.length := by omega
        have hmj : ms[j] ∈ ms := List.getElem_mem hj'
        have j1 : atI ((ms.map fun m => worth m.2.1 m.2.2 n1).map V.int) (0 + (j : Int)) = some (.int (worth ms[j].2.1 ms[j].2.2 n1)) := by rw [Int.zero_add]; exact atI_nat (by simp [hj'])
        have j2 : atI ((ms.map fun m => worth m.2.1 m.2.2 n2).map V.int) (0 + (j : Int)) = some (.int (worth ms[j].2.1 ms[j].2.2 n2)) := by rw [Int.zero_add]; exact atI_nat (by simp [hj'])
        walk_at "go"
        refine s_ixL (SqL.of g1) j1 ?_
        walk_at "go"
        refine s_ixL (SqL.of g1) i1 ?_
        walk_at "go"
        refine dT (fun hc => ?_) (fun hc => ?_)
        · walk_at "go"
          refine s_ixL (SqL.of g2) j2 ?_
          walk_at "go"
          refine s_ixL (SqL.of g2) i2 ?_
          walk_at "go"
          refine dT (fun hd => ?_) (fun hd => ?_)
          · exfalso
            rw [← w12 _ hm, ← w12 _ hmj] at hd
            have := worth_mono (e := n1) (n := n2) hc
            omega
          · walk_at "go"
            exact ⟨_, rfl, rfl⟩
        · walk_at "go"
          exact ⟨_, rfl, rfl⟩
      · rintro σ' H' ⟨v8, rfl, rfl⟩
        walk_at "go"
        exact ⟨_, _, rfl, sq2⟩
    rintro σ' H3 ⟨v7, v8, rfl, sq⟩
    have M := sM2.same sq
    have e1 := sq _ _ hO1'
    have e2 := sq _ _ hO2
    walk_at "go"
    refine ⟨_, _, rfl, .inl M.seq, fun hd nhd => ?_⟩
    have sq2 : Same H2 (upd H3 hd (.lst (ms.map mref))) := Same.new sq nhd
    have Mh : MarksAt K (upd H3 hd (.lst (ms.map mref))) hd ms := ⟨SqL.of upd_same, fun m hm => ((sM2.same sq2).tup m hm)⟩
    walk_at "go"
    by_cases e : ms = []
    · have no : ∀ m ∈ ms, False := by subst e; exact fun _ h => nomatch h
      refine ⟨hd, ms, n1, rfl, Mh, by omega, fun _ H4 s4 => ?_, fun g H' _ ⟨m, hm, _⟩ _ => (no m hm).elim⟩
      walk_at "go"
      refine ⟨hd, ms, n2, rfl, Mh.same s4, by omega, fun _ H5 s5 => ?_, fun g H' _ ⟨m, hm, _⟩ _ => (no m hm).elim⟩
      walk_at "go"
      refine ⟨sz (by simp), fun fo nfo => ?_⟩
      have sq3 : Same H2 (upd H5 fo (.lst [.non, .non])) := Same.new ((sq2.trans s4).trans s5) nfo
      have hfo : (upd H5 fo (.lst [.non, .non])) fo = some (.lst [.non, .non]) := upd_same
      generalize (upd H5 fo (.lst [.non, .non])) = G at sq3 hfo ⊢
      walk_at "go"
      refine ⟨sz (by simp), fun em nem => ?_⟩
      have sq4 : Same G (upd G em (.lst [])) := Same.new (Same.refl _) nem
      refine s_eqD (sM2.same (sq3.trans sq4)).data (.lst (SqL.of upd_same) .nil) (shaped_of (ok_marks ms)) rfl ?_
      rw [show PyData.eqv (dMarks ms) (.list []) = true by subst e; rfl]
      walk_at "go"
      refine ⟨sz (by simp), fun nn nnn => ?_⟩
      have sq5 : Same G (upd (upd G em (.lst [])) nn (.lst [.non, .non])) := Same.new sq4 nnn
      refine s_eqD (d := .list [.none, .none]) (e := .list [.none, .none]) (.lst (SqL.of (sq5 _ _ hfo)) (.cons .non (.cons .non .nil))) (.lst (SqL.of upd_same) (.cons .non (.cons .non .nil))) (shaped_of (n := 1) (by rfl)) (shaped_of (n := 1) (by rfl)) ?_
      rw [show PyData.eqv (.list [.none, .none]) (.list [.none, .none]) = true from rfl]
      exact k _ ((s2.trans sq3).trans sq5)
    · refine ⟨hd, ms, n1, rfl, Mh, by omega, fun h => absurd h e, fun g1 H4 s4 ⟨m1, hm1, em1⟩ le1 => ?_⟩
      walk_at "go"
      refine ⟨hd, ms, n2, rfl, Mh.same s4, by omega, fun h => absurd h e, fun g2 H5 s5 ⟨m2, hm2, em2⟩ le2 => ?_⟩
      walk_at "go"
      refine ⟨sz (by simp), fun fo nfo => ?_⟩
      have sq3 : Same H2 (upd H5 fo (.lst [.int g1, .int g2])) := Same.new ((sq2.trans s4).trans s5) nfo
      have hfo : (upd H5 fo (.lst [.int g1, .int g2])) fo = some (.lst [.int g1, .int g2]) := upd_same
      have Mh3 : MarksAt K (upd H5 fo (.lst [.int g1, .int g2])) hd ms := Mh.same (Same.new (s4.trans s5) nfo)
      generalize (upd H5 fo (.lst [.int g1, .int g2])) = G at sq3 hfo Mh3 ⊢
      walk_at "go"
      refine ⟨sz (by simp), fun em nem => ?_⟩
      have sq4 : Same G (upd G em (.lst [])) := Same.new (Same.refl _) nem
      refine s_eqD (sM2.same (sq3.trans sq4)).data (.lst (SqL.of upd_same) .nil) (shaped_of (ok_marks ms)) rfl ?_
      rw [show PyData.eqv (dMarks ms) (.list []) = false by cases ms with
        | nil => exact absurd rfl e
        | cons _ _ => rfl]
      have hfo4 := sq4 _ _ hfo
      have h14 := sq4 _ _ (sq3 _ _ hO1')
      have h24 := sq4 _ _ (sq3 _ _ hO2)
      have Mh4 := Mh3.same sq4
      have M4 := sM2.same (sq3.trans sq4)
      have sq34 := sq3.trans sq4
      generalize (upd G em (.lst [])) = G2 at sq34 hfo4 h14 h24 Mh4 M4 ⊢
      have pos : 0 < (ms.map fun m => worth m.2.1 m.2.2 n1).length ∧ 0 < (ms.map fun m => worth m.2.1 m.2.2 n2).length := by
        cases ms with
        | nil => exact absurd rfl e
        | cons _ _ => simp
      walk_at "go"
      refine ⟨D, _, rfl, SqL.of h14, pos.1, fun x1 hx1 lx1 => ?_⟩
      have ex1 : g1 = x1 := by
        obtain ⟨m, hm, rfl⟩ := List.mem_map.mp hx1
        have a1 := le1 m hm
        have a2 := lx1 g1 (by rw [em1]; exact List.mem_map.mpr ⟨m1, hm1, rfl⟩)
        omega
      subst ex1
      walk_at "go"
      refine ⟨_, _, rfl, ?_⟩
      rw [decide_eq_true rfl]
      walk_at "go"
      refine ⟨D2, _, rfl, SqL.of h24, pos.2, fun x2 hx2 lx2 => ?_⟩
      have ex2 : g2 = x2 := by
        obtain ⟨m, hm, rfl⟩ := List.mem_map.mp hx2
        have a1 := le2 m hm
        have a2 := lx2 g2 (by rw [em2]; exact List.mem_map.mpr ⟨m2, hm2, rfl⟩)
        omega
      subst ex2
      walk_at "go"
      refine ⟨_, _, rfl, ?_⟩
      rw [decide_eq_true rfl]
      walk_at "go"
      refine s_neD Mh4.data M4.data (shaped_of (ok_marks ms)) (shaped_of (ok_marks ms)) ?_
      rw [eqv_same (ok_marks ms)]
      walk_at "go"
      refine ⟨sz (by simp), fun t nt => ?_⟩
      walk_at "go"
      have g10 : 0 ≤ g1 := by rw [em1]; exact worth_nonneg (hM.tup _ hm1).2
      have eg : worth g1 n1 n2 = g2 := by
        have a1 : worth g1 n1 n2 ≤ g2 := by rw [em1, w12 _ hm1]; exact le2 _ hm1
        have a2 : g2 ≤ worth g1 n1 n2 := by rw [em2, ← w12 _ hm2]; exact worth_mono (le1 _ hm2)
        omega
      refine ⟨t, g1, n1, n2, rfl, SqT.of upd_same, g10, ?_⟩
      have hfo5 : (upd G2 t (.tup [.int g1, .int n1])) fo = some (.lst [.int g1, .int g2]) := by rw [upd_ne (ne_of_none hfo4 nt)]; exact hfo4
      walk_at "go"
      rw [eg, decide_eq_true rfl]
      exact k _ (Same.new (s2.trans sq34) nt)
/-- law's: a list of at most 63 ints is handed in, True comes out -/
def spLaw (K : PySem.W.Frag) : Sp := fun vs H Q _ => ∃ (a : Addr) (ns : List Int), vs = [.ref a] ∧ SqL K H a (ns.map V.int) ∧ ns.length ≤ 63 ∧ ∀ H', Q (.bl true) H'
theorem okF_law {fa : Addr} {fd : FuncData} (T : Top K mg) (F : Fun K "law" "law" s_law fa fd) (F_law_box : Fn P w K mg base 1 "_law_box" ["_law_cell"] spBox) (F_law_cell_at : Fn P w K mg base 1 "_law_cell_at" ["_law_script", "_law_k"] (spCell K)) (F_law_marks : Fn P w K mg base 2 "_law_marks" ["_law_box_here"] (spMarks3 K)) (F_law_right : Fn P w K mg base 3 "_law_right" ["_law_marks_here", "_law_first", "_law_second"] (spRight3 K)) (F_law_take : Fn P w K mg base 1 "_law_take" ["_law_box_here", "_law_many"] spTake) : FnOk P w K mg base (L2.CX P w) 4 fa fd ["_law_script"] (spLaw K) := by
  refine F.okX sc_law (fun vs H Q E h => ?_) (fun cdv A outer s H vs Q E hr h => ?_)
  · obtain ⟨a, ns, rfl, hS, hl, k⟩ := h; rfl
  · obtain ⟨a, ns, rfl, hS, hl, k⟩ := h
    refine ⟨_, PSs.nox ((pss_cons (ps_for PassesOwn.never rfl (pi_list (pe_op op_cat (pe_lst (pa_cons (pe_fn F_law_cell_at (hr.mono (by decide)) passL (pa_cons (pv 0) (pa_cons (pe_int) pa_nil))) pa_nil)) (pe_slice sl_list (pv 0) (po_some (pe_int)) (po_some (pe_int))))) (pg_name (i := 1) sc_law.nd rfl (Or.inl rfl)) (pss_cons (ps_set (i := 2) sc_law.nd rfl (Or.inl rfl) (pe_fn F_law_box (hr.mono (by decide)) passL (pa_cons (pv 1) pa_nil)))
    (pss_cons (ps_set (i := 3) sc_law.nd rfl (Or.inl rfl) (pe_fn F_law_marks (hr.mono (by decide)) passL (pa_cons (pv 2) pa_nil)))
    (pss_cons (ps_set (i := 4) sc_law.nd rfl (Or.inl rfl) (pe_op op_add (pe_int) (pe_fn F_law_take (hr.mono (by decide)) passL (pa_cons (pv 2) (pa_cons (pe_ix ix_list (pe_lst (pa_cons (pe_int) (pa_cons (pe_int) (pa_cons (pe_op op_pow (pe_int) (pe_int)) pa_nil)))) (pe_fn F_law_take (hr.mono (by decide)) passL (pa_cons (pv 2) (pa_cons (pe_int) pa_nil))) (fun _ _ => rfl)) pa_nil)))))
    (pss_one (ps_if (pt_not (pt_val (pe_fn F_law_right (hr.mono (by decide)) passL (pa_cons (pv 3) (pa_cons (pv 4) (pa_cons (pe_op op_add (pv 4) (pe_fn F_law_take (hr.mono (by decide)) passL (pa_cons (pv 2) (pa_cons (pe_ix ix_list (pe_lst (pa_cons (pe_int) (pa_cons (pe_int) (pa_cons (pe_op op_pow (pe_int) (pe_int)) pa_nil)))) (pe_fn F_law_take (hr.mono (by decide)) passL (pa_cons (pv 2) (pa_cons (pe_int) pa_nil))) (fun _ _ => rfl)) pa_nil)))) pa_nil)))))) (pss_one (ps_ret (pe_bl))) pss_nil))))))
    (pss_one (ps_ret (pe_bl))))), ?_⟩
    walk_at "go"
    refine ⟨a, ns, 0, rfl, hS, by omega, fun r => ?_⟩
    walk_at "go"
    refine ⟨sz (by simp), fun p hp => ?_⟩
    have hS1 : SqL _ (upd H p (.lst [.int r])) a (ns.map V.int) := sql_new hS hp
    walk_at "go"
    intro q hq
    obtain ⟨ms, em, lm⟩ := cutV_ints ns (some 1) (some 8)
    rw [em]
    have npq := ne_of_none (show (upd H p (.lst [.int r])) p = _ from upd_same) hq
    refine ⟨p, q, [.int r], ms.map V.int, rfl, rfl, by walk_at "hp", upd_same, sz (by simp; omega), fun l hL => ?_⟩
    walk_at "go"
    rw [show ([V.int r] ++ ms.map V.int) = (r :: ms).map V.int from rfl]
    generalize hG : upd (upd (upd H p (.lst [.int r])) q (.lst (ms.map V.int))) l (.lst ((r :: ms).map V.int)) = G
    have hl : G l = some (.lst ((r :: ms).map V.int)) := by rw [← hG]; exact upd_same
    refine ⟨⟨_, SqL.of hl⟩, for_list (xs := (r :: ms).map V.int) (fun i σ' H' => ∃ v1 v2 v3 v4, σ' = [some (.ref a), v1, v2, v3, v4] ∧ Same G H') ⟨_, _, _, _, rfl, Same.refl _⟩ (fun i σ' H' _ h => by obtain ⟨_, _, _, _, _, s⟩ := h; exact SqL.of (s _ _ hl)) ?_ ?_⟩
    · rintro i x σ' H' hi ⟨v1, v2, v3, v4, rfl, s1⟩
      obtain ⟨n, hn, rfl⟩ := ints_get hi
      walk_at "go"
      refine ⟨n, rfl, fun b H1 hb s2 hB => ?_⟩
      walk_at "go"
      refine ⟨b, rfl, hB, fun p0 mk H2 np hM lM bM hB2 s3 => ?_⟩
      have nG : G b = none := s1.free hb
      have f2 : Same G H2 := s3.same (s1.trans s2) nG
      walk_at "go"
      refine ⟨sz (by simp), fun q1 nq1 => ?_⟩
      have z9 : (10 : Int) ^ Int.toNat 9 = 1000000000 := by decide
      walk_at "go"
      refine use_take (hB2.new nq1) (by decide) (by decide) fun d1 H3 d10 d11 hB3 s4 => ?_
      obtain ⟨m1, hm1, m10, m11⟩ := pick3 (a := 3) (b := 60) (c := 10 ^ Int.toNat 9) (P := fun c => 0 < c ∧ c < 18446744073709551616) d10 d11 (by decide) (by decide) (by decide)
      refine s_ixL (SqL.of (s4 _ _ (hB2.ne nq1).symm upd_same)) hm1 ?_
      walk_at "go"
      refine use_take hB3 m10 m11 fun d2 H4 d20 d21 hB4 s5 => ?_
      walk_at "go"
      refine ⟨sz (by simp), fun q2 nq2 => ?_⟩
      walk_at "go"
      refine use_take (hB4.new nq2) (by decide) (by decide) fun d3 H5 d30 d31 hB5 s6 => ?_
      obtain ⟨m2, hm2, m20, m21⟩ := pick3 (a := 3) (b := 60) (c := 10 ^ Int.toNat 9) (P := fun c => 0 < c ∧ c < 18446744073709551616) d30 d31 (by decide) (by decide) (by decide)
      refine s_ixL (SqL.of (s6 _ _ (hB4.ne nq2).symm upd_same)) hm2 ?_
      walk_at "go"
      refine use_take hB5 m20 m21 fun d4 H6 d40 d41 hB6 s7 => ?_
      walk_at "go"
      have b26 : But b H2 H6 := ((((But.refl.new nq1).trans s4).trans s5).new nq2).trans (s6.trans s7)
      have npb : p0 ≠ b := fun z => by
        obtain ⟨_, _, _, _, e⟩ := hB
        rw [z, e] at np; cases np
      have hM6 : MarksAt K H6 p0 mk := ⟨b26.sql npb hM.seq, fun m hm => by
        obtain ⟨ht, h0⟩ := hM.tup m hm
        refine ⟨?_, h0⟩
        rcases ht with (ht | ⟨o, ht⟩) | ht
        · exact .inl (.inl (b26 _ _ (fun z => by obtain ⟨_, _, _, _, e⟩ := hB2; rw [z, e] at ht; cases ht) ht))
        · exact .inl (.inr ⟨o, b26 _ _ (fun z => by obtain ⟨_, _, _, _, e⟩ := hB2; rw [z, e] at ht; cases ht) ht⟩)
        · exact .inr ht⟩
      refine ⟨p0, mk, 4 + d2, 4 + d2 + d4, rfl, hM6, lM, bM, by omega, by omega, fun H7 s8 => ?_⟩
      walk_at "go"
      exact ⟨_, _, _, _, rfl, (b26.same f2 nG).trans s8⟩
    · rintro σ' H' ⟨v1, v2, v3, v4, rfl, s1⟩
      walk_at "go"
      exact k _
end
theorem all_mk {l : PySem.W.OpenLaw} {w : World} {K : PySem.W.Frag} {h : Heap} {mg : Str → Option Value} {fa : Addr} (X : K.In h) (G : h.Ns mainGlobals mg) (hfa : mg "law" = some (.ref fa))
    {f_worth_at : Addr} {od_worth_at an_worth_at : Option Addr} {sl_worth_at : Array (Option Value)} {oc_worth_at kV_worth_at dc_worth_at pm_worth_at cd_worth_at ct_worth_at : Value} {f_greatest_at : Addr} {od_greatest_at an_greatest_at : Option Addr} {sl_greatest_at : Array (Option Value)} {oc_greatest_at kV_greatest_at dc_greatest_at pm_greatest_at cd_greatest_at ct_greatest_at : Value} {f_law_cell_at : Addr} {od_law_cell_at an_law_cell_at : Option Addr} {sl_law_cell_at : Array (Option Value)} {oc_law_cell_at kV_law_cell_at dc_law_cell_at pm_law_cell_at cd_law_cell_at ct_law_cell_at : Value} {f_law_box : Addr} {od_law_box an_law_box : Option Addr} {sl_law_box : Array (Option Value)} {oc_law_box kV_law_box dc_law_box pm_law_box cd_law_box ct_law_box : Value} {f_law_take : Addr} {od_law_take an_law_take : Option Addr} {sl_law_take : Array (Option Value)} {oc_law_take kV_law_take dc_law_take pm_law_take cd_law_take ct_law_take : Value} {f_law_whole : Addr} {od_law_whole an_law_whole : Option Addr} {sl_law_whole : Array (Option Value)} {oc_law_whole kV_law_whole dc_law_whole pm_law_whole cd_law_whole ct_law_whole : Value} {f_law_halved : Addr} {od_law_halved an_law_halved : Option Addr} {sl_law_halved : Array (Option Value)} {oc_law_halved kV_law_halved dc_law_halved pm_law_halved cd_law_halved ct_law_halved : Value} {f_law_marks : Addr} {od_law_marks an_law_marks : Option Addr} {sl_law_marks : Array (Option Value)} {oc_law_marks kV_law_marks dc_law_marks pm_law_marks cd_law_marks ct_law_marks : Value} {f_law_right : Addr} {od_law_right an_law_right : Option Addr} {sl_law_right : Array (Option Value)} {oc_law_right kV_law_right dc_law_right pm_law_right cd_law_right ct_law_right : Value} {f_law : Addr} {od_law an_law : Option Addr} {sl_law : Array (Option Value)} {oc_law kV_law dc_law pm_law cd_law ct_law : Value}
    (a_worth_at : PySem.W.nsIn K mainGlobals "worth_at" = some (some (.ref f_worth_at)))
    (l_worth_at : K.lookup f_worth_at = some ⟨oc_worth_at, od_worth_at, .func (PySem.W.fnOf "worth_at" "worth_at" (defArgs s_worth_at) (defBody s_worth_at) (defScope s_worth_at) .none kV_worth_at dc_worth_at pm_worth_at an_worth_at cd_worth_at ct_worth_at), sl_worth_at⟩)
    (q_worth_at : PySem.W.codeIn K cd_worth_at "worth_at" = true)
    (k_worth_at : PySem.W.keepIn K (.ref f_worth_at) = true)
    (a_greatest_at : PySem.W.nsIn K mainGlobals "greatest_at" = some (some (.ref f_greatest_at)))
    (l_greatest_at : K.lookup f_greatest_at = some ⟨oc_greatest_at, od_greatest_at, .func (PySem.W.fnOf "greatest_at" "greatest_at" (defArgs s_greatest_at) (defBody s_greatest_at) (defScope s_greatest_at) .none kV_greatest_at dc_greatest_at pm_greatest_at an_greatest_at cd_greatest_at ct_greatest_at), sl_greatest_at⟩)
    (q_greatest_at : PySem.W.codeIn K cd_greatest_at "greatest_at" = true)
    (k_greatest_at : PySem.W.keepIn K (.ref f_greatest_at) = true)
    (a_law_cell_at : PySem.W.nsIn K mainGlobals "_law_cell_at" = some (some (.ref f_law_cell_at)))
    (l_law_cell_at : K.lookup f_law_cell_at = some ⟨oc_law_cell_at, od_law_cell_at, .func (PySem.W.fnOf "_law_cell_at" "_law_cell_at" (defArgs s_law_cell_at) (defBody s_law_cell_at) (defScope s_law_cell_at) .none kV_law_cell_at dc_law_cell_at pm_law_cell_at an_law_cell_at cd_law_cell_at ct_law_cell_at), sl_law_cell_at⟩)
    (q_law_cell_at : PySem.W.codeIn K cd_law_cell_at "_law_cell_at" = true)
    (k_law_cell_at : PySem.W.keepIn K (.ref f_law_cell_at) = true)
    (a_law_box : PySem.W.nsIn K mainGlobals "_law_box" = some (some (.ref f_law_box)))
    (l_law_box : K.lookup f_law_box = some ⟨oc_law_box, od_law_box, .func (PySem.W.fnOf "_law_box" "_law_box" (defArgs s_law_box) (defBody s_law_box) (defScope s_law_box) .none kV_law_box dc_law_box pm_law_box an_law_box cd_law_box ct_law_box), sl_law_box⟩)
    (q_law_box : PySem.W.codeIn K cd_law_box "_law_box" = true)
    (k_law_box : PySem.W.keepIn K (.ref f_law_box) = true)
    (a_law_take : PySem.W.nsIn K mainGlobals "_law_take" = some (some (.ref f_law_take)))
    (l_law_take : K.lookup f_law_take = some ⟨oc_law_take, od_law_take, .func (PySem.W.fnOf "_law_take" "_law_take" (defArgs s_law_take) (defBody s_law_take) (defScope s_law_take) .none kV_law_take dc_law_take pm_law_take an_law_take cd_law_take ct_law_take), sl_law_take⟩)
    (q_law_take : PySem.W.codeIn K cd_law_take "_law_take" = true)
    (k_law_take : PySem.W.keepIn K (.ref f_law_take) = true)
    (a_law_whole : PySem.W.nsIn K mainGlobals "_law_whole" = some (some (.ref f_law_whole)))
    (l_law_whole : K.lookup f_law_whole = some ⟨oc_law_whole, od_law_whole, .func (PySem.W.fnOf "_law_whole" "_law_whole" (defArgs s_law_whole) (defBody s_law_whole) (defScope s_law_whole) .none kV_law_whole dc_law_whole pm_law_whole an_law_whole cd_law_whole ct_law_whole), sl_law_whole⟩)
    (q_law_whole : PySem.W.codeIn K cd_law_whole "_law_whole" = true)
    (k_law_whole : PySem.W.keepIn K (.ref f_law_whole) = true)
    (a_law_halved : PySem.W.nsIn K mainGlobals "_law_halved" = some (some (.ref f_law_halved)))
    (l_law_halved : K.lookup f_law_halved = some ⟨oc_law_halved, od_law_halved, .func (PySem.W.fnOf "_law_halved" "_law_halved" (defArgs s_law_halved) (defBody s_law_halved) (defScope s_law_halved) .none kV_law_halved dc_law_halved pm_law_halved an_law_halved cd_law_halved ct_law_halved), sl_law_halved⟩)
    (q_law_halved : PySem.W.codeIn K cd_law_halved "_law_halved" = true)
    (k_law_halved : PySem.W.keepIn K (.ref f_law_halved) = true)
    (a_law_marks : PySem.W.nsIn K mainGlobals "_law_marks" = some (some (.ref f_law_marks)))
    (l_law_marks : K.lookup f_law_marks = some ⟨oc_law_marks, od_law_marks, .func (PySem.W.fnOf "_law_marks" "_law_marks" (defArgs s_law_marks) (defBody s_law_marks) (defScope s_law_marks) .none kV_law_marks dc_law_marks pm_law_marks an_law_marks cd_law_marks ct_law_marks), sl_law_marks⟩)
    (q_law_marks : PySem.W.codeIn K cd_law_marks "_law_marks" = true)
    (k_law_marks : PySem.W.keepIn K (.ref f_law_marks) = true)
    (a_law_right : PySem.W.nsIn K mainGlobals "_law_right" = some (some (.ref f_law_right)))
    (l_law_right : K.lookup f_law_right = some ⟨oc_law_right, od_law_right, .func (PySem.W.fnOf "_law_right" "_law_right" (defArgs s_law_right) (defBody s_law_right) (defScope s_law_right) .none kV_law_right dc_law_right pm_law_right an_law_right cd_law_right ct_law_right), sl_law_right⟩)
    (q_law_right : PySem.W.codeIn K cd_law_right "_law_right" = true)
    (k_law_right : PySem.W.keepIn K (.ref f_law_right) = true)
    (a_law : PySem.W.nsIn K mainGlobals "law" = some (some (.ref f_law)))
    (l_law : K.lookup f_law = some ⟨oc_law, od_law, .func (PySem.W.fnOf "law" "law" (defArgs s_law) (defBody s_law) (defScope s_law) .none kV_law dc_law pm_law an_law cd_law ct_law), sl_law⟩)
    (q_law : PySem.W.codeIn K cd_law "law" = true)
    (k_law : PySem.W.keepIn K (.ref f_law) = true)
    (z_bool : PySem.W.nsIn K mainGlobals "bool" = some none)
    (z_int : PySem.W.nsIn K mainGlobals "int" = some none)
    (z_isinstance : PySem.W.nsIn K mainGlobals "isinstance" = some none)
    (z_len : PySem.W.nsIn K mainGlobals "len" = some none)
    (z_list : PySem.W.nsIn K mainGlobals "list" = some none)
    (z_max : PySem.W.nsIn K mainGlobals "max" = some none)
    (z_range : PySem.W.nsIn K mainGlobals "range" = some none) :
    ∃ fd : FuncData, (∀ (s : Shared) (v : Value), BindsTo s fd ⟨[v], []⟩ [("_law_script", v)]) ∧ ∀ base : Heap, K.In base → base.Ns mainGlobals mg → FnOk l.prog w K mg base (L2.CX l.prog w) 4 fa fd ["_law_script"] (spLaw K) := by
  have e := hfa.symm.trans (PySem.W.mg_of X G a_law)
  cases e
  have T : Top K mg := ⟨PySem.W.mg_none_of X G z_bool,
    PySem.W.mg_none_of X G z_int,
    PySem.W.mg_none_of X G z_isinstance,
    PySem.W.mg_none_of X G z_len,
    PySem.W.mg_none_of X G z_list,
    PySem.W.mg_none_of X G z_max,
    PySem.W.mg_none_of X G z_range,
    ⟨_, _, fun_mk (st := s_worth_at) l_worth_at q_worth_at k_worth_at, PySem.W.mg_of X G a_worth_at⟩,
    ⟨_, _, fun_mk (st := s_greatest_at) l_greatest_at q_greatest_at k_greatest_at, PySem.W.mg_of X G a_greatest_at⟩,
    ⟨_, _, fun_mk (st := s_law_cell_at) l_law_cell_at q_law_cell_at k_law_cell_at, PySem.W.mg_of X G a_law_cell_at⟩,
    ⟨_, _, fun_mk (st := s_law_box) l_law_box q_law_box k_law_box, PySem.W.mg_of X G a_law_box⟩,
    ⟨_, _, fun_mk (st := s_law_take) l_law_take q_law_take k_law_take, PySem.W.mg_of X G a_law_take⟩,
    ⟨_, _, fun_mk (st := s_law_whole) l_law_whole q_law_whole k_law_whole, PySem.W.mg_of X G a_law_whole⟩,
    ⟨_, _, fun_mk (st := s_law_halved) l_law_halved q_law_halved k_law_halved, PySem.W.mg_of X G a_law_halved⟩,
    ⟨_, _, fun_mk (st := s_law_marks) l_law_marks q_law_marks k_law_marks, PySem.W.mg_of X G a_law_marks⟩,
    ⟨_, _, fun_mk (st := s_law_right) l_law_right q_law_right k_law_right, PySem.W.mg_of X G a_law_right⟩⟩
  have F_worth_at := fun (base : Heap) => ok_worth_at (P := l.prog) (w := w) (base := base) T 
  have F_greatest_at := fun (base : Heap) => ok_greatest_at (P := l.prog) (w := w) (base := base) T (F_worth_at base)
  have F_law_cell_at := fun (base : Heap) => ok_law_cell_at (P := l.prog) (w := w) (base := base) T 
  have F_law_box := fun (base : Heap) => ok_law_box (P := l.prog) (w := w) (base := base) T 
  have F_law_take := fun (base : Heap) => ok_law_take (P := l.prog) (w := w) (base := base) T 
  have F_law_whole := fun (base : Heap) => ok_law_whole (P := l.prog) (w := w) (base := base) T 
  have F_law_halved := fun (base : Heap) => ok_law_halved (P := l.prog) (w := w) (base := base) T 
  have F_law_marks := fun (base : Heap) => ok_law_marks (P := l.prog) (w := w) (base := base) T (F_law_take base)
  have F_law_right := fun (base : Heap) => ok_law_right (P := l.prog) (w := w) (base := base) T (F_law_halved base) (F_law_whole base) (F_greatest_at base) (F_worth_at base)
  exact ⟨PySem.W.fnOf "law" "law" (defArgs s_law) (defBody s_law) (defScope s_law) .none kV_law dc_law pm_law an_law cd_law ct_law, fun s v => .of_eq rfl, fun base _ _ => okF_law (base := base) T (fun_mk (st := s_law) l_law q_law k_law) (F_law_box base) (F_law_cell_at base) (F_law_marks base) (F_law_right base) (F_law_take base)⟩
theorem walk {l : PySem.W.OpenLaw} {q : Program} {loose : List Str} {XP : (Str → Option Value) → Heap → Prop} {YP : World → Heap → Prop} {d : DefRec} {K : Params → PySem.W.Frag} (hn : l.most = some 63) (hdf : d.params.defaults = [])
    (hY : ∀ (w : World) (h : Heap), YP w h → (K w.params).In h)
    (F : ∀ (w : World) (mg : Str → Option Value) (fa : Addr) (h : Heap), (K w.params).In h → h.Ns mainGlobals mg → mg d.name = some (.ref fa) →
      ∃ fd : FuncData, (∀ (s : Shared) (u : Value), BindsTo s fd ⟨[u], []⟩ [("_law_script", u)]) ∧ ∀ base : Heap, (K w.params).In base → base.Ns mainGlobals mg → FnOk l.prog w (K w.params) mg base (L2.CX l.prog w) 4 fa fd ["_law_script"] (spLaw (K w.params))) :
    PySem.W.WalkO q loose XP YP l.row.toRowW d [] (fun f vs => PySem.call f vs) :=
  L2.walk_of (n := 63) (k := 4) (x := "_law_script") (CX := fun w => L2.CX l.prog w) (sp := fun w => spLaw (K w.params)) hn (by decide) hdf ⟨rfl, by decide, by decide⟩ hY F (fun _ _ a ns hl _ hS => ⟨a, ns, rfl, hS, hl, fun _ => rfl⟩) fun _ _ _ _ _ z => by
    obtain ⟨_, _, _, _, _, _, _, _, _, _, _, _, z⟩ := z
    exact z
end Ah
open PySem PySem.W PyProof.Rows
set_option maxRecDepth 100000 in
set_option maxHeartbeats 0 in
theorem PySem.Challenge.cw_aheadword_k03_halvings_holds : PySem.Challenge.rw_aheadword_k03_halvings.Holds := by
  w_on; o_law; k_head; (case hw => w_witness2)
  k_fill
  refine Ah.walk (l := PySem.Challenge.rw_aheadword_k03_halvings) rfl rfl (fun w h Y => PySem.W.kIn_of Y) ?F
  case F =>
    intro w mg fa h KX G hmg
    refine' Ah.all_mk KX G hmg ?a_worth_at ?l_worth_at ?q_worth_at ?k_worth_at ?a_greatest_at ?l_greatest_at ?q_greatest_at ?k_greatest_at ?a_law_cell_at ?l_law_cell_at ?q_law_cell_at ?k_law_cell_at ?a_law_box ?l_law_box ?q_law_box ?k_law_box ?a_law_take ?l_law_take ?q_law_take ?k_law_take ?a_law_whole ?l_law_whole ?q_law_whole ?k_law_whole ?a_law_halved ?l_law_halved ?q_law_halved ?k_law_halved ?a_law_marks ?l_law_marks ?q_law_marks ?k_law_marks ?a_law_right ?l_law_right ?q_law_right ?k_law_right ?a_law ?l_law ?q_law ?k_law ?z_bool ?z_int ?z_isinstance ?z_len ?z_list ?z_max ?z_range
    (case a_worth_at => k_is)
    (case l_worth_at => k_is)
    (case q_worth_at => k_is)
    (case k_worth_at => k_is)
    (case a_greatest_at => k_is)
    (case l_greatest_at => k_is)
    (case q_greatest_at => k_is)
    (case k_greatest_at => k_is)
    (case a_law_cell_at => k_is)
    (case l_law_cell_at => k_is)
    (case q_law_cell_at => k_is)
    (case k_law_cell_at => k_is)
    (case a_law_box => k_is)
    (case l_law_box => k_is)
    (case q_law_box => k_is)
    (case k_law_box => k_is)
    (case a_law_take => k_is)
    (case l_law_take => k_is)
    (case q_law_take => k_is)
    (case k_law_take => k_is)
    (case a_law_whole => k_is)
    (case l_law_whole => k_is)
    (case q_law_whole => k_is)
    (case k_law_whole => k_is)
    (case a_law_halved => k_is)
    (case l_law_halved => k_is)
    (case q_law_halved => k_is)
    (case k_law_halved => k_is)
    (case a_law_marks => k_is)
    (case l_law_marks => k_is)
    (case q_law_marks => k_is)
    (case k_law_marks => k_is)
    (case a_law_right => k_is)
    (case l_law_right => k_is)
    (case q_law_right => k_is)
    (case k_law_right => k_is)
    (case a_law => k_is)
    (case l_law => k_is)
    (case q_law => k_is)
    (case k_law => k_is)
    (case z_bool => k_is)
    (case z_int => k_is)
    (case z_isinstance => k_is)
    (case z_len => k_is)
    (case z_list => k_is)
    (case z_max => k_is)
    (case z_range => k_is)
