import PyProof.Rows.All
import Wide.All
import OpenK.AllK
import Wide.FinOn
import HandS.ForMost
import HandS.ForExc
import HandS.IsInst
import HandS.Wide
import HandS.Flow
import HandS.Evl
import HandS.StrMore
import HandS.Walk
import PySem.Challenge.RW_aheadword_k01_words
set_option Elab.async false
set_option linter.all false
set_option maxRecDepth 100000
set_option maxHeartbeats 4000000
set_option Elab.async false
set_option linter.all false
set_option maxRecDepth 100000
set_option maxHeartbeats 4000000
/-! Ah: words of my own over the layer: a def at its name, boxes of draws, what changes and what stays. -/
namespace Ah
open PySem PySem.Spec PyProof.Rows L2

/-- the def x stands behind the top, as the text st says -/
structure DefAt (K : PySem.W.Frag) (mg : Str → Option Value) (x : Str) (st : Stmt) : Prop where
  ex : ∃ (f : Addr) (fd : FuncData), Fun K x x st f fd ∧ mg x = some (.ref f)
/-- the def x keeps the promise sp, by at most k calls one in another -/
structure Fn (P : Program) (w : World) (K : PySem.W.Frag) (mg : Str → Option Value) (base : Heap) (k : Nat) (x : Str) (ps : List Str) (sp : Sp) : Prop where
  ex : ∃ (f : Addr) (fd : FuncData), FnOk P w K mg base (L2.CX P w) k f fd ps sp ∧ mg x = some (.ref f) ∧ PySem.W.keepIn K (.ref f) = true ∧ Binds K fd ps []
section
variable {P : Program} {w : World} {K : PySem.W.Frag} {mg : Str → Option Value} {base : Heap} {j k : Nat} {x : Str} {ps : List Str} {sp sp' : Sp} {st : Stmt} {N : List Str}
theorem Fn.mono (F : Fn P w K mg base j x ps sp) (h : j ≤ k) : Fn P w K mg base k x ps sp := by
  obtain ⟨f, fd, a, b⟩ := F.ex
  exact ⟨f, fd, a.mono h, b⟩
theorem Fn.imp (F : Fn P w K mg base k x ps sp) (h : ∀ vs H Q E, sp' vs H Q E → sp vs H Q E) : Fn P w K mg base k x ps sp' := by
  obtain ⟨f, fd, a, b⟩ := F.ex
  exact ⟨f, fd, a.imp h, b⟩
/-- how arguments bind, as a premise on the text alone -/
abbrev BindOk (x : Str) (st : Stmt) (ps : List Str) : Prop := ∀ (kV doc pm : Value) (an : Option Addr) (cdv ct : Value) (us : List Value), us.length = ps.length → bindArgs (PySem.W.fnOf x x (defArgs st) (defBody st) (defScope st) .none kV doc pm an cdv ct) ⟨us, []⟩ = pure (ps.zip us)
/-- a def that raises nothing -/
theorem DefAt.ok (D : DefAt K mg x st) (S : FnScope N ps (defScope st)) (B : BindOk x st ps) (len : ∀ vs H Q E, sp vs H Q E → vs.length = ps.length)
    (hbody : ∀ (f : Addr) (cdv : Value) (A : Around) (outer : List Env) (s : Shared) (H : Hp) (vs : List V) (Q : VK) (E : XK), Room k (A.deeper (envOfC x (defScope st) s.heap.objs.size f cdv)) → sp vs H Q E →
      ∃ t, PSs (cxOf (L2.CX P w) P w K mg base N x (defScope st) f cdv A outer s H E).nox (defBody st) t ∧ t { nx := fun _ H' => Q .non H', rt := Q } (start N vs) H) : Fn P w K mg base (k + 1) x ps sp := by
  obtain ⟨f, fd, F, m⟩ := D.ex
  refine ⟨f, fd, F.okX S len fun cdv A outer s H vs Q E hr h => ?_, m, F.kp, F.binds B⟩
  obtain ⟨t, h1, h2⟩ := hbody f cdv A outer s H vs Q E hr h
  exact ⟨t, h1.nox, h2⟩
/-- a def that may raise -/
theorem DefAt.okX (D : DefAt K mg x st) (S : FnScope N ps (defScope st)) (B : BindOk x st ps) (len : ∀ vs H Q E, sp vs H Q E → vs.length = ps.length)
    (hbody : ∀ (f : Addr) (cdv : Value) (A : Around) (outer : List Env) (s : Shared) (H : Hp) (vs : List V) (Q : VK) (E : XK), Room k (A.deeper (envOfC x (defScope st) s.heap.objs.size f cdv)) → sp vs H Q E →
      ∃ t, PSs (cxOf (L2.CX P w) P w K mg base N x (defScope st) f cdv A outer s H E) (defBody st) t ∧ t { nx := fun _ H' => Q .non H', rt := Q } (start N vs) H) : Fn P w K mg base (k + 1) x ps sp := by
  obtain ⟨f, fd, F, m⟩ := D.ex
  exact ⟨f, fd, F.okX S len fun cdv A outer s H vs Q E hr h => hbody f cdv A outer s H vs Q E hr h, m, F.kp, F.binds B⟩
end
section
variable {X : Cx} {k : Nat} {ps : List Str} {sp : Sp} {E : XK} {x : Str} {p pos : Pos} {e : Expr} {es : List Expr} {t : TA}
theorem pe_fn (F : Fn X.prog X.w X.K X.mg X.base k x ps sp) (hr : Room k X.A) (hx : Passes (L2.CX X.prog X.w) X E) (ha : PA X (e :: es) t) (hg : Gl X x := by rfl)
    (hdb : (x == ("__debug__" : Str)) = false := by decide) (he : starEach (e :: es) X.env = (false, eval e X.env) :: starEach es X.env := by rfl) (hpl : (backTo pos (starEach es X.env)).any (·.1) = false := by rfl) :
    PE X (.Call (.Name x p) (e :: es) [] pos) (tCall sp [] E t) := by
  obtain ⟨f, fd, a, m, kp, b⟩ := F.ex
  exact pe_call a hr hg m kp b .nil hx ha hdb he hpl
end

/-! ### what stays -/
/-- all but the object at b stays -/
def But (b : Addr) (H H' : Hp) : Prop := ∀ a o, a ≠ b → H a = some o → H' a = some o
theorem But.refl {b : Addr} {H : Hp} : But b H H := fun _ _ _ h => h
theorem But.trans {b : Addr} {H H1 H2 : Hp} (x : But b H H1) (y : But b H1 H2) : But b H H2 := fun a o n h => y a o n (x a o n h)
theorem But.upd {b : Addr} {H H1 : Hp} {o : HO} (x : But b H H1) : But b H (upd H1 b o) := fun a u n h => by rw [upd_ne n]; exact x a u n h
theorem But.new {b p : Addr} {H H1 : Hp} {o : HO} (x : But b H H1) (h : H1 p = none) : But b H (L2.upd H1 p o) := fun a u n e => by
  have := x a u n e
  rw [upd_ne (ne_of_none this h)]; exact this
theorem Same.new {p : Addr} {H H1 : Hp} {o : HO} (x : Same H H1) (h : H1 p = none) : Same H (upd H1 p o) := fun a u e => by
  have := x a u e
  rw [upd_ne (ne_of_none this h)]; exact this
theorem But.of {b : Addr} {H H1 : Hp} (x : Same H H1) : But b H H1 := fun a o _ h => x a o h
theorem But.free {b p : Addr} {H H1 : Hp} {o : HO} (x : But b H H1) (hb : H1 b = some o) (h : H1 p = none) : H p = none := by
  cases e : H p with
  | none => rfl
  | some u => rw [x p u (by rintro rfl; rw [hb] at h; cases h) e] at h; cases h
theorem But.sql {K : PySem.W.Frag} {b a : Addr} {H H1 : Hp} {xs : List V} (x : But b H H1) (n : a ≠ b) (h : SqL K H a xs) : SqL K H1 a xs := by
  rcases h with (h | ⟨o, h⟩) | h
  · exact .inl (.inl (x _ _ n h))
  · exact .inl (.inr ⟨o, x _ _ n h⟩)
  · exact .inr h

/-! ### boxes of draws -/
/-- a box stands at b: four numbers, whichever -/
def BoxAt (H : Hp) (b : Addr) : Prop := ∃ x0 x1 x2 x3 : Int, H b = some (.lst [.int x0, .int x1, .int x2, .int x3])
theorem BoxAt.keep {H H' : Hp} {b c : Addr} (h : BoxAt H b) (x : But c H H') (n : b ≠ c) : BoxAt H' b := by
  obtain ⟨x0, x1, x2, x3, e⟩ := h
  exact ⟨x0, x1, x2, x3, x _ _ n e⟩
theorem BoxAt.new {H : Hp} {b p : Addr} {o : HO} (h : BoxAt H b) (n : H p = none) : BoxAt (upd H p o) b := by
  obtain ⟨x0, x1, x2, x3, e⟩ := h
  exact ⟨x0, x1, x2, x3, by rw [upd_ne (ne_of_none e n)]; exact e⟩
theorem BoxAt.ne {H : Hp} {b p : Addr} (h : BoxAt H b) (n : H p = none) : b ≠ p := by
  obtain ⟨x0, x1, x2, x3, e⟩ := h
  exact ne_of_none e n
/-- a draw: the box's numbers change, the answer lies below the number asked -/
def spTake : Sp := fun vs H Q _ => ∃ (b : Addr) (m : Int), vs = [.ref b, .int m] ∧ BoxAt H b ∧ 0 < m ∧ m < 18446744073709551616 ∧
  ∀ (r : Int) (H' : Hp), 0 ≤ r → r < m → BoxAt H' b → But b H H' → Q (.int r) H'
theorem use_take {H : Hp} {Q : VK} {E : XK} {b : Addr} {m : Int} (hb : BoxAt H b) (hm : 0 < m) (hl : m < 18446744073709551616)
    (k : ∀ (r : Int) (H' : Hp), 0 ≤ r → r < m → BoxAt H' b → But b H H' → Q (.int r) H') : spTake [.ref b, .int m] H Q E := ⟨b, m, rfl, hb, hm, hl, k⟩

/-! ### steps of a reading -/
theorem dT {p : Prop} [Decidable p] {A B : Prop} (h1 : p → A) (h2 : ¬ p → B) : if decide p = true then A else B := by
  by_cases h : p
  · rw [if_pos (decide_eq_true h)]; exact h1 h
  · rw [if_neg (by rw [decide_eq_false h]; decide)]; exact h2 h
theorem dF {p : Prop} [Decidable p] {A B : Prop} (h1 : ¬ p → A) (h2 : p → B) : if (!decide p) = true then A else B := by
  by_cases h : p
  · rw [decide_eq_true h]; exact iteF (h2 h)
  · rw [decide_eq_false h]; exact iteT (h1 h)
theorem bT {c : Bool} {A B : Prop} (h1 : c = true → A) (h2 : c = false → B) : if c = true then A else B := by
  cases c with
  | true => exact iteT (h1 rfl)
  | false => exact iteF (h2 rfl)
/-! ### the readings' steps, as lemmas -/
section
variable {K : PySem.W.Frag} {H : Hp} {Q : VK} {σ : L2.St} {p : Addr} {xs : List V} {i j : Int} {v x y : V}
theorem s_var {n : Nat} (h : σ[n]? = some (some v)) (q : Q v H) : tVar n σ H Q := ⟨v, h, q⟩
theorem s_ii {g : Int → Int → V} (q : Q (g i j) H) : rI0 g (.int i) (.int j) H Q := ⟨i, j, rfl, rfl, q⟩
theorem s_iiC {C : Int → Int → Prop} {g : Int → Int → V} (c : C i j) (q : Q (g i j) H) : rI C g (.int i) (.int j) H Q := ⟨i, j, rfl, rfl, c, q⟩
theorem s_un {g : Int → V} (q : Q (g i) H) : rU g (.int i) H Q := ⟨i, rfl, q⟩
theorem s_eq (h : scal x y = true) (q : Q (.bl (decide (x = y))) H) : rEq x y H Q := ⟨h, q⟩
theorem s_ne (h : scal x y = true) (q : Q (.bl (!decide (x = y))) H) : rNe x y H Q := ⟨h, q⟩
theorem s_ixL (h : SqL K H p xs) (a : atI xs i = some v) (q : Q v H) : rIxL K (.ref p) (.int i) H Q := ⟨p, xs, i, v, rfl, rfl, h, a, q⟩
theorem s_ixT (h : SqT K H p xs) (a : atI xs i = some v) (q : Q v H) : rIxT K (.ref p) (.int i) H Q := ⟨p, xs, i, v, rfl, rfl, h, a, q⟩
theorem s_setL {q : Hp → Prop} {n : Nat} (h : H p = some (.lst xs)) (a : ixN xs.length i = some n) (k : q (upd H p (.lst (xs.set n v)))) : rSetL (.ref p) (.int i) v H q := ⟨p, xs, i, n, rfl, rfl, h, a, k⟩
theorem s_bl {b : Bool} {q : Bool → Hp → Prop} (k : q b H) : ∃ c, V.bl b = .bl c ∧ q c H := ⟨b, rfl, k⟩
end
/-! ### the combinators opened, one at a time -/
section
variable {K : PySem.W.Frag} {H : Hp} {Q : VK} {σ : L2.St} {D : Ends} {t u : TS} {te ta tb tc : TE} {tt tu : TT} {g : TG} {r r' : R2} {v : V} {T : TA}
theorem u_seq (q : t { D with nx := u D } σ H) : tSeq t u D σ H := q
theorem u_asg (q : te σ H fun x H1 => g x σ H1 D.nx) : tAsg te g D σ H := q
theorem u_drop (q : te σ H fun _ H1 => D.nx σ H1) : tDrop te D σ H := q
theorem u_ret (q : te σ H D.rt) : tRet te D σ H := q
theorem u_retN (q : D.rt .non H) : tRetN D σ H := q
theorem u_next (q : D.nx σ H) : tNext D σ H := q
theorem u_brk (q : D.bk σ H) : tBreak D σ H := q
theorem u_cont (q : D.ct σ H) : tCont D σ H := q
theorem u_ifS (q : tt σ H fun b H1 => if b = true then t D σ H1 else u D σ H1) : tIfS tt t u D σ H := q
theorem u_op (q : ta σ H fun x H1 => tb σ H1 fun y H2 => r x y H2 Q) : tOp r ta tb σ H Q := q
theorem u_un {r : V → Hp → VK → Prop} (q : ta σ H fun x H1 => r x H1 Q) : tUn r ta σ H Q := q
theorem u_c (q : Q v H) : tC v σ H Q := q
theorem u_and {q : Bool → Hp → Prop} (k : tt σ H fun c H1 => if c = true then tu σ H1 q else q false H1) : tAnd tt tu σ H q := k
theorem u_or {q : Bool → Hp → Prop} (k : tt σ H fun c H1 => if c = true then q true H1 else tu σ H1 q) : tOr tt tu σ H q := k
theorem u_not {q : Bool → Hp → Prop} (k : tt σ H fun c H1 => q (!c) H1) : tNot tt σ H q := k
theorem u_andV (q : ta σ H fun x H1 => ∃ c, x = .bl c ∧ if c = true then tb σ H1 Q else Q (.bl false) H1) : tAndV ta tb σ H Q := q
theorem u_orV (q : ta σ H fun x H1 => ∃ c, x = .bl c ∧ if c = true then Q (.bl true) H1 else tb σ H1 Q) : tOrV ta tb σ H Q := q
theorem u_notV (q : ta σ H fun x H1 => ∃ c, x = .bl c ∧ Q (.bl (!c)) H1) : tNotV ta σ H Q := q
theorem u_if (q : tt σ H fun c H1 => if c = true then ta σ H1 Q else tb σ H1 Q) : tIf tt ta tb σ H Q := q
theorem u_test {q : Bool → Hp → Prop} (k : te σ H fun x H' => ∃ k, x = .bl k ∧ q k H') : tTest te σ H q := k
theorem u_B {q : Bool → Hp → Prop} (k : te σ H fun x H1 => ∃ c, x = .bl c ∧ q c H1) : tB te σ H q := k
theorem u_chain (q : ta σ H fun x H1 => tb σ H1 fun y H2 => r x y H2 fun z H3 => ∃ k, z = .bl k ∧ (if k = true then tc σ H3 fun w' H4 => r' y w' H4 Q else Q (.bl false) H3)) : tChain r r' ta tb tc σ H Q := q
theorem u_name {i : Nat} {q : L2.St → Hp → Prop} (k : q (σ.set i (some v)) H) : gName i v σ H q := k
theorem u_sub {s : TSet} {q : L2.St → Hp → Prop} (k : ta σ H fun o H1 => tb σ H1 fun i H2 => s o i v H2 fun H3 => q σ H3) : gSub ta tb s v σ H q := k
theorem u_nil {q : List V → Hp → Prop} (k : q [] H) : tNil σ H q := k
theorem u_cons {q : List V → Hp → Prop} (k : ta σ H fun x H1 => T σ H1 fun xs H2 => q (x :: xs) H2) : tCons ta T σ H q := k
theorem u_call {sp : Sp} {E : XK} (k : T σ H fun vs H1 => sp vs H1 Q E) : tCall sp [] E T σ H Q := by
  show T σ H fun vs H1 => sp (vs ++ []) H1 Q E
  simpa only [List.append_nil] using k
theorem u_CB {f : List V → Hp → VK → Prop} (k : T σ H fun vs H1 => f vs H1 Q) : tCB f T σ H Q := k
theorem u_tup (k : T σ H fun xs H1 => xs.length ≤ sizeLine ∧ ∀ p, H1 p = none → Q (.ref p) (upd H1 p (.tup xs))) : tTup T σ H Q := k
theorem u_lst (k : T σ H fun xs H1 => xs.length ≤ sizeLine ∧ ∀ p, H1 p = none → Q (.ref p) (upd H1 p (.lst xs))) : tLst T σ H Q := k
theorem u_cut {M : L2.St → Hp → Prop} (h : t { D with nx := M } σ H) (k : ∀ σ' H', M σ' H' → u D σ' H') : Evl.tCut t u D σ H := ⟨M, h, k⟩
end

theorem divW {i m : Int} (hm : 0 < m) (hl : m < 18446744073709551616) : CDivW i m := wide_div (b := 64) hm (by
  have e : (2 : Nat) ^ 64 = 18446744073709551616 := by decide
  rw [e]; omega) (by decide) (by decide)
theorem sz {n : Nat} (h : n ≤ 1000) : n ≤ sizeLine := Nat.le_trans h (by decide)
theorem sz16 {n : Nat} (h : n ≤ 16777216) : n ≤ sizeLine := Nat.le_trans h (by rw [sizeLine_eq]; decide)
theorem But.same {b : Addr} {H H1 H2 : Hp} (x : But b H1 H2) (s : Same H H1) (n : H b = none) : Same H H2 := fun a o e => x a o (ne_of_none e n) (s a o e)

/-! ### loops -/
section
variable {K : PySem.W.Frag} {H : Hp} {Q : VK} {σ : L2.St} {D : Ends} {c : TT} {tb : TS} {v : V} {a : Addr} {xs : List V}
theorem w_while (W : Nat → L2.St → Hp → Prop) (m : Nat) (h0 : W m σ H)
    (hs : ∀ m σ H, W m σ H → c σ H fun b H1 => if b = true then ∃ N : L2.St → Hp → Prop, (∀ σ' H', N σ' H' → ∃ m', m' < m ∧ W m' σ' H') ∧ tb { D with nx := N, ct := N, bk := D.nx } σ H1 else D.nx σ H1) : tWhile c tb D σ H := ⟨W, ⟨m, h0⟩, hs⟩
theorem w_turn {W : Nat → L2.St → Hp → Prop} {m : Nat} (k : tb { D with nx := fun σ' H' => ∃ m', m' < m ∧ W m' σ' H', ct := fun σ' H' => ∃ m', m' < m ∧ W m' σ' H', bk := D.nx } σ H) :
    ∃ N : L2.St → Hp → Prop, (∀ σ' H', N σ' H' → ∃ m', m' < m ∧ W m' σ' H') ∧ tb { D with nx := N, ct := N, bk := D.nx } σ H := ⟨_, fun _ _ n => n, k⟩
theorem u_for {wi : TI} {g : TG} (k : wi σ H fun J H1 => ∃ W : Nat → Nat → L2.St → Hp → Prop, (∃ m, W 0 m σ H1) ∧ ∀ i m σ H, W i m σ H →
      (J.stop i H ∧ D.nx σ H) ∨ (J.go i H ∧ ∃ N : L2.St → Hp → Prop, (∀ σ' H', N σ' H' → ∃ m', m' < m ∧ W (i + 1) m' σ' H') ∧ ∀ x H', J.yld i H x H' → g x σ H' fun σ2 H2 => tb { D with nx := N, ct := N, bk := D.nx } σ2 H2)) : tFor wi g tb D σ H := k
theorem u_iList {tl : TE} {R : It → Hp → Prop} (k : tl σ H fun x H1 => ∃ a, x = .ref a ∧ (∃ xs, SqL K H1 a xs) ∧ R (Itl K a) H1) : iList K tl σ H R := k
theorem u_iTup {tl : TE} {R : It → Hp → Prop} (k : tl σ H fun x H1 => ∃ a, x = .ref a ∧ (∃ xs, SqT K H1 a xs) ∧ R (Itt K a) H1) : iTup K tl σ H R := k
theorem u_iRng1 {ta : TA} {R : It → Hp → Prop} (k : ta σ H fun vs H1 => ∃ j : Int, vs = [.int j] ∧ -(2 ^ 62) ≤ j ∧ j < 2 ^ 62 ∧ R (Itr 0 j.toNat) H1) : iRng1 ta σ H R := k
theorem u_iRng2 {ta : TA} {R : It → Hp → Prop} (k : ta σ H fun vs H1 => ∃ i j : Int, vs = [.int i, .int j] ∧ (-(2 ^ 62) ≤ i ∧ i < 2 ^ 62 ∧ -(2 ^ 62) ≤ j ∧ j < 2 ^ 62) ∧ R (Itr i (j - i).toNat) H1) : iRng2 ta σ H R := k
theorem u_gcons {t : TG} {u : TGs} {r : List V} {q : L2.St → Hp → Prop} (k : t v σ H fun σ' H' => u r σ' H' q) : gCons t u (v :: r) σ H q := ⟨v, r, rfl, k⟩
theorem u_gnil {q : L2.St → Hp → Prop} (k : q σ H) : gNil [] σ H q := ⟨rfl, k⟩
theorem s_gtup {n : Nat} {t : TGs} {q : L2.St → Hp → Prop} (h : SqT K H a xs) (l : xs.length = n) (k : t xs σ H q) : gTup K n t (.ref a) σ H q := ⟨a, xs, rfl, h, l, k⟩
theorem s_isi {x : V} {t T : String} {b : Bool} (ty : TyX K H x (.type t)) (k : kitB t T = some b) (q : Q (.bl b) H) : rIsi K [x, .ty T] H Q := ⟨x, .ty T, .type t, .type T, b, rfl, .ty T, ty, kit_ty k, q⟩
end

/-! ### a law's first helpers -/
/-- a cell of the script: some number -/
def spCell (K : PySem.W.Frag) : Sp := fun vs H Q _ => ∃ (a : Addr) (ns : List Int) (i : Int), vs = [.ref a, .int i] ∧ SqL K H a (ns.map V.int) ∧ 0 ≤ i ∧ ∀ r : Int, Q (.int r) H
/-- a new box -/
def spBox : Sp := fun vs H Q _ => ∃ c : Int, vs = [.int c] ∧ ∀ (p : Addr) (H' : Hp), H p = none → Same H H' → BoxAt H' p → Q (.ref p) H'

theorem pow2_pos (k : Nat) : (0 : Int) < 2 ^ k := by
  induction k with
  | zero => decide
  | succ k ih => rw [Int.pow_succ]; omega
theorem pow2_mono {a b : Nat} (h : a ≤ b) : (2 : Int) ^ a ≤ 2 ^ b := by
  induction b with
  | zero => have : a = 0 := by omega
            subst this; exact Int.le_refl _
  | succ b ih =>
    by_cases e : a = b + 1
    · subst e; exact Int.le_refl _
    · have := ih (by omega)
      have := pow2_pos b
      rw [Int.pow_succ]; omega
section
variable {X : Cx} {x : Str} {pos : Pos}
theorem pe_ty (T : String) (hg : Gl X x) (hm : X.mg x = none) (hv : bootBuiltins x = some (.type T)) (hn : x ≠ "__name__" := by decide) (hd : (x == ("__debug__" : Str)) = false := by decide) : PE X (.Name x pos) (tC (.ty T)) := pe_bltn hg hm hv rfl hn hd
end
theorem kb_int_int : kitB "int" "int" = some true := by decide +kernel
theorem kb_int_bool : kitB "int" "bool" = some false := by decide +kernel
theorem kb_int_str : kitB "int" "str" = some false := by decide +kernel
theorem kb_int_list : kitB "int" "list" = some false := by decide +kernel
theorem kb_int_tuple : kitB "int" "tuple" = some false := by decide +kernel
theorem kb_bool_int : kitB "bool" "int" = some true := by decide +kernel
theorem kb_bool_bool : kitB "bool" "bool" = some true := by decide +kernel
theorem kb_bool_str : kitB "bool" "str" = some false := by decide +kernel
theorem kb_bool_list : kitB "bool" "list" = some false := by decide +kernel
theorem kb_bool_tuple : kitB "bool" "tuple" = some false := by decide +kernel
theorem kb_str_int : kitB "str" "int" = some false := by decide +kernel
theorem kb_str_bool : kitB "str" "bool" = some false := by decide +kernel
theorem kb_str_str : kitB "str" "str" = some true := by decide +kernel
theorem kb_str_list : kitB "str" "list" = some false := by decide +kernel
theorem kb_str_tuple : kitB "str" "tuple" = some false := by decide +kernel
theorem kb_NoneType_int : kitB "NoneType" "int" = some false := by decide +kernel
theorem kb_NoneType_bool : kitB "NoneType" "bool" = some false := by decide +kernel
theorem kb_NoneType_str : kitB "NoneType" "str" = some false := by decide +kernel
theorem kb_NoneType_list : kitB "NoneType" "list" = some false := by decide +kernel
theorem kb_NoneType_tuple : kitB "NoneType" "tuple" = some false := by decide +kernel
theorem kb_list_int : kitB "list" "int" = some false := by decide +kernel
theorem kb_list_bool : kitB "list" "bool" = some false := by decide +kernel
theorem kb_list_str : kitB "list" "str" = some false := by decide +kernel
theorem kb_list_list : kitB "list" "list" = some true := by decide +kernel
theorem kb_list_tuple : kitB "list" "tuple" = some false := by decide +kernel
theorem kb_tuple_int : kitB "tuple" "int" = some false := by decide +kernel
theorem kb_tuple_bool : kitB "tuple" "bool" = some false := by decide +kernel
theorem kb_tuple_str : kitB "tuple" "str" = some false := by decide +kernel
theorem kb_tuple_list : kitB "tuple" "list" = some false := by decide +kernel
theorem kb_tuple_tuple : kitB "tuple" "tuple" = some true := by decide +kernel
theorem kb_dict_int : kitB "dict" "int" = some false := by decide +kernel
theorem kb_dict_bool : kitB "dict" "bool" = some false := by decide +kernel
theorem kb_dict_str : kitB "dict" "str" = some false := by decide +kernel
theorem kb_dict_list : kitB "dict" "list" = some false := by decide +kernel
theorem kb_dict_tuple : kitB "dict" "tuple" = some false := by decide +kernel
theorem ntT {A B : Prop} (h : A) : if (!false) = true then A else B := iteT h
theorem ntF {A B : Prop} (h : B) : if (!true) = true then A else B := iteF h
section
variable {K : PySem.W.Frag} {H : Hp} {Q : VK} {σ : L2.St} {te : TE} {tl th : TO} {a : Addr} {xs : List V} {lo hi : Option Int} {z : Str}
theorem u_sl {r : V → Option Int → Option Int → Hp → VK → Prop} (k : te σ H fun x H1 => tl σ H1 fun l H2 => th σ H2 fun u H3 => r x l u H3 Q) : tSl r te tl th σ H Q := k
theorem u_part {q : Option Int → Hp → Prop} (k : te σ H fun x H1 => ∃ i, x = .int i ∧ q (some i) H1) : tPart te σ H q := k
theorem u_nopart {q : Option Int → Hp → Prop} (k : q none H) : tNoPart σ H q := k
theorem s_slL (h : SqL K H a xs) (q : ∀ p, H p = none → Q (.ref p) (upd H p (.lst (cutV xs lo hi)))) : rSlL K (.ref a) lo hi H Q := ⟨a, xs, rfl, h, q⟩
theorem s_slS (h : z.length ≤ sizeLine) (q : Q (.str (cutS z lo hi)) H) : rSlS (.str z) lo hi H Q := ⟨z, rfl, h, q⟩
/-- a part of a list of ints is a list of ints -/
theorem cutV_ints (ns : List Int) (lo hi : Option Int) : ∃ ms : List Int, cutV (ns.map V.int) lo hi = ms.map V.int ∧ ms.length ≤ ns.length := by
  refine ⟨(ns.drop (HT.sIx (ns.map V.int).length 0 lo)).take (HT.sIx (ns.map V.int).length (ns.map V.int).length hi - HT.sIx (ns.map V.int).length 0 lo), ?_, ?_⟩
  · unfold cutV; rw [List.map_take, List.map_drop]
  · rw [List.length_take, List.length_drop]; omega
theorem sql_new {p : Addr} {o : HO} (h : SqL K H a xs) (n : H p = none) : SqL K (upd H p o) a xs := (Same.new (Same.refl H) n).seq h
theorem Same.ne {H H1 : Hp} {b p : Addr} {o : HO} (_ : Same H H1) (h : H1 b = some o) (n : H1 p = none) : b ≠ p := ne_of_none h n
theorem ints_get {ns : List Int} {i : Nat} {x : V} (h : (ns.map V.int)[i]? = some x) : ∃ n, ns[i]? = some n ∧ x = .int n := by
  rw [List.getElem?_map] at h
  cases e : ns[i]? with
  | none => rw [e] at h; cases h
  | some n => rw [e] at h; exact ⟨n, rfl, (Option.some.inj h).symm⟩
end

/-! ### rules whose reading speaks of K, with K told (for a comprehension's block) -/
section
variable {X : Cx} {K : PySem.W.Frag}
theorem pg_tupK {es : List Expr} {k : Nat} {t : TGs} {n : Nat} {pos : Pos} (hK : X.K = K) (hc : X.calm = true) (h : PGs X es t)
    (hn : (assignEach es X.env).length = n := by rfl) (hst : (assignEach es X.env).findIdx? (·.1) = none := by rfl) : PG X (.Tuple es k pos) (gTup K n t) := hK ▸ pg_tup hc h hn hst
theorem pe_fldK {e : Expr} {f : Str} {pos : Pos} {ta : TE} (hK : X.K = K) (he : PE X e ta) (hb : attributeBase e f X.env (eval e X.env) = eval e X.env) : PE X (.Attribute e f pos) (tFld K ta f) := hK ▸ pe_fld he hb
theorem call_len_seqK (hK : X.K = K) : CallR X (.builtin "len") (fun xs H Q => ∃ p ys, xs = [.ref p] ∧ (SqL K H p ys ∨ SqT K H p ys) ∧ Q (.int ys.length) H) := hK ▸ call_len_seq
theorem ix_listK (hK : X.K = K) : IxR X (rIxL K) := hK ▸ ix_list
theorem ix_tupK (hK : X.K = K) : IxR X (rIxT K) := hK ▸ ix_tup
theorem op_in_seqK (hK : X.K = K) : OpR X (compareOp .In) (rIn K false) := hK ▸ op_in_seq
theorem op_notIn_seqK (hK : X.K = K) : OpR X (compareOp .NotIn) (rIn K true) := hK ▸ op_notIn_seq
theorem op_eqDK (hK : X.K = K) (hu : X.A.units + 64 < cLine) : OpR X (compareOp .Eq) (rEqD K) := hK ▸ op_eqD hu
theorem op_neDK (hK : X.K = K) (hu : X.A.units + 64 < cLine) : OpR X (compareOp .NotEq) (rNeD K) := hK ▸ op_neD hu
theorem call_isiK' (hK : X.K = K) : CallR X (.builtin "isinstance") (rIsi K) := hK ▸ call_isi
theorem call_isiTK (hK : X.K = K) : CallR X (.builtin "isinstance") (rIsiT K) := hK ▸ call_isiT
theorem sl_listK (hK : X.K = K) : SlR X (rSlL K) := hK ▸ sl_list
theorem cr_maxK (hK : X.K = K) (hc : X.calm = true) : CallR X (.builtin "max") (rMax K) := hK ▸ cr_max hc
theorem cr_minK' (hK : X.K = K) (hc : X.calm = true) : CallR X (.builtin "min") (rMin K) := hK ▸ cr_min hc
end
section
variable {X : Cx} {x : Str} {pos : Pos}
theorem pe_gstr {z : Str} (h : ∃ t, X.mg x = some (.str z t)) (hg : Gl X x := by rfl) (hd : (x == ("__debug__" : Str)) = false := by decide) : PE X (.Name x pos) (tC (.str z)) := by
  obtain ⟨t, h⟩ := h
  exact pe_glob hg h ⟨t, rfl⟩ hd
theorem pe_gint {z : Int} (h : ∃ t, X.mg x = some (.int z t)) (hg : Gl X x := by rfl) (hd : (x == ("__debug__" : Str)) = false := by decide) : PE X (.Name x pos) (tC (.int z)) := by
  obtain ⟨t, h⟩ := h
  exact pe_glob hg h ⟨t, rfl⟩ hd
end
section
variable {H : Hp} {Q : VK} {σ : L2.St}
theorem u_iStr {te : TE} {R : It → Hp → Prop} (k : te σ H fun v H1 => ∃ x, v = .str x ∧ R (Its x) H1) : iStr te σ H R := k
theorem u_M0 {r : V → List V → Hp → VK → Prop} {to : TE} (k : to σ H fun x H1 => (∃ a, x = .str a) ∧ r x [] H1 Q) : tM0 r to σ H Q := k
theorem u_M1 {r : V → List V → Hp → VK → Prop} {to te : TE} (k : to σ H fun x H1 => (∃ a, x = .str a) ∧ te σ H1 fun y H2 => r x [y] H2 Q) : tM1 r to te σ H Q := k
theorem s_isStr {z : Str} {B : Prop} (k : B) : (∃ a, V.str z = .str a) ∧ B := ⟨⟨z, rfl⟩, k⟩
end
theorem keepN {H : Hp} {p q : Addr} {o u : HO} (h : H p = some o) (n : H q = none) : upd H q u p = some o := by rw [upd_ne (ne_of_none h n)]; exact h
end Ah
set_option Elab.async false
set_option linter.all false
set_option maxRecDepth 100000
set_option maxHeartbeats 4000000
/-! worths in plain numbers -/
namespace Ah
open PySem PySem.Spec PyProof.Rows L2
/-- a count c of the era e is worth so much at the era n -/
def worth (c e n : Int) : Int := c / 2 ^ (n - e).toNat
theorem worth_at_begin {c e n : Int} (h : n ≤ e) : worth c e n = c := by
  unfold worth
  have : (n - e).toNat = 0 := by omega
  rw [this]; simp
theorem worth_step {c e n : Int} (h : e < n) : worth c e n = worth (c / 2) (e + 1) n := by
  unfold worth
  have h1 : (n - e).toNat = (n - (e + 1)).toNat + 1 := by omega
  rw [h1, Int.pow_succ, Int.mul_comm, Int.ediv_ediv_of_nonneg (by decide)]
theorem worth_zero (e n : Int) : worth 0 e n = 0 := by unfold worth; simp
theorem worth_nonneg {c e n : Int} (h : 0 ≤ c) : 0 ≤ worth c e n := Int.ediv_nonneg h (Int.le_of_lt (pow2_pos _))
theorem worth_le {c e n : Int} (h : 0 ≤ c) : worth c e n ≤ c := Int.ediv_le_self _ h
theorem worth_mono {c d e n : Int} (h : c ≤ d) : worth c e n ≤ worth d e n := Int.ediv_le_ediv (pow2_pos _) h
/-- halved some eras and then some more -/
theorem worth_worth {c e m n : Int} (h1 : e ≤ m) (h2 : m ≤ n) : worth (worth c e m) m n = worth c e n := by
  unfold worth
  rw [Int.ediv_ediv_of_nonneg (Int.le_of_lt (pow2_pos _)), ← Int.pow_add]
  congr 2; omega

/-! ### worth_at, used_mark -/
def spWorth (K : PySem.W.Frag) : Sp := fun vs H Q _ => ∃ (t : Addr) (c e n : Int), vs = [.ref t, .int n] ∧ SqT K H t [.int c, .int e] ∧ 0 ≤ c ∧ Q (.int (worth c e n)) H
def spUsed (K : PySem.W.Frag) : Sp := fun vs H Q _ => ∃ (t : Addr) (c e n m : Int), vs = [.ref t, .int n, .int m] ∧ SqT K H t [.int c, .int e] ∧ 0 ≤ c ∧ ∀ p, H p = none → Q (.ref p) (upd H p (.tup [.int (worth c e n + m), .int n]))
theorem pick2 {a b : Int} {r : Int} {P : Int → Prop} (h0 : 0 ≤ r) (h1 : r < 2) (ha : P a) (hb : P b) : ∃ c : Int, atI [V.int a, V.int b] r = some (.int c) ∧ P c := by
  have : r = 0 ∨ r = 1 := by omega
  rcases this with rfl | rfl
  · exact ⟨_, rfl, ha⟩
  · exact ⟨_, rfl, hb⟩
theorem pick3 {a b c : Int} {r : Int} {P : Int → Prop} (h0 : 0 ≤ r) (h1 : r < 3) (ha : P a) (hb : P b) (hc : P c) : ∃ x : Int, atI [V.int a, V.int b, V.int c] r = some (.int x) ∧ P x := by
  have : r = 0 ∨ r = 1 ∨ r = 2 := by omega
  rcases this with rfl | rfl | rfl
  · exact ⟨_, rfl, ha⟩
  · exact ⟨_, rfl, hb⟩
  · exact ⟨_, rfl, hc⟩
theorem pick4 {a b c d : Int} {r : Int} {P : Int → Prop} (h0 : 0 ≤ r) (h1 : r < 4) (ha : P a) (hb : P b) (hc : P c) (hd : P d) : ∃ x : Int, atI [V.int a, V.int b, V.int c, V.int d] r = some (.int x) ∧ P x := by
  have : r = 0 ∨ r = 1 ∨ r = 2 ∨ r = 3 := by omega
  rcases this with rfl | rfl | rfl | rfl
  · exact ⟨_, rfl, ha⟩
  · exact ⟨_, rfl, hb⟩
  · exact ⟨_, rfl, hc⟩
  · exact ⟨_, rfl, hd⟩
end Ah
set_option Elab.async false
set_option linter.all false
set_option maxRecDepth 100000
set_option maxHeartbeats 4000000
/-! data in the heap -/
namespace Ah
open PySem PySem.Spec PyProof.Rows L2
section
variable {K : PySem.W.Frag} {H H' : Hp}
theorem Same.seqT {a : Addr} {xs : List V} (e : Same H H') (h : SqT K H a xs) : SqT K H' a xs := by
  rcases h with (h | ⟨o, h⟩) | h
  · exact .inl (.inl (e _ _ h))
  · exact .inl (.inr ⟨o, e _ _ h⟩)
  · exact .inr h
mutual
theorem Dp.same (e : Same H H') : ∀ {v : V} {d : PyData}, Dp K H v d → Dp K H' v d
  | _, _, .non => .non
  | _, _, .bl b => .bl b
  | _, _, .int i => .int i
  | _, _, .str x => .str x
  | _, _, .lst h a => .lst (e.seq h) (DpAll.same e a)
  | _, _, .tup h a => .tup (Same.seqT e h) (DpAll.same e a)
theorem DpAll.same (e : Same H H') : ∀ {vs : List V} {ds : List PyData}, DpAll K H vs ds → DpAll K H' vs ds
  | _, _, .nil => .nil
  | _, _, .cons h t => .cons (Dp.same e h) (DpAll.same e t)
end
theorem DpAll.length {vs : List V} {ds : List PyData} : DpAll K H vs ds → vs.length = ds.length := by
  intro h
  induction vs generalizing ds with
  | nil => cases h; rfl
  | cons v vs ih => cases h with | cons _ t => simp [ih t]
theorem DpAll.append : ∀ {vs ws : List V} {ds es : List PyData}, DpAll K H vs ds → DpAll K H ws es → DpAll K H (vs ++ ws) (ds ++ es)
  | [], _, _, _, .nil, b => b
  | _ :: _, _, _, _, .cons h t, b => .cons h (DpAll.append t b)
theorem DpAll.get : ∀ {vs : List V} {ds : List PyData} {i : Nat} {v : V}, DpAll K H vs ds → vs[i]? = some v → ∃ d, ds[i]? = some d ∧ Dp K H v d
  | _, _, 0, _, .cons h _, e => by cases e; exact ⟨_, rfl, h⟩
  | _, _, i + 1, v, .cons _ t, e => by
    obtain ⟨d, h1, h2⟩ := DpAll.get (i := i) (v := v) t (by simpa using e)
    exact ⟨d, by simpa using h1, h2⟩
theorem DpAll.of_map {α : Type} {f : α → V} {g : α → PyData} : ∀ {l : List α}, (∀ a ∈ l, Dp K H (f a) (g a)) → DpAll K H (l.map f) (l.map g)
  | [], _ => .nil
  | a :: l, h => .cons (h a (by simp)) (DpAll.of_map fun b hb => h b (by simp [hb]))
theorem DpAll.mem : ∀ {vs : List V} {ds : List PyData} {v : V}, DpAll K H vs ds → v ∈ vs → ∃ d, d ∈ ds ∧ Dp K H v d
  | _, _, v, .cons h t, hm => by
    rcases List.mem_cons.mp hm with e | hm
    · subst e; exact ⟨_, by simp, h⟩
    · obtain ⟨d, h1, h2⟩ := DpAll.mem t hm
      exact ⟨d, by simp [h1], h2⟩
end
/-! ### flat data, of any depth: what == asks -/
mutual
/-- texts short, depth small -/
def okD : Nat → PyData → Bool
  | _, .none => true
  | _, .bool _ => true
  | _, .int _ => true
  | _, .str x => PyData.strOk x
  | 0, .list _ => false
  | n + 1, .list xs => okDs n xs
  | 0, .tuple _ => false
  | n + 1, .tuple xs => okDs n xs
  | _, .dict _ => false
def okDs : Nat → List PyData → Bool
  | _, [] => true
  | n, x :: xs => okD n x && okDs n xs
end
mutual
theorem okD_shape : ∀ (n : Nat) (d : PyData), okD n d = true → d.canLay0 = true ∧ d.depth ≤ n
  | n, .none, _ => by constructor <;> simp [PyData.canLay0, PyData.depth]
  | n, .bool _, _ => by constructor <;> simp [PyData.canLay0, PyData.depth]
  | n, .int _, _ => by constructor <;> simp [PyData.canLay0, PyData.depth]
  | n, .str x, h => by
    have h' : PyData.strOk x = true := by simpa [okD] using h
    constructor
    · simpa [PyData.canLay0] using h'
    · simp [PyData.depth]
  | 0, .list _, h => by simp [okD] at h
  | n + 1, .list xs, h => by
    obtain ⟨a, b⟩ := okDs_shape n xs (by simpa [okD] using h)
    exact ⟨by simpa [PyData.canLay0] using a, by simp only [PyData.depth]; omega⟩
  | 0, .tuple _, h => by simp [okD] at h
  | n + 1, .tuple xs, h => by
    obtain ⟨a, b⟩ := okDs_shape n xs (by simpa [okD] using h)
    exact ⟨by simpa [PyData.canLay0] using a, by simp only [PyData.depth]; omega⟩
  | n, .dict _, h => by cases n <;> simp [okD] at h
theorem okDs_shape : ∀ (n : Nat) (ds : List PyData), okDs n ds = true → PyData.canLayAll0 ds = true ∧ PyData.depthAll ds ≤ n
  | n, [], _ => by constructor <;> simp [PyData.canLayAll0, PyData.depthAll]
  | n, d :: ds, h => by
    have h' : okD n d = true ∧ okDs n ds = true := by simpa [okDs] using h
    obtain ⟨a, b⟩ := okD_shape n d h'.1
    obtain ⟨a', b'⟩ := okDs_shape n ds h'.2
    exact ⟨by simp [PyData.canLayAll0, a, a'], by simp only [PyData.depthAll]; omega⟩
end
theorem shaped_of {n : Nat} {d : PyData} (h : okD n d = true) (hn : n ≤ 64 := by decide) : SeqAt.shaped d = true := by
  obtain ⟨a, b⟩ := okD_shape n d h
  unfold SeqAt.shaped
  rw [a, Bool.true_and]
  exact decide_eq_true (by omega)
theorem okDs_map {α : Type} {n : Nat} {f : α → PyData} : ∀ {l : List α}, (∀ a ∈ l, okD n (f a) = true) → okDs n (l.map f) = true
  | [], _ => by simp [okDs]
  | a :: l, h => by
    show okDs n (f a :: l.map f) = true
    simp only [okDs, h a (by simp), Bool.true_and]
    exact okDs_map fun b hb => h b (by simp [hb])
theorem eqv_same {n : Nat} {d : PyData} (h : okD n d = true) : PyData.eqv d d = true := SeqAt.eqv_refl d (okD_shape n d h).1
section
variable {K : PySem.W.Frag} {H : Hp} {Q : VK} {x y : V} {d e : PyData}
theorem s_eqD (hx : Dp K H x d) (hy : Dp K H y e) (h1 : SeqAt.shaped d = true) (h2 : SeqAt.shaped e = true) (q : Q (.bl (PyData.eqv d e)) H) : rEqD K x y H Q := ⟨d, e, hx, hy, h1, h2, q⟩
theorem s_neD (hx : Dp K H x d) (hy : Dp K H y e) (h1 : SeqAt.shaped d = true) (h2 : SeqAt.shaped e = true) (q : Q (.bl (!PyData.eqv d e)) H) : rNeD K x y H Q := ⟨d, e, hx, hy, h1, h2, q⟩
end
/-! ### lists of marks: refs to tuples (count, era) -/
def mref (m : Addr × Int × Int) : V := .ref m.1
structure MarksAt (K : PySem.W.Frag) (H : Hp) (p : Addr) (ms : List (Addr × Int × Int)) : Prop where
  seq : SqL K H p (ms.map mref)
  tup : ∀ m ∈ ms, SqT K H m.1 [.int m.2.1, .int m.2.2] ∧ 0 ≤ m.2.1
theorem MarksAt.same {K : PySem.W.Frag} {H H' : Hp} {p : Addr} {ms : List (Addr × Int × Int)} (h : MarksAt K H p ms) (e : Same H H') : MarksAt K H' p ms := ⟨e.seq h.seq, fun m hm => ⟨Same.seqT e (h.tup m hm).1, (h.tup m hm).2⟩⟩
def dMarks (ms : List (Addr × Int × Int)) : PyData := .list (ms.map fun m => .tuple [.int m.2.1, .int m.2.2])
theorem MarksAt.data {K : PySem.W.Frag} {H : Hp} {p : Addr} {ms : List (Addr × Int × Int)} (h : MarksAt K H p ms) : Dp K H (.ref p) (dMarks ms) :=
  .lst h.seq (DpAll.of_map fun m hm => .tup (h.tup m hm).1 (.cons (.int _) (.cons (.int _) .nil)))
theorem ok_marks (ms : List (Addr × Int × Int)) : okD 2 (dMarks ms) = true := by
  unfold dMarks
  simp only [okD]
  exact okDs_map fun m _ => by simp [okD, okDs]
theorem map_get {α β : Type} {f : α → β} {l : List α} {i : Nat} {y : β} (h : (l.map f)[i]? = some y) : ∃ a, l[i]? = some a ∧ y = f a := by
  rw [List.getElem?_map] at h
  cases e : l[i]? with
  | none => rw [e] at h; cases h
  | some n => rw [e] at h; exact ⟨n, rfl, (Option.some.inj h).symm⟩
theorem take_more {α : Type} {l : List α} {i : Nat} {x : α} (h : l[i]? = some x) : l.take (i + 1) = l.take i ++ [x] := by
  obtain ⟨hi, e⟩ := List.getElem?_eq_some_iff.mp h
  rw [List.take_succ, h]; rfl
/-- a list's greatest worth -/
def spGreat (K : PySem.W.Frag) : Sp := fun vs H Q _ => ∃ (p : Addr) (ms : List (Addr × Int × Int)) (n : Int), vs = [.ref p, .int n] ∧ MarksAt K H p ms ∧ ms.length ≤ 1000 ∧
  (ms = [] → ∀ H', Same H H' → Q .non H') ∧ (∀ (g : Int) (H' : Hp), Same H H' → (∃ m ∈ ms, g = worth m.2.1 m.2.2 n) → (∀ m ∈ ms, worth m.2.1 m.2.2 n ≤ g) → Q (.int g) H')

/-! ### comprehensions whose values are told by the turn alone -/
def PvV (res : Nat → List V) (H1 : Hp) (D : Addr) (i : Nat) (H : Hp) : Prop := Same H1 H ∧ H D = some (.lst (res i))
section
variable {res : Nat → List V} {H1 H H4 : Hp} {D : Addr} {i : Nat} {y : V}
theorem lc_begin (hD : H1 D = none) (r0 : res 0 = []) : PvV res H1 D 0 (upd H1 D (.lst [])) := ⟨Same.new (Same.refl _) hD, by rw [upd_same, r0]⟩
theorem Same.mut {H1 H : Hp} {D : Addr} {o : HO} (s : Same H1 H) (hD : H1 D = none) : Same H1 (upd H D o) := fun a u e => by
  rw [upd_ne (ne_of_none e hD)]; exact s a u e
theorem lc_put (p : PvV res H1 D i H) (hD : H1 D = none) (e : Same H H4) (er : res (i + 1) = res i ++ [y]) (hl : (res i).length < sizeLine) :
    ∃ acc, H4 D = some (.lst acc) ∧ acc.length < sizeLine ∧ PvV res H1 D (i + 1) (upd H4 D (.lst (acc ++ [y]))) :=
  ⟨res i, e _ _ p.2, hl, Same.mut (p.1.trans e) hD, by rw [upd_same, er]⟩
theorem lc_skip (p : PvV res H1 D i H) (e : Same H H4) (er : res (i + 1) = res i) : PvV res H1 D (i + 1) H4 := ⟨p.1.trans e, by rw [er]; exact e _ _ p.2⟩
end
/-- the values of a map, so far -/
def resM {α : Type} (l : List α) (g : α → V) (i : Nat) : List V := (l.take i).map g
theorem resM_0 {α : Type} {l : List α} {g : α → V} : resM l g 0 = [] := by simp [resM]
theorem resM_s {α : Type} {l : List α} {g : α → V} {i : Nat} {x : α} (h : l[i]? = some x) : resM l g (i + 1) = resM l g i ++ [g x] := by
  unfold resM; rw [take_more h, List.map_append]; rfl
theorem resM_all {α : Type} {l : List α} {g : α → V} {n : Nat} (h : n = l.length) : resM l g n = l.map g := by subst h; simp [resM]
theorem resM_len {α : Type} {l : List α} {g : α → V} {i : Nat} (h : l.length ≤ 100000) : (resM l g i).length < sizeLine := by
  have : (resM l g i).length ≤ l.length := by simp [resM]; omega
  rw [sizeLine_eq]; omega
/-- those of a filter, then mapped, so far -/
def resF {α : Type} (l : List α) (p : α → Bool) (g : α → V) (i : Nat) : List V := ((l.take i).filter p).map g
theorem resF_0 {α : Type} {l : List α} {p : α → Bool} {g : α → V} : resF l p g 0 = [] := by simp [resF]
theorem resF_y {α : Type} {l : List α} {p : α → Bool} {g : α → V} {i : Nat} {x : α} (h : l[i]? = some x) (c : p x = true) : resF l p g (i + 1) = resF l p g i ++ [g x] := by
  unfold resF; rw [take_more h, List.filter_append, List.map_append]; simp [c]
theorem resF_n {α : Type} {l : List α} {p : α → Bool} {g : α → V} {i : Nat} {x : α} (h : l[i]? = some x) (c : p x = false) : resF l p g (i + 1) = resF l p g i := by
  unfold resF; rw [take_more h, List.filter_append, List.map_append]; simp [c]
theorem resF_all {α : Type} {l : List α} {p : α → Bool} {g : α → V} {n : Nat} (h : n = l.length) : resF l p g n = (l.filter p).map g := by subst h; simp [resF]
theorem resF_len {α : Type} {l : List α} {p : α → Bool} {g : α → V} {i : Nat} (h : l.length ≤ 100000) : (resF l p g i).length < sizeLine := by
  have h1 : (resF l p g i).length ≤ (l.take i).length := by unfold resF; rw [List.length_map]; exact List.length_filter_le _ _
  have h2 : (l.take i).length ≤ l.length := by simp; omega
  rw [sizeLine_eq]; omega
section
variable {H : Hp} {Q : VK} {σ : L2.St}
theorem u_lc {wi : TI} {g : TG} {tt : TT} {te : TE} {vs : List Nat} (k : wi σ H fun J H1 => ∀ D, H1 D = none → ∃ W : Nat → Nat → Hp → Prop, (∃ m, W 0 m (upd H1 D (.lst []))) ∧ ∀ i m H, W i m H →
  (J.stop i H ∧ Q (.ref D) H) ∨ (J.go i H ∧ ∃ Nx : Hp → Prop, (∀ H', Nx H' → ∃ m', m' < m ∧ W (i + 1) m' H') ∧ ∀ x H', J.yld i H x H' → g x (wipe σ vs) H' fun σ2 H2 => wipe σ2 vs = wipe σ vs ∧ tt σ2 H2 fun b H3 =>
    if b = true then te σ2 H3 fun y H4 => ∃ acc, H4 D = some (.lst acc) ∧ acc.length < sizeLine ∧ Nx (upd H4 D (.lst (acc ++ [y]))) else Nx H3)) : tLc wi g tt te vs σ H Q := k
theorem u_yes {q : Bool → Hp → Prop} (k : q true H) : tYes σ H q := k
end

section
variable {K : PySem.W.Frag} {H : Hp} {Q : VK} {σ : L2.St} {T : String} {r : V → List V → Hp → VK → Prop} {to : TE} {t : TA} {p : Addr} {xs : List V} {B : Prop}
theorem u_bm (k : to σ H fun x H1 => tyV K T x H1 ∧ t σ H1 fun xs H2 => r x xs H2 Q) : tBM K T r to t σ H Q := k
theorem u_bm0 (k : to σ H fun x H1 => tyV K T x H1 ∧ r x [] H1 Q) : tBM0 K T r to σ H Q := k
theorem s_tyL (h : SqL K H p xs) (k : B) : tyV K "list" (.ref p) H ∧ B := ⟨.inl ⟨rfl, _, h⟩, k⟩
theorem s_app {y : V} (h : H p = some (.lst xs)) (hl : xs.length < sizeLine) (q : Q .non (upd H p (.lst (xs ++ [y])))) : rAppend (.ref p) [y] H Q := ⟨p, xs, y, rfl, rfl, h, hl, q⟩
end
end Ah
set_option Elab.async false
set_option linter.all false
set_option maxRecDepth 100000
set_option maxHeartbeats 4000000
/-! words: texts as lists of signs -/
namespace Ah
open PySem PySem.Spec PyProof.Rows L2 TL
def low (c : Nat) : Bool := decide (97 ≤ c) && decide (c ≤ 122)
def partL (l : List Nat) : Bool := decide (1 ≤ l.length) && decide (l.length ≤ 12) && l.all low
/-- cut at the blanks, acc ahead -/
def spA : List Nat → List Nat → List (List Nat)
  | acc, [] => [acc]
  | acc, c :: r => if c = 32 then acc :: spA [] r else spA (acc ++ [c]) r
theorem spl_spA : ∀ (l acc : List Nat), spl [32] 0 acc l = spA acc l
  | [], acc => by simp [spl, spA]
  | c :: r, acc => by
    by_cases h : c = 32
    · subst h
      rw [spl_hit (by simp [pre])]
      show acc :: spl [32] 0 [] r = _
      rw [spl_spA r []]; simp [spA]
    · rw [spl_miss (by simp [pre, h]), spl_spA r]; simp [spA, h]
def wordL (l : List Nat) : Bool := decide (l.length ≤ 24) && decide ((spA [] l).length ≤ 4) && (spA [] l).all partL
def isW (s : Str) : Bool := wordL (tl s)
theorem tl_blank : tl (Str.ofString " ") = [32] := by rw [tl_ofString]; rfl
theorem split_blank (s : Str) : (Txt.split s (Str.ofString " ")).map tl = spA [] (tl s) := by
  rw [split_spl s _ (by rw [tl_blank]; simp) (kind_ok (by decide +kernel)), tl_blank, spl_spA]
theorem spA_ne : ∀ (l acc : List Nat), spA acc l ≠ []
  | [], acc => by simp [spA]
  | c :: r, acc => by
    unfold spA; split
    · simp
    · exact spA_ne r _
theorem joinL_cons (p : List Nat) {ps : List (List Nat)} (h : ps ≠ []) : joinL [32] (p :: ps) = p ++ 32 :: joinL [32] ps := by
  cases ps with
  | nil => exact absurd rfl h
  | cons q r => rfl
theorem join_spA : ∀ (l acc : List Nat), joinL [32] (spA acc l) = acc ++ l
  | [], acc => by simp [spA, joinL]
  | c :: r, acc => by
    unfold spA; split
    · rename_i h; subst h
      rw [joinL_cons _ (spA_ne r []), join_spA r []]; rfl
    · rw [join_spA r]; simp
theorem spA_app : ∀ (p acc : List Nat) (r : List Nat), 32 ∉ p → spA acc (p ++ r) = spA (acc ++ p) r
  | [], acc, r, _ => by simp
  | c :: p, acc, r, h => by
    have hc : c ≠ 32 := fun e => h (by simp [e])
    show spA acc (c :: (p ++ r)) = _
    unfold spA
    rw [if_neg hc, spA_app p _ r (fun e => h (by simp [e]))]
    simp
    cases r <;> simp [spA]
theorem spA_one {p : List Nat} (h : 32 ∉ p) : spA [] p = [p] := by
  have := spA_app p [] [] h
  simpa [spA] using this
theorem spA_join : ∀ {ps : List (List Nat)}, ps ≠ [] → (∀ p ∈ ps, 32 ∉ p) → spA [] (joinL [32] ps) = ps
  | [], h, _ => absurd rfl h
  | [p], _, hp => spA_one (hp p (by simp))
  | p :: q :: r, _, hp => by
    show spA [] (p ++ (32 :: joinL [32] (q :: r))) = _
    rw [spA_app p [] _ (hp p (by simp))]
    show spA ([] ++ p) (32 :: joinL [32] (q :: r)) = _
    unfold spA
    rw [if_pos rfl, spA_join (by simp) fun z hz => hp z (by simp [hz])]
    rfl
/-- the first part begins with acc -/
theorem spA_head : ∀ (l acc : List Nat), ∃ q ps, spA acc l = (acc ++ q) :: ps
  | [], acc => ⟨[], [], by simp [spA]⟩
  | c :: r, acc => by
    unfold spA; split
    · exact ⟨[], spA [] r, by simp⟩
    · obtain ⟨q, ps, e⟩ := spA_head r (acc ++ [c])
      exact ⟨c :: q, ps, by rw [e]; simp⟩
theorem low_ne {c : Nat} (h : low c = true) : c ≠ 32 := by
  rintro rfl; simp [low] at h
theorem partL_no {p : List Nat} (h : partL p = true) : 32 ∉ p := fun hm => by
  unfold partL at h
  simp only [Bool.and_eq_true, List.all_eq_true] at h
  exact low_ne (h.2 32 hm) rfl
theorem partL_ne {p : List Nat} (h : partL p = true) : p ≠ [] := by
  rintro rfl; simp [partL] at h
/-- a word by its parts -/
theorem wordL_iff {l : List Nat} : wordL l = true ↔ ∃ ps : List (List Nat), ps ≠ [] ∧ ps.length ≤ 4 ∧ (∀ p ∈ ps, partL p = true) ∧ l = joinL [32] ps ∧ l.length ≤ 24 := by
  constructor
  · intro h
    unfold wordL at h
    simp only [Bool.and_eq_true, decide_eq_true_eq, List.all_eq_true] at h
    exact ⟨spA [] l, spA_ne _ _, h.1.2, h.2, by rw [join_spA]; rfl, h.1.1⟩
  · rintro ⟨ps, h1, h2, h3, rfl, h4⟩
    unfold wordL
    rw [spA_join h1 fun p hp => partL_no (h3 p hp)]
    simp only [Bool.and_eq_true, decide_eq_true_eq, List.all_eq_true]
    exact ⟨⟨h4, h2⟩, h3⟩
/-! ### going over the signs -/
def scan : Nat → Nat → List Nat → Bool
  | n, p, [] => decide (0 < n) && decide (p < 5)
  | n, p, c :: r => if c = 32 then (if n = 0 then false else scan 0 (p + 1) r) else if low c = true then (if 12 < n + 1 then false else scan (n + 1) p r) else false
theorem all_head_false {q : List Nat} {acc : List Nat} {l : List Nat} (h : ∀ q, partL (acc ++ q) = false) : (spA acc l).all partL = false := by
  obtain ⟨q, ps, e⟩ := spA_head l acc
  rw [e, List.all_cons, h q, Bool.false_and]
theorem scan_eq : ∀ (l acc : List Nat) (p : Nat), 1 ≤ p → acc.all low = true → acc.length ≤ 12 → scan acc.length p l = (decide (p - 1 + (spA acc l).length ≤ 4) && (spA acc l).all partL)
  | [], acc, p, hp, ha, hl => by
    have e : spA acc [] = [acc] := rfl
    rw [e]
    simp only [scan, List.length_singleton, List.all_cons, List.all_nil, Bool.and_true, partL, ha]
    rw [Bool.eq_iff_iff]
    simp only [Bool.and_eq_true, decide_eq_true_eq]
    omega
  | c :: r, acc, p, hp, ha, hl => by
    by_cases h : c = 32
    · subst h
      unfold scan spA
      rw [if_pos rfl, if_pos rfl]
      by_cases h0 : acc.length = 0
      · rw [if_pos h0]
        have : acc = [] := List.eq_nil_of_length_eq_zero h0
        subst this
        simp [partL]
      · rw [if_neg h0]
        have ih := scan_eq r [] (p + 1) (by omega) rfl (by simp)
        simp only [List.length_nil] at ih
        rw [ih, List.all_cons, List.length_cons]
        have : partL acc = true := by
          unfold partL
          rw [ha]; simp; omega
        rw [this, Bool.true_and]
        congr 1
        exact decide_eq_decide.mpr (by omega)
    · unfold scan spA
      rw [if_neg h, if_neg h]
      by_cases h1 : low c = true
      · rw [if_pos h1]
        by_cases h2 : 12 < acc.length + 1
        · rw [if_pos h2, all_head_false (q := []) (fun q => by
            unfold partL
            have : ¬ (acc ++ [c] ++ q).length ≤ 12 := by simp; omega
            simp only [decide_eq_false this, Bool.and_false, Bool.false_and]), Bool.and_false]
        · rw [if_neg h2]
          have ih := scan_eq r (acc ++ [c]) p hp (by simp only [List.all_append, ha, List.all_cons, h1, List.all_nil, Bool.and_true]) (by simp; omega)
          rw [List.length_append] at ih
          exact ih
      · rw [if_neg h1, all_head_false (q := []) (fun q => by
          unfold partL
          have : (acc ++ [c] ++ q).all low = false := by
            simp [List.all_append, h1]
          rw [this, Bool.and_false]), Bool.and_false]
theorem scan_word {l : List Nat} (h1 : l.length ≤ 24) : scan 0 1 l = wordL l := by
  have := scan_eq l [] 1 (by omega) rfl (by simp)
  simp only [List.length_nil] at this
  rw [this]
  unfold wordL
  rw [decide_eq_true h1, Bool.true_and]
  congr 1
  exact decide_eq_decide.mpr (by omega)
theorem wordL_nil : wordL [] = false := by decide
/-! ### cutting -/
theorem tl_cut_to {z : Str} {n : Int} (h : 0 ≤ n) : tl (cutS z none (some n)) = (tl z).take n.toNat := by
  obtain ⟨k, rfl⟩ := Int.eq_ofNat_of_zero_le h
  unfold cutS
  rw [tl_mk, HT.sIx_none, List.drop_zero, HT.sIx_nat, Nat.sub_zero, len_tl, Int.toNat_natCast, List.take_eq_take_iff]
  simp only [tl]
  omega
theorem tl_cut_from {z : Str} {n : Int} (h : 0 ≤ n) : tl (cutS z (some n) none) = (tl z).drop n.toNat := by
  obtain ⟨k, rfl⟩ := Int.eq_ofNat_of_zero_le h
  unfold cutS
  rw [tl_mk, HT.sIx_nat, HT.sIx_none, Int.toNat_natCast, len_tl, List.take_of_length_le (by rw [List.length_drop]; exact Nat.le_refl _)]
  by_cases c : k ≤ (tl z).length
  · rw [Nat.min_eq_left c]
  · rw [Nat.min_eq_right (by omega), List.drop_of_length_le (Nat.le_refl _), List.drop_of_length_le (by omega)]
theorem tl_cut_last {z : Str} : tl (cutS z none (some (-1))) = (tl z).dropLast := by
  unfold cutS
  have e : HT.sIx z.length z.length (some (-1)) = z.length - 1 := by
    show (if (-1 : Int) < 0 then ((-1 : Int) + (z.length : Int)).toNat else min (-1 : Int).toNat z.length) = z.length - 1
    rw [if_pos (by decide)]; omega
  rw [tl_mk, HT.sIx_none, List.drop_zero, e, Nat.sub_zero, len_tl, List.dropLast_eq_take]
/-! ### blanks struck at both ends -/
theorem getD_ne {l : List Nat} {k : Nat} (h : ∀ c ∈ l, c ≠ 32) (hk : k < l.length) : l.getD k 0 ≠ 32 := by
  have : l.getD k 0 = l[k] := by simp [List.getD, hk]
  rw [this]; exact h _ (List.getElem_mem hk)
theorem strip_keep {l t : List Nat} {s : Str} (e : tl s = l ++ t) (hl : l ≠ []) (h0 : l.getD 0 0 ≠ 32) (h1 : l.getD (l.length - 1) 0 ≠ 32) (ht : ∀ c ∈ t, c = 32) : tl (Txt.stripChars s (Str.ofString " ")) = l := by
  have hg : ∀ k, (Str.ofString " ").cps.contains k = decide (k = 32) := fun k => by
    have : (Str.ofString " ").cps = #[32] := by decide +kernel
    rw [this]; simp [eq_comm]
  unfold Txt.stripChars
  rw [stripBy_eq, tl_strSub, e]
  obtain ⟨a1, a2, a3⟩ := lo_facts (Str.ofString " ").cps.contains s
  have gd : ∀ k, s.cps.getD k 0 = (l ++ t).getD k 0 := fun k => by rw [← getD_list]; exact congrArg (fun z => z.getD k 0) e
  have ln : s.length = l.length + t.length := by rw [len_tl, e, List.length_append]
  have lp : 0 < l.length := List.length_pos_iff.mpr hl
  have hleft : ∀ k, k < l.length → (l ++ t).getD k 0 = l.getD k 0 := fun k hk => by simp [List.getD, List.getElem?_append_left hk]
  have lo0 : stripLo (Str.ofString " ").cps.contains true s = 0 := by
    rcases Nat.eq_zero_or_pos (stripLo (Str.ofString " ").cps.contains true s) with z | z
    · exact z
    · have := a2 0 z
      rw [hg, gd, hleft 0 lp] at this
      exact absurd (of_decide_eq_true this) h0
  rw [lo0]
  obtain ⟨b1, b2, b3, b4⟩ := hi_facts (Str.ofString " ").cps.contains s 0 (Nat.zero_le _)
  have hi : stripHi (Str.ofString " ").cps.contains true s 0 = l.length := by
    generalize stripHi (Str.ofString " ").cps.contains true s 0 = q at b1 b2 b3 b4
    by_cases c : q < l.length
    · have := b3 (l.length - 1) (by omega) (by omega)
      rw [hg, gd, hleft _ (by omega)] at this
      exact absurd (of_decide_eq_true this) h1
    · by_cases c2 : q = l.length
      · exact c2
      · exfalso
        rcases b4 with z | z
        · omega
        · rw [hg, gd] at z
          have : (l ++ t).getD (q - 1) 0 = 32 := by
            have hlt : q - 1 - l.length < t.length := by omega
            have : (l ++ t).getD (q - 1) 0 = t[q - 1 - l.length] := by
              simp [List.getD, List.getElem?_append_right (show l.length ≤ q - 1 by omega), List.getElem?_eq_getElem hlt]
            rw [this]; exact ht _ (List.getElem_mem hlt)
          rw [this] at z; simp at z
  rw [hi]; simp
/-- ends of a joined row of parts -/
theorem join_ends : ∀ {ps : List (List Nat)}, ps ≠ [] → (∀ p ∈ ps, partL p = true) → joinL [32] ps ≠ [] ∧ (joinL [32] ps).getD 0 0 ≠ 32 ∧ (joinL [32] ps).getD ((joinL [32] ps).length - 1) 0 ≠ 32
  | [], h, _ => absurd rfl h
  | [p], _, hp => by
    have h := hp p (by simp)
    have hn := partL_ne h
    have lp : 0 < p.length := List.length_pos_iff.mpr hn
    have a : ∀ c ∈ p, c ≠ 32 := fun c hc e => partL_no h (e ▸ hc)
    exact ⟨hn, getD_ne a lp, getD_ne a (by show p.length - 1 < p.length; omega)⟩
  | p :: q :: r, _, hp => by
    have h := hp p (by simp)
    have lp : 0 < p.length := List.length_pos_iff.mpr (partL_ne h)
    have a : ∀ c ∈ p, c ≠ 32 := fun c hc e => partL_no h (e ▸ hc)
    obtain ⟨i1, i2, i3⟩ := join_ends (ps := q :: r) (by simp) fun z hz => hp z (by simp [hz])
    rw [joinL_cons p (by simp)]
    have li : 0 < (joinL [32] (q :: r)).length := List.length_pos_iff.mpr i1
    refine ⟨by simp, ?_, ?_⟩
    · have : (p ++ 32 :: joinL [32] (q :: r)).getD 0 0 = p.getD 0 0 := by simp [List.getD, List.getElem?_append_left lp]
      rw [this]; exact getD_ne a lp
    · have : (p ++ 32 :: joinL [32] (q :: r)).getD ((p ++ 32 :: joinL [32] (q :: r)).length - 1) 0 = (joinL [32] (q :: r)).getD ((joinL [32] (q :: r)).length - 1) 0 := by
        simp only [List.length_append, List.length_cons, List.getD]
        rw [List.getElem?_append_right (by omega)]
        congr 1
        rw [show p.length + ((joinL [32] (q :: r)).length + 1) - 1 - p.length = ((joinL [32] (q :: r)).length - 1) + 1 by omega, List.getElem?_cons_succ]
      rw [this]; exact i3
theorem partL_take {p : List Nat} (h : partL p = true) {n : Nat} (h1 : 1 ≤ n) : partL (p.take n) = true := by
  unfold partL at h ⊢
  simp only [Bool.and_eq_true, decide_eq_true_eq, List.all_eq_true, List.length_take] at h ⊢
  exact ⟨⟨by omega, by omega⟩, fun c hc => h.2 c (List.mem_of_mem_take hc)⟩
/-- a beginning of a joined row: a joined row, or one and a blank -/
theorem join_take : ∀ {ps : List (List Nat)} {n : Nat}, ps ≠ [] → (∀ p ∈ ps, partL p = true) → 1 ≤ n → ∃ qs : List (List Nat), qs ≠ [] ∧ qs.length ≤ ps.length ∧ (∀ p ∈ qs, partL p = true) ∧
    ((joinL [32] ps).take n = joinL [32] qs ∨ (joinL [32] ps).take n = joinL [32] qs ++ [32])
  | [], _, h, _, _ => absurd rfl h
  | [p], n, _, hp, h1 => ⟨[p.take n], by simp, by simp, by simpa using partL_take (hp p (by simp)) h1, .inl rfl⟩
  | p :: q :: r, n, _, hp, h1 => by
    have h := hp p (by simp)
    rw [joinL_cons p (by simp)]
    by_cases c : n ≤ p.length
    · exact ⟨[p.take n], by simp, by simp, by simpa using partL_take h h1, .inl (by rw [List.take_append_of_le_length c]; rfl)⟩
    · by_cases c2 : n = p.length + 1
      · subst c2
        exact ⟨[p], by simp, by simp, by simpa using h, .inr (by rw [List.take_append, List.take_of_length_le (by omega), show p.length + 1 - p.length = 1 by omega]; rfl)⟩
      · obtain ⟨qs, i1, i2, i3, i4⟩ := join_take (ps := q :: r) (n := n - p.length - 1) (by simp) (fun z hz => hp z (by simp [hz])) (by omega)
        have et : (p ++ 32 :: joinL [32] (q :: r)).take n = p ++ 32 :: (joinL [32] (q :: r)).take (n - p.length - 1) := by
          rw [List.take_append, List.take_of_length_le (by omega)]
          congr 1
          rw [show n - p.length = (n - p.length - 1) + 1 by omega, List.take_succ_cons]
          rfl
        refine ⟨p :: qs, by simp, by simp at i2 ⊢; omega, fun z hz => ?_, ?_⟩
        · rcases List.mem_cons.mp hz with rfl | hz
          · exact h
          · exact i3 z hz
        · rw [et, joinL_cons p i1]
          rcases i4 with e | e
          · left; rw [e]
          · right; rw [e]; simp

/-! ### is_part, is_word: what is promised -/
def spPart : Sp := fun vs H Q _ => ∃ s : Str, vs = [.str s] ∧ s.length ≤ sizeLine ∧ Q (.bl (partL (tl s))) H
/-- any thing: a text, or a thing of another kind -/
def spIsWord (K : PySem.W.Frag) : Sp := fun vs H Q _ => ∃ x : V, vs = [x] ∧ ((∃ s : Str, x = .str s ∧ s.length ≤ 1000000 ∧ PyData.strOk s = true ∧ ∀ H', Same H H' → Q (.bl (isW s)) H') ∨ (∃ t : String, TyX K H x (.type t) ∧ kitB t "str" = some false ∧ Q (.bl false) H))
theorem mem_letters {c : Nat} : decide (c ∈ (Str.ofString "abcdefghijklmnopqrstuvwxyz").cps.toList) = low c := by
  rw [show (Str.ofString "abcdefghijklmnopqrstuvwxyz").cps.toList = [97,98,99,100,101,102,103,104,105,106,107,108,109,110,111,112,113,114,115,116,117,118,119,120,121,122] by decide +kernel]
  unfold low
  rw [Bool.eq_iff_iff]
  simp only [decide_eq_true_eq, Bool.and_eq_true, List.mem_cons, List.not_mem_nil, or_false]
  omega
theorem sign_take {s : Str} {i : Nat} {c : Nat} (h : s.cps[i]? = some c) : (tl s).take (i + 1) = (tl s).take i ++ [c] := take_more (by rw [tl, Array.getElem?_toList]; exact h)
theorem sign_mem {s : Str} {i : Nat} {c : Nat} (h : s.cps[i]? = some c) : c ∈ tl s := List.mem_of_getElem? (i := i) (by rw [tl, Array.getElem?_toList]; exact h)

theorem mem_join : ∀ {ps : List (List Nat)} {p : List Nat}, p ∈ ps → p.length ≤ (joinL [32] ps).length ∧ ∀ c ∈ p, c ∈ joinL [32] ps
  | [q], p, h => by
    have : p = q := by simpa using h
    subst this
    exact ⟨Nat.le_refl _, fun c hc => hc⟩
  | q :: r :: t, p, h => by
    rw [joinL_cons q (by simp)]
    rcases List.mem_cons.mp h with rfl | h
    · exact ⟨by simp, fun c hc => by simp [hc]⟩
    · obtain ⟨a, b⟩ := mem_join h
      exact ⟨by simp; omega, fun c hc => by simp [b c hc]⟩
theorem strOk_iff {s : Str} : PyData.strOk s = true ↔ ∀ c ∈ tl s, c < 1114112 := by
  unfold PyData.strOk
  rw [← Array.all_toList, List.all_eq_true]
  simp [tl]
/-- the parts of a text that is cut at the blanks -/
theorem split_mem {s y : Str} (h : y ∈ Txt.split s (Str.ofString " ")) : (tl y).length ≤ (tl s).length ∧ ∀ c ∈ tl y, c ∈ tl s := by
  have e := split_blank s
  have hm : tl y ∈ spA [] (tl s) := by rw [← e]; exact List.mem_map.mpr ⟨y, h, rfl⟩
  have := mem_join hm
  rw [join_spA] at this
  exact this
theorem eqv_strs_nil (l : List Str) : PyData.eqv (.list (l.map .str)) (.list []) = l.isEmpty := by
  cases l <;> rfl
theorem ok_strs {l : List Str} (h : ∀ s ∈ l, PyData.strOk s = true) : okD 1 (.list (l.map .str)) = true := by
  simp only [okD]
  exact okDs_map fun s hs => by simp [okD, h s hs]

theorem eq_blank {c : Nat} : decide (V.str ⟨#[c]⟩ = V.str (Str.ofString " ")) = decide (c = 32) := by
  rw [show (Str.ofString " ") = (⟨#[32]⟩ : Str) by decide +kernel, Bool.eq_iff_iff]
  simp

/-- a joined row cut and struck of blanks is a word -/
theorem word_cut {s : Str} {ps : List (List Nat)} {n : Int} (e : tl s = joinL [32] ps) (h1 : ps ≠ []) (h2 : ps.length ≤ 4) (h3 : ∀ p ∈ ps, partL p = true) (hn : 1 ≤ n) (hl : n ≤ 24 ∨ (tl s).length ≤ 24) :
    isW (Txt.stripChars (cutS s none (some n)) (Str.ofString " ")) = true := by
  have ec := tl_cut_to (z := s) (n := n) (by omega)
  rw [e] at ec
  obtain ⟨qs, q1, q2, q3, q4⟩ := join_take (n := n.toNat) h1 h3 (by omega)
  obtain ⟨a1, a2, a3⟩ := join_ends q1 q3
  have hlen : (joinL [32] qs).length ≤ 24 := by
    have h4 : (joinL [32] qs).length ≤ ((joinL [32] ps).take n.toNat).length := by
      rcases q4 with z | z
      · rw [z]; exact Nat.le_refl _
      · rw [z]; simp
    rw [List.length_take] at h4
    rw [e] at hl
    omega
  have et : ∃ t, tl (cutS s none (some n)) = joinL [32] qs ++ t ∧ ∀ c ∈ t, c = 32 := by
    rcases q4 with z | z
    · exact ⟨[], by rw [ec, z]; simp, fun _ h => nomatch h⟩
    · exact ⟨[32], by rw [ec, z], fun c hc => by simpa using hc⟩
  obtain ⟨t, et, ht⟩ := et
  unfold isW
  rw [strip_keep et a1 a2 a3 ht]
  exact wordL_iff.mpr ⟨qs, q1, by omega, q3, rfl, hlen⟩
theorem word_cut_word {s : Str} {n : Int} (h : isW s = true) (hn : 1 ≤ n) : isW (Txt.stripChars (cutS s none (some n)) (Str.ofString " ")) = true := by
  obtain ⟨ps, h1, h2, h3, e, hl⟩ := wordL_iff.mp h
  exact word_cut e h1 h2 h3 hn (.inr hl)
def sgn (c : Nat) : Str := ⟨#[c]⟩
theorem tl_sgn (c : Nat) : tl (sgn c) = [c] := rfl
theorem tl_empty : tl (Str.ofString "") = [] := by rw [tl_ofString]; rfl
theorem tl_join_nil (cs : List Nat) : tl (Txt.join (Str.ofString "") (cs.map sgn)) = cs := by
  rw [join_eq, tl_join, tl_empty]
  have : ∀ cs : List Nat, joinL [] ((cs.map sgn).map tl) = cs := by
    intro cs
    induction cs with
    | nil => rfl
    | cons c cs ih =>
      cases cs with
      | nil => rfl
      | cons d r =>
        show [c] ++ ([] ++ joinL [] (((d :: r).map sgn).map tl)) = _
        rw [ih]; rfl
  exact this cs
theorem tl_join_blank (ps : List Str) : tl (Txt.join (Str.ofString " ") ps) = joinL [32] (ps.map tl) := by rw [join_eq, tl_join, tl_blank]
/-- a drawn word: the box changes, a word comes -/
def spWord : Sp := fun vs H Q _ => ∃ b : Addr, vs = [.ref b] ∧ BoxAt H b ∧ ∀ (s : Str) (H' : Hp), isW s = true → BoxAt H' b → But b H H' → Q (.str s) H'
/-- the three rows of letters -/
def isLets (z : Str) : Prop := z = Str.ofString "ab" ∨ z = Str.ofString "abc" ∨ z = Str.ofString "abcdefghijklmnopqrstuvwxyz"
theorem isLets.len {z : Str} (h : isLets z) : 2 ≤ (tl z).length ∧ (tl z).length ≤ 26 := by
  rcases h with rfl | rfl | rfl <;> rw [tl_ofString] <;> decide +kernel
theorem isLets.low {z : Str} (h : isLets z) : ∀ c ∈ tl z, low c = true := by
  rcases h with rfl | rfl | rfl <;> rw [tl_ofString] <;> decide +kernel
theorem isLets.pick {r : Int} (h0 : 0 ≤ r) (h1 : r < 3) : ∃ z, atI [V.str (Str.ofString "ab"), V.str (Str.ofString "abc"), V.str (Str.ofString "abcdefghijklmnopqrstuvwxyz")] r = some (.str z) ∧ isLets z := by
  have : r = 0 ∨ r = 1 ∨ r = 2 := by omega
  rcases this with rfl | rfl | rfl
  · exact ⟨_, rfl, .inl rfl⟩
  · exact ⟨_, rfl, .inr (.inl rfl)⟩
  · exact ⟨_, rfl, .inr (.inr rfl)⟩
theorem partL_of {cs : List Nat} (h : ∀ c ∈ cs, low c = true) (h1 : 1 ≤ cs.length) (h2 : cs.length ≤ 12) : partL cs = true := by
  unfold partL
  rw [decide_eq_true h1, decide_eq_true h2, List.all_eq_true.mpr h]; rfl
section
variable {H : Hp} {Q : VK}
theorem s_ixS {z : Str} {i : Int} {c : Nat} (h : z.length ≤ sizeLine) (a : atI z.cps.toList i = some c) (q : Q (.str ⟨#[c]⟩) H) : rIxS (.str z) (.int i) H Q := ⟨z, i, c, rfl, rfl, h, a, q⟩
end
theorem atI_get' {α : Type} {l : List α} {i : Int} (h0 : 0 ≤ i) (h1 : i < l.length) : ∃ c, atI l i = some c ∧ c ∈ l := by
  obtain ⟨k, rfl⟩ := Int.eq_ofNat_of_zero_le h0
  have hk : k < l.length := by omega
  exact ⟨l[k], atI_nat (by simp [hk]), List.getElem_mem hk⟩
theorem sum_len_le {α : Type} {f : α → Nat} {n : Nat} : ∀ {l : List α}, (∀ a ∈ l, f a ≤ n) → (l.map f).sum ≤ l.length * n
  | [], _ => by simp
  | a :: l, h => by
    have h1 := h a (by simp)
    have h2 := sum_len_le (l := l) fun b hb => h b (by simp [hb])
    simp only [List.map_cons, List.sum_cons, List.length_cons]
    rw [Nat.add_mul]; omega

/-! ### texts in bounds -/
structure Tx (n : Nat) (s : Str) : Prop where
  len : s.length ≤ n
  ok : PyData.strOk s = true
theorem Tx.mono {n m : Nat} {s : Str} (h : Tx n s) (l : n ≤ m) : Tx m s := ⟨Nat.le_trans h.len l, h.ok⟩
theorem mem_cutS {z : Str} {lo hi : Option Int} {c : Nat} (h : c ∈ tl (cutS z lo hi)) : c ∈ tl z := by
  unfold cutS at h
  exact List.mem_of_mem_drop (List.mem_of_mem_take h)
theorem Tx.cut {n : Nat} {s : Str} (h : Tx n s) (lo hi : Option Int) : Tx n (cutS s lo hi) :=
  ⟨Nat.le_trans (cutS_length _ _ _) h.len, strOk_iff.mpr fun c hc => strOk_iff.mp h.ok c (mem_cutS hc)⟩
theorem Tx.app {n m : Nat} {x y : Str} (h : Tx n x) (g : Tx m y) : Tx (n + m) (x ++ y) :=
  ⟨by
    have := h.len
    have := g.len
    rw [len_tl] at *
    rw [tl_append, List.length_append]; omega, strOk_iff.mpr fun c hc => by
    rw [tl_append] at hc
    rcases List.mem_append.mp hc with hc | hc
    · exact strOk_iff.mp h.ok c hc
    · exact strOk_iff.mp g.ok c hc⟩
theorem wordL_len {l : List Nat} (h : wordL l = true) : 1 ≤ l.length ∧ l.length ≤ 24 := by
  obtain ⟨ps, h1, h2, h3, e, hl⟩ := wordL_iff.mp h
  obtain ⟨a, _, _⟩ := join_ends h1 h3
  rw [← e] at a
  exact ⟨List.length_pos_iff.mpr a, hl⟩
theorem mem_joinL : ∀ {ps : List (List Nat)} {c : Nat}, c ∈ joinL [32] ps → c = 32 ∨ ∃ p ∈ ps, c ∈ p
  | [], c, h => by simp [joinL] at h
  | [p], c, h => .inr ⟨p, by simp, h⟩
  | p :: q :: r, c, h => by
    rw [joinL_cons p (by simp)] at h
    rcases List.mem_append.mp h with h | h
    · exact .inr ⟨p, by simp, h⟩
    · rcases List.mem_cons.mp h with h | h
      · exact .inl h
      · rcases mem_joinL h with h | ⟨z, hz, hc⟩
        · exact .inl h
        · exact .inr ⟨z, by simp [hz], hc⟩
theorem partL_low {p : List Nat} (h : partL p = true) : ∀ c ∈ p, low c = true := by
  unfold partL at h
  simp only [Bool.and_eq_true, List.all_eq_true] at h
  exact h.2
/-- a word's signs -/
theorem wordL_signs {l : List Nat} (h : wordL l = true) : ∀ c ∈ l, low c = true ∨ c = 32 := fun c hc => by
  obtain ⟨ps, h1, h2, h3, rfl, hl⟩ := wordL_iff.mp h
  rcases mem_joinL hc with e | ⟨p, hp, hcp⟩
  · exact .inr e
  · exact .inl (partL_low (h3 p hp) c hcp)
theorem low_lt {c : Nat} (h : low c = true ∨ c = 32) : c < 1114112 := by
  rcases h with h | h
  · unfold low at h
    simp only [Bool.and_eq_true, decide_eq_true_eq] at h
    omega
  · omega
theorem Tx.word {s : Str} (h : isW s = true) : Tx 24 s := ⟨by rw [len_tl]; exact (wordL_len h).2, strOk_iff.mpr fun c hc => low_lt (wordL_signs h c hc)⟩
theorem isW_len {s : Str} (h : isW s = true) : 1 ≤ s.length ∧ s.length ≤ 24 := by
  have := wordL_len h
  rw [len_tl]; exact this
theorem Tx.join {ps : List Str} {n : Nat} (h : ∀ p ∈ ps, Tx n p) : Tx (ps.length * n + ps.length) (Txt.join (Str.ofString " ") ps) :=
  ⟨by
    have h1 := PySem.StrLaws.join_length_le (Str.ofString " ") ps
    rw [← join_eq, len_tl (Str.ofString " "), tl_blank] at h1
    simp only [List.length_singleton] at h1
    have h2 := sum_len_le (f := fun p : Str => p.length) (n := n) (l := ps) fun p hp => (h p hp).len
    omega, strOk_iff.mpr fun c hc => by
    rw [tl_join_blank] at hc
    rcases mem_joinL hc with e | ⟨p, hp, hcp⟩
    · omega
    · obtain ⟨q, hq, rfl⟩ := List.mem_map.mp hp
      exact strOk_iff.mp (h q hq).ok c hcp⟩
theorem cutV_strs (ss : List Str) (lo hi : Option Int) : ∃ ms : List Str, cutV (ss.map V.str) lo hi = ms.map V.str ∧ ms.length ≤ ss.length ∧ ∀ m ∈ ms, m ∈ ss := by
  refine ⟨(ss.drop (HT.sIx (ss.map V.str).length 0 lo)).take (HT.sIx (ss.map V.str).length (ss.map V.str).length hi - HT.sIx (ss.map V.str).length 0 lo), ?_, ?_, ?_⟩
  · unfold cutV; rw [List.map_take, List.map_drop]
  · rw [List.length_take, List.length_drop]; omega
  · intro m hm; exact List.mem_of_mem_drop (List.mem_of_mem_take hm)
/-! ### things of any kind -/
inductive Thing (H : Hp) : V → Prop where
  | str (s : Str) : Tx 1000 s → Thing H (.str s)
  | non : Thing H .non
  | bl (b : Bool) : Thing H (.bl b)
  | int (i : Int) : Thing H (.int i)
  | lst {a : Addr} {xs : List V} : H a = some (.lst xs) → Thing H (.ref a)
  | tup {a : Addr} {xs : List V} : H a = some (.tup xs) → Thing H (.ref a)
theorem Thing.same {H H' : Hp} {x : V} (h : Thing H x) (e : Same H H') : Thing H' x := by
  cases h with
  | str s t => exact .str s t
  | non => exact .non
  | bl b => exact .bl b
  | int i => exact .int i
  | lst h => exact .lst (e _ _ h)
  | tup h => exact .tup (e _ _ h)
theorem Thing.ty {K : PySem.W.Frag} {H : Hp} {x : V} (h : Thing H x) : (∃ s, x = .str s ∧ Tx 1000 s) ∨ (∃ t : String, TyX K H x (.type t) ∧ kitB t "str" = some false) := by
  cases h with
  | str s t => exact .inl ⟨s, rfl, t⟩
  | non => exact .inr ⟨_, .base .non, kb_NoneType_str⟩
  | bl b => exact .inr ⟨_, .base (.bl b), kb_bool_str⟩
  | int i => exact .inr ⟨_, .base (.int i), kb_int_str⟩
  | lst h => exact .inr ⟨_, .base (.lst h), kb_list_str⟩
  | tup h => exact .inr ⟨_, .base (.tup h), kb_tuple_str⟩
def spThing : Sp := fun vs H Q _ => ∃ b : Addr, vs = [.ref b] ∧ BoxAt H b ∧ ∀ (x : V) (H' : Hp), Thing H' x → BoxAt H' b → But b H H' → Q x H'
section
variable {H : Hp} {Q : VK}
theorem s_addS {x y : Str} (h : x.length + y.length ≤ sizeLine) (q : Q (.str (x ++ y)) H) : (fun (x y : V) (H : Hp) (Q : VK) => ∃ i j, x = V.str i ∧ y = V.str j ∧ i.length + j.length ≤ sizeLine ∧ Q (.str (i ++ j)) H) (.str x) (.str y) H Q := ⟨x, y, rfl, rfl, h, q⟩
end
end Ah
namespace Ah
open PySem PySem.Spec PyProof.Rows L2
def top (i : Nat) : Stmt := PySem.Challenge.pw_aheadword_k01_words.main.body.getD i (.Pass ⟨0, 0, 0, 0⟩)
abbrev s_is_part : Stmt := top 2
theorem sc_is_part : FnScope ["text", "sign"] ["text"] (defScope s_is_part) := ⟨rfl, rfl, rfl, by decide +kernel, rfl, by decide +kernel, by decide +kernel⟩
theorem bi_is_part : BindOk "is_part" s_is_part ["text"] := fun _ _ _ _ _ _ us hl => match us, hl with | [_], _ => rfl
abbrev s_is_word : Stmt := top 3
theorem sc_is_word : FnScope ["thing", "parts", "part"] ["thing"] (defScope s_is_word) := ⟨rfl, rfl, rfl, by decide +kernel, rfl, by decide +kernel, by decide +kernel⟩
theorem bi_is_word : BindOk "is_word" s_is_word ["thing"] := fun _ _ _ _ _ _ us hl => match us, hl with | [_], _ => rfl
abbrev s_law_cell_at : Stmt := top 5
theorem sc_law_cell_at : FnScope ["_law_script", "_law_k"] ["_law_script", "_law_k"] (defScope s_law_cell_at) := ⟨rfl, rfl, rfl, by decide +kernel, rfl, by decide +kernel, by decide +kernel⟩
theorem bi_law_cell_at : BindOk "_law_cell_at" s_law_cell_at ["_law_script", "_law_k"] := fun _ _ _ _ _ _ us hl => match us, hl with | [_, _], _ => rfl
abbrev s_law_box : Stmt := top 6
theorem sc_law_box : FnScope ["_law_cell"] ["_law_cell"] (defScope s_law_box) := ⟨rfl, rfl, rfl, by decide +kernel, rfl, by decide +kernel, by decide +kernel⟩
theorem bi_law_box : BindOk "_law_box" s_law_box ["_law_cell"] := fun _ _ _ _ _ _ us hl => match us, hl with | [_], _ => rfl
abbrev s_law_take : Stmt := top 7
theorem sc_law_take : FnScope ["_law_box_here", "_law_many", "_law_found"] ["_law_box_here", "_law_many"] (defScope s_law_take) := ⟨rfl, rfl, rfl, by decide +kernel, rfl, by decide +kernel, by decide +kernel⟩
theorem bi_law_take : BindOk "_law_take" s_law_take ["_law_box_here", "_law_many"] := fun _ _ _ _ _ _ us hl => match us, hl with | [_, _], _ => rfl
abbrev s_law_truth : Stmt := top 8
theorem sc_law_truth : FnScope ["_law_found", "_law_due"] ["_law_found", "_law_due"] (defScope s_law_truth) := ⟨rfl, rfl, rfl, by decide +kernel, rfl, by decide +kernel, by decide +kernel⟩
theorem bi_law_truth : BindOk "_law_truth" s_law_truth ["_law_found", "_law_due"] := fun _ _ _ _ _ _ us hl => match us, hl with | [_, _], _ => rfl
abbrev s_law_is_word : Stmt := top 9
theorem sc_law_is_word : FnScope ["_law_thing_here", "_law_size", "_law_parts", "_law_sign"] ["_law_thing_here"] (defScope s_law_is_word) := ⟨rfl, rfl, rfl, by decide +kernel, rfl, by decide +kernel, by decide +kernel⟩
theorem bi_law_is_word : BindOk "_law_is_word" s_law_is_word ["_law_thing_here"] := fun _ _ _ _ _ _ us hl => match us, hl with | [_], _ => rfl
abbrev s_law_word : Stmt := top 10
theorem sc_law_word : FnScope ["_law_box_here", "_law_letters", "_law_parts", "_law_k", "_law_size", "_law_j"] ["_law_box_here"] (defScope s_law_word) := ⟨rfl, rfl, rfl, by decide +kernel, rfl, by decide +kernel, by decide +kernel⟩
theorem bi_law_word : BindOk "_law_word" s_law_word ["_law_box_here"] := fun _ _ _ _ _ _ us hl => match us, hl with | [_], _ => rfl
abbrev s_law_thing : Stmt := top 11
theorem sc_law_thing : FnScope ["_law_box_here", "_law_kinds", "_law_text", "_law_way", "_law_at", "_law_sign"] ["_law_box_here"] (defScope s_law_thing) := ⟨rfl, rfl, rfl, by decide +kernel, rfl, by decide +kernel, by decide +kernel⟩
theorem bi_law_thing : BindOk "_law_thing" s_law_thing ["_law_box_here"] := fun _ _ _ _ _ _ us hl => match us, hl with | [_], _ => rfl
abbrev s_law : Stmt := top 12
theorem sc_law : FnScope ["_law_script", "_law_cell", "_law_box_here", "_law_k", "_law_thing_here"] ["_law_script"] (defScope s_law) := ⟨rfl, rfl, rfl, by decide +kernel, rfl, by decide +kernel, by decide +kernel⟩
theorem bi_law : BindOk "law" s_law ["_law_script"] := fun _ _ _ _ _ _ us hl => match us, hl with | [_], _ => rfl
structure Top (K : PySem.W.Frag) (mg : Str → Option Value) : Prop where
  n_bool : mg "bool" = none
  n_isinstance : mg "isinstance" = none
  n_len : mg "len" = none
  n_range : mg "range" = none
  n_str : mg "str" = none
  c_LETTERS : ∃ t, mg "LETTERS" = some (.str "abcdefghijklmnopqrstuvwxyz" t)
  d_is_part : DefAt K mg "is_part" s_is_part
  d_is_word : DefAt K mg "is_word" s_is_word
  d_law_cell_at : DefAt K mg "_law_cell_at" s_law_cell_at
  d_law_box : DefAt K mg "_law_box" s_law_box
  d_law_take : DefAt K mg "_law_take" s_law_take
  d_law_truth : DefAt K mg "_law_truth" s_law_truth
  d_law_is_word : DefAt K mg "_law_is_word" s_law_is_word
  d_law_word : DefAt K mg "_law_word" s_law_word
  d_law_thing : DefAt K mg "_law_thing" s_law_thing
/-! ### short steps -/
local macro_rules | `(tactic| walk_at "ne") => `(tactic| first | assumption | (apply Ne.symm; assumption) | (exact ne_of_none (by assumption) (by assumption)) | (exact (ne_of_none (by assumption) (by assumption)).symm))
local macro_rules | `(tactic| walk_at "hp") => `(tactic| first | assumption | exact upd_same | (refine' (upd_ne ?n).trans ?h; (case n => walk_at "ne"); (case h => walk_at "hp")))
local macro_rules | `(tactic| walk_at "sq") => `(tactic| first | assumption | (refine' SqL.of ?h; (case h => walk_at "hp")))
local macro_rules | `(tactic| walk_at "st") => `(tactic| first | assumption | (refine' SqT.of ?h; (case h => walk_at "hp")))
local macro_rules | `(tactic| walk_at "sd") => `(tactic| first | assumption | decide | (constructor <;> decide) | omega | (constructor <;> omega))
local macro_rules | `(tactic| walk_at "kb") => `(tactic| first | exact kb_int_int | exact kb_int_bool | exact kb_int_str | exact kb_int_list | exact kb_int_tuple | exact kb_bool_int | exact kb_bool_bool | exact kb_bool_str | exact kb_bool_list | exact kb_bool_tuple | exact kb_str_int | exact kb_str_bool | exact kb_str_str | exact kb_str_list | exact kb_str_tuple | exact kb_NoneType_int | exact kb_NoneType_bool | exact kb_NoneType_str | exact kb_NoneType_list | exact kb_NoneType_tuple | exact kb_list_int | exact kb_list_bool | exact kb_list_str | exact kb_list_list | exact kb_list_tuple | exact kb_tuple_int | exact kb_tuple_bool | exact kb_tuple_str | exact kb_tuple_list | exact kb_tuple_tuple | exact kb_dict_int | exact kb_dict_bool | exact kb_dict_str | exact kb_dict_list | exact kb_dict_tuple)
local macro_rules | `(tactic| walk_at "ty") => `(tactic| first | exact .base (.int _) | exact .base (.bl _) | exact .base (.str _) | exact .base .non | (refine' .base (.tup ?h); (case h => walk_at "hp")) | (refine' .base (.lst ?h); (case h => walk_at "hp")))
local macro_rules | `(tactic| walk_at "u") => `(tactic| with_reducible first
  | refine u_seq ?_
  | refine u_asg ?_
  | refine u_drop ?_
  | refine u_ret ?_
  | refine u_retN ?_
  | refine u_next ?_
  | refine u_brk ?_
  | refine u_cont ?_
  | refine u_ifS ?_
  | refine u_op ?_
  | refine u_un ?_
  | refine u_c ?_
  | refine u_and ?_
  | refine u_or ?_
  | refine u_not ?_
  | refine u_andV ?_
  | refine u_orV ?_
  | refine u_notV ?_
  | refine u_if ?_
  | refine u_test ?_
  | refine u_B ?_
  | refine u_chain ?_
  | refine u_name ?_
  | refine u_sub ?_
  | refine u_nil ?_
  | refine u_cons ?_
  | refine u_call ?_
  | refine u_CB ?_
  | refine u_tup ?_
  | refine u_lst ?_
  | refine u_for ?_
  | refine u_iList ?_
  | refine u_iTup ?_
  | refine u_iRng1 ?_
  | refine u_iRng2 ?_
  | refine u_sl ?_
  | refine u_part ?_
  | refine u_nopart ?_
  | refine u_lc ?_
  | refine u_iStr ?_
  | refine u_M0 ?_
  | refine u_M1 ?_
  | refine u_bm ?_
  | refine u_bm0 ?_
  | refine u_yes ?_
  | refine u_gcons ?_
  | refine u_gnil ?_)
local macro_rules | `(tactic| walk_at "s") => `(tactic| first
  | ((with_reducible refine' s_var ?h ?q); (case h => rfl))
  | with_reducible refine s_ii ?_
  | ((with_reducible refine' s_eq ?h ?q); (case h => rfl))
  | ((with_reducible refine' s_ne ?h ?q); (case h => rfl))
  | with_reducible refine iteF ?_
  | with_reducible refine iteT ?_
  | with_reducible refine ntT ?_
  | with_reducible refine ntF ?_
  | (with_reducible refine Exists.intro _ (And.intro (show V.bl _ = V.bl _ from rfl) ?_))
  | (with_reducible refine s_isStr ?_)
  | (with_reducible refine Exists.intro _ (And.intro (show V.str _ = V.str _ from rfl) ?_))
  | (with_reducible refine Exists.intro _ (And.intro (show V.int _ = V.int _ from rfl) ?_))
  | (with_reducible refine Exists.intro _ (And.intro (show [V.int _] = [V.int _] from rfl) ?_))
  | (with_reducible refine Exists.intro _ (And.intro (show V.ref _ = V.ref _ from rfl) ?_))
  | with_reducible refine s_un ?_
  | ((with_reducible refine' s_ixL ?h ?a ?q); (case h => walk_at "sq"); (case a => rfl))
  | ((with_reducible refine' s_ixT ?h ?a ?q); (case h => walk_at "st"); (case a => rfl))
  | ((with_reducible refine' s_setL ?h ?a ?k); (case h => walk_at "hp"); (case a => rfl))
  | ((with_reducible refine' s_tyL ?h ?k); (case h => walk_at "sq"))
  | ((with_reducible refine' s_slL ?h ?q); (case h => walk_at "sq"))
  | ((with_reducible refine' s_isi ?t ?k ?q); (case t => walk_at "ty"); (case k => walk_at "kb"))
  | ((with_reducible refine' s_gtup ?h ?l ?k); (case h => walk_at "st"); (case l => rfl))
  | ((refine' ⟨_, _, rfl, Or.inl ?h, ?q⟩); (case h => walk_at "sq"))
  | ((refine' ⟨_, _, rfl, Or.inr ?h, ?q⟩); (case h => walk_at "st"))
  | ((with_reducible refine' s_iiC ?c ?q); (case c => walk_at "sd")))
local macro_rules | `(tactic| walk_at "go") => `(tactic| repeat first | walk_at "u" | walk_at "s")
section
variable {P : Program} {w : World} {K : PySem.W.Frag} {mg : Str → Option Value} {base : Heap}
theorem ok_is_part (T : Top K mg)  : Fn P w K mg base 1 "is_part" ["text"] spPart := by
  refine T.d_is_part.ok sc_is_part bi_is_part (fun vs H Q E h => ?_) (fun f cdv A outer s H vs Q E hr h => ?_)
  · obtain ⟨s, rfl, hs, k⟩ := h; rfl
  · obtain ⟨s, rfl, hs, k⟩ := h
    refine ⟨_, (pss_cons (ps_if (PW.pt (pw_or (pt_cmpR op_lt (pe_callB call_len_str rfl T.n_len (by decide +kernel) (pa_cons (pv 0) pa_nil)) (pe_int) (nomark _)) (pw_or1 (pt_cmpR op_gt (pe_callB call_len_str rfl T.n_len (by decide +kernel) (pa_cons (pv 0) pa_nil)) (pe_int) (nomark _))))) (pss_one (ps_ret (pe_bl))) pss_nil)
    (pss_cons (ps_for PassesOwn.never rfl (pi_str (pv 0)) (pg_name (i := 1) sc_is_part.nd rfl (Or.inl rfl)) (pss_one (ps_if (pt_cmpR op_notIn_sign (pv 1) (pe_gstr T.c_LETTERS) rfl) (pss_one (ps_ret (pe_bl))) pss_nil)))
    (pss_one (ps_ret (pe_bl))))), ?_⟩
    walk_at "go"
    refine ⟨s, rfl, hs, ?_⟩
    walk_at "go"
    refine dT (fun hc => ?_) (fun hc => ?_)
    · walk_at "go"
      rw [show partL (TL.tl s) = false by
        unfold partL
        rw [TL.len_tl] at hc
        have : ¬ 1 ≤ (TL.tl s).length := by omega
        rw [decide_eq_false this]; rfl] at k
      exact k
    walk_at "go"
    refine ⟨s, rfl, hs, ?_⟩
    walk_at "go"
    refine dT (fun hd => ?_) (fun hd => ?_)
    · walk_at "go"
      rw [show partL (TL.tl s) = false by
        unfold partL
        rw [TL.len_tl] at hd
        have : ¬ (TL.tl s).length ≤ 12 := by omega
        rw [decide_eq_false this, Bool.and_false]; rfl] at k
      exact k
    walk_at "go"
    refine for_it walk_str (fun i σ' H' => ∃ v, σ' = [some (.str s), v] ∧ H' = H ∧ ((TL.tl s).take i).all low = true) ⟨none, rfl, rfl, rfl⟩ (fun _ _ _ _ _ => trivial) ?_ ?_
    · rintro i x σ' H' H2 hi ⟨v, rfl, rfl, ha⟩ ⟨rfl, c, hcc, rfl⟩
      walk_at "go"
      refine ⟨c, _, rfl, rfl, ?_⟩
      walk_at "go"
      rw [mem_letters]
      refine bT (fun he => ?_) (fun he => ?_)
      · walk_at "go"
        rw [show partL (TL.tl s) = false by
          unfold partL
          have : (TL.tl s).all low = false := by
            rw [List.all_eq_false]
            exact ⟨c, sign_mem hcc, by simpa using he⟩
          rw [this, Bool.and_false]] at k
        exact k
      · walk_at "go"
        refine ⟨_, rfl, rfl, ?_⟩
        rw [sign_take hcc, List.all_append, ha]
        simpa using he
    · rintro σ' H' ⟨v, rfl, rfl, ha⟩
      walk_at "go"
      rw [show partL (TL.tl s) = true by
        unfold partL
        rw [show s.cps.size = (TL.tl s).length by simp [TL.tl], List.take_of_length_le (Nat.le_refl _)] at ha
        rw [TL.len_tl] at hc hd
        rw [ha, decide_eq_true (show 1 ≤ (TL.tl s).length by omega), decide_eq_true (show (TL.tl s).length ≤ 12 by omega)]; rfl] at k
      exact k
theorem ok_is_word (T : Top K mg) (F_is_part : Fn P w K mg base 1 "is_part" ["text"] spPart) : Fn P w K mg base 2 "is_word" ["thing"] (spIsWord K) := by
  refine T.d_is_word.ok sc_is_word bi_is_word (fun vs H Q E h => ?_) (fun f cdv A outer s H vs Q E hr h => ?_)
  · obtain ⟨x, rfl, h⟩ := h; rfl
  · obtain ⟨x, rfl, h⟩ := h
    refine ⟨_, (pss_cons (ps_if (PW.pt (pw_or (pt_not (pt_val (pe_callB call_isi rfl T.n_isinstance (by decide +kernel) (pa_cons (pv 0) (pa_cons (pe_ty "str" rfl T.n_str (by decide +kernel)) pa_nil))))) (pw_or1 (pt_cmpR op_gt (pe_callB call_len_str rfl T.n_len (by decide +kernel) (pa_cons (pv 0) pa_nil)) (pe_int) (nomark _))))) (pss_one (ps_ret (pe_bl))) pss_nil)
    (pss_cons (ps_set (i := 1) sc_is_word.nd rfl (Or.inl rfl) (pe_split (pv 0) (pe_str)))
    (pss_one (ps_ret ((pe_and (pe_cmpR op_le (pe_callB call_len_seq rfl T.n_len (by decide +kernel) (pa_cons (pv 1) pa_nil)) (pe_int) (nomark _)) (pe_one (pe_cmpR (op_eqD hr.units) (pe_lc (own := [("part", 2)]) (by rfl) sc_is_word.nd (pi_list (pv 1)) (blkOk_by (own := [("part", 2)]) (N := ["thing", "parts", "part"]) (sc := defScope s_is_word) (by decide +kernel)) (fun _ _ _ _ _ => (pg_name (i := 2) sc_is_word.nd rfl (Or.inl rfl))) (fun _ _ _ _ _ => (pts_one (pt_not (pt_val (pe_fn F_is_part (hr.mono (by decide)) passL (pa_cons (pv 2) pa_nil)))))) (fun _ _ _ _ _ => (pv 2))) (pe_lst pa_nil) (nomark _))))))))), ?_⟩
    rcases h with ⟨s, rfl, hs, ho, k⟩ | ⟨t, ht, hk, k⟩
    · have hz : s.length ≤ sizeLine := sz16 (by omega)
      walk_at "go"
      refine ⟨s, rfl, hz, ?_⟩
      walk_at "go"
      refine dT (fun hc => ?_) (fun hc => ?_)
      · walk_at "go"
        rw [show isW s = false by
          unfold isW wordL
          rw [TL.len_tl] at hc
          have : ¬ (TL.tl s).length ≤ 24 := by omega
          rw [decide_eq_false this]; rfl] at k
        exact k _ (Same.refl _)
      walk_at "go"
      refine ⟨s, _, rfl, rfl, by decide +kernel, by rw [sizeLine_eq]; omega, fun p hp => ?_⟩
      walk_at "go"
      generalize hys : Txt.split s (Str.ofString " ") = ys
      have e := split_blank s
      rw [hys] at e
      have hL : (upd H p (.lst (ys.map V.str))) p = some (.lst (ys.map V.str)) := upd_same
      have sq : Same H (upd H p (.lst (ys.map V.str))) := Same.new (Same.refl H) hp
      generalize (upd H p (.lst (ys.map V.str))) = G at hL sq ⊢
      have hw : isW s = (decide (ys.length ≤ 4) && (ys.all fun y => partL (TL.tl y))) := by
        unfold isW wordL
        rw [TL.len_tl] at hc
        rw [← e, List.length_map, List.all_map, decide_eq_true (show (TL.tl s).length ≤ 24 by omega), Bool.true_and]
        rfl
      have hmem : ∀ y ∈ ys, y.length ≤ sizeLine ∧ PyData.strOk y = true := fun y hy => by
        obtain ⟨a, b⟩ := split_mem (s := s) (by rw [hys]; exact hy)
        refine ⟨?_, strOk_iff.mpr fun c hc => strOk_iff.mp ho c (b c hc)⟩
        rw [← TL.len_tl, ← TL.len_tl] at a
        omega
      rw [List.length_map]
      refine dT (fun hd => ?_) (fun hd => ?_)
      · walk_at "go"
        refine ⟨⟨_, SqL.of hL⟩, fun D hD => ?_⟩
        have yl : ys.length ≤ 100000 := by omega
        refine lc_list (xs := ys.map V.str) (PvV (resF ys (fun y => !partL (TL.tl y)) V.str) _ D) (lc_begin hD resF_0) (fun i H' _ p => p.1.seq (SqL.of hL)) ?_ ?_
        · intro i x H' hi pv
          obtain ⟨y, hy, rfl⟩ := map_get hi
          have hm := hmem y (List.mem_of_getElem? hy)
          walk_at "go"
          refine ⟨rfl, ?_⟩
          walk_at "go"
          refine ⟨y, rfl, hm.1, ?_⟩
          walk_at "go"
          refine bT (fun hb => ?_) (fun hb => ?_)
          · walk_at "go"
            exact lc_put pv hD (Same.refl _) (resF_y hy hb) (resF_len yl)
          · exact lc_skip pv (Same.refl _) (resF_n hy hb)
        · intro H' pv
          rw [List.length_map] at pv
          have hF : H' D = some (.lst ((ys.filter (fun y => !partL (TL.tl y))).map V.str)) := by rw [pv.2, resF_all rfl]
          walk_at "go"
          refine ⟨sz (by simp), fun em nem => ?_⟩
          refine s_eqD (d := .list ((ys.filter (fun y => !partL (TL.tl y))).map .str)) (.lst (SqL.of (by rw [upd_ne (ne_of_none hF nem)]; exact hF)) (DpAll.of_map fun y _ => .str y)) (.lst (SqL.of upd_same) .nil)
            (shaped_of (ok_strs fun y hy => (hmem y (List.mem_filter.mp hy).1).2)) rfl ?_
          rw [eqv_strs_nil]
          have : (ys.filter (fun y => !partL (TL.tl y))).isEmpty = isW s := by
            rw [hw, decide_eq_true (show ys.length ≤ 4 by omega), Bool.true_and, Bool.eq_iff_iff, List.isEmpty_iff, List.filter_eq_nil_iff, List.all_eq_true]
            simp
          rw [this]
          exact k _ (Same.new (sq.trans pv.1) nem)
      · walk_at "go"
        rw [hw, decide_eq_false (show ¬ ys.length ≤ 4 by omega), Bool.false_and] at k
        exact k _ sq
    · walk_at "go"
      refine ⟨x, .ty "str", .type t, .type "str", false, rfl, .ty _, ht, kit_ty hk, ?_⟩
      walk_at "go"
      exact k
theorem ok_law_cell_at (T : Top K mg)  : Fn P w K mg base 1 "_law_cell_at" ["_law_script", "_law_k"] (spCell K) := by
  refine T.d_law_cell_at.ok sc_law_cell_at bi_law_cell_at (fun vs H Q E h => ?_) (fun f cdv A outer s H vs Q E hr h => ?_)
  · obtain ⟨a, ns, i, rfl, hS, h0, k⟩ := h; rfl
  · obtain ⟨a, ns, i, rfl, hS, h0, k⟩ := h
    refine ⟨_, (pss_cons (ps_if (pt_cmpR op_lt (pv 1) (pe_callB call_len_seq rfl T.n_len (by decide +kernel) (pa_cons (pv 0) pa_nil)) (nomark _)) (pss_one (ps_ret (pe_ix ix_list (pv 0) (pv 1) (fun _ _ => rfl)))) pss_nil)
    (pss_one (ps_ret (pe_int)))), ?_⟩
    walk_at "go"
    refine dT (fun hc => ?_) (fun hc => ?_)
    · walk_at "go"
      rw [List.length_map] at hc
      obtain ⟨j, rfl⟩ : ∃ j : Nat, i = (j : Int) := ⟨i.toNat, by omega⟩
      have hj : j < ns.length := by omega
      exact ⟨a, ns.map V.int, j, .int ns[j], rfl, rfl, hS, atI_nat (by simp [hj]), k _⟩
    · walk_at "go"
      exact k _
theorem ok_law_box (T : Top K mg)  : Fn P w K mg base 1 "_law_box" ["_law_cell"] spBox := by
  refine T.d_law_box.ok sc_law_box bi_law_box (fun vs H Q E h => ?_) (fun f cdv A outer s H vs Q E hr h => ?_)
  · obtain ⟨c, rfl, k⟩ := h; rfl
  · obtain ⟨c, rfl, k⟩ := h
    refine ⟨_, (pss_one (ps_ret (pe_lst (pa_cons (pe_op op_fdiv (pv 0) (pe_int)) (pa_cons (pe_op op_mod (pv 0) (pe_int)) (pa_cons (pe_int) (pa_cons (pv 0) pa_nil))))))), ?_⟩
    walk_at "go"
    exact ⟨sz (by simp), fun p hp => k p _ hp (Same.new (Same.refl _) hp) ⟨_, _, _, _, upd_same⟩⟩
theorem ok_law_take (T : Top K mg)  : Fn P w K mg base 1 "_law_take" ["_law_box_here", "_law_many"] spTake := by
  refine T.d_law_take.ok sc_law_take bi_law_take (fun vs H Q E h => ?_) (fun f cdv A outer s H vs Q E hr h => ?_)
  · obtain ⟨b, m, rfl, ⟨x0, x1, x2, x3, hb⟩, hm, hl, k⟩ := h; rfl
  · obtain ⟨b, m, rfl, ⟨x0, x1, x2, x3, hb⟩, hm, hl, k⟩ := h
    refine ⟨_, (pss_cons (ps_asg (pe_op op_add (pe_ix ix_list (pv 0) (pe_int) (fun _ _ => rfl)) (pe_int)) (pg_sub (pv 0) (pe_int) set_list))
    (Evl.pss_cut (ps_if (PW.pt (pw_and (pt_cmpR op_eq (pe_ix ix_list (pv 0) (pe_int) (fun _ _ => rfl)) (pe_int) (nomark _)) (pw_and1 (pt_chain op_le op_le (pe_un un_neg (pe_int)) (pe_ix ix_list (pv 0) (pe_int) (fun _ _ => rfl)) (pe_int))))) (pss_cons (ps_asg (pe_ix ix_list (pv 0) (pe_int) (fun _ _ => rfl)) (pg_sub (pv 0) (pe_int) set_list))
    (pss_one (ps_asg (pe_int) (pg_sub (pv 0) (pe_int) set_list)))) pss_nil)
    (pss_cons (ps_if (pt_cmpR op_eq (pe_ix ix_list (pv 0) (pe_int) (fun _ _ => rfl)) (pe_int) (nomark _)) (pss_cons (ps_set (i := 2) sc_law_take.nd rfl (Or.inl rfl) (pe_op op_mod (pe_ix ix_list (pv 0) (pe_int) (fun _ _ => rfl)) (pv 1)))
    (pss_cons (ps_asg (pe_op op_fdivW (pe_ix ix_list (pv 0) (pe_int) (fun _ _ => rfl)) (pv 1)) (pg_sub (pv 0) (pe_int) set_list))
    (pss_one (ps_ret (pv 2))))) pss_nil)
    (pss_cons (ps_asg (pe_op op_mod (pe_op op_add (pe_op op_add (pe_op op_mul (pe_op op_mod (pe_ix ix_list (pv 0) (pe_int) (fun _ _ => rfl)) (pe_int)) (pe_int)) (pe_op op_mul (pe_int) (pe_ix ix_list (pv 0) (pe_int) (fun _ _ => rfl)))) (pe_int)) (pe_int)) (pg_sub (pv 0) (pe_int) set_list))
    (pss_one (ps_ret (pe_op op_mod (pe_op op_fdiv (pe_op op_mod (pe_op op_mul (pe_ix ix_list (pv 0) (pe_int) (fun _ _ => rfl)) (pe_int)) (pe_int)) (pe_int)) (pv 1)))))))), ?_⟩
    walk_at "go"
    refine u_cut (M := fun σ H' => σ = [some (.ref b), some (.int m), none] ∧ BoxAt H' b ∧ But b H H') ?_ ?_
    · walk_at "go"
      refine bT (fun hc => ?_) (fun hc => ?_)
      · walk_at "go"
        refine bT (fun hc => ?_) (fun hc => ?_)
        · walk_at "go"
          refine bT (fun hc => ?_) (fun hc => ?_)
          · walk_at "go"
            exact ⟨rfl, ⟨_, _, _, _, upd_same⟩, ((But.refl.upd).upd).upd⟩
          · walk_at "go"
            exact ⟨rfl, ⟨_, _, _, _, upd_same⟩, But.refl.upd⟩
        · walk_at "go"
          exact ⟨rfl, ⟨_, _, _, _, upd_same⟩, But.refl.upd⟩
      · walk_at "go"
        exact ⟨rfl, ⟨_, _, _, _, upd_same⟩, But.refl.upd⟩
    · rintro σ' H' ⟨rfl, ⟨y0, y1, y2, y3, hb'⟩, hs⟩
      have hd : CDivW y0 m := divW hm hl
      walk_at "go"
      refine bT (fun hc => ?_) (fun hc => ?_)
      · walk_at "go"
        exact k _ _ (Int.emod_nonneg _ (by omega)) (Int.emod_lt_of_pos _ hm) ⟨_, _, _, _, upd_same⟩ hs.upd
      · walk_at "go"
        exact k _ _ (Int.emod_nonneg _ (by omega)) (Int.emod_lt_of_pos _ hm) ⟨_, _, _, _, upd_same⟩ hs.upd
/-- a truth, and due -/
def spTruth : Sp := fun vs H Q _ => ∃ i j : Bool, vs = [.bl i, .bl j] ∧ Q (.bl (decide (i = j))) H
theorem ok_law_truth (T : Top K mg)  : Fn P w K mg base 1 "_law_truth" ["_law_found", "_law_due"] spTruth := by
  refine T.d_law_truth.ok sc_law_truth bi_law_truth (fun vs H Q E h => ?_) (fun f cdv A outer s H vs Q E hr h => ?_)
  · obtain ⟨i, j, rfl, k⟩ := h; rfl
  · obtain ⟨i, j, rfl, k⟩ := h
    refine ⟨_, (pss_one (ps_ret ((pe_and (pe_callB call_isi rfl T.n_isinstance (by decide +kernel) (pa_cons (pv 0) (pa_cons (pe_ty "bool" rfl T.n_bool (by decide +kernel)) pa_nil))) (pe_one (pe_cmpR op_eq (pv 0) (pv 1) (nomark _))))))), ?_⟩
    walk_at "go"
    rw [show decide (V.bl i = V.bl j) = decide (i = j) by simp]
    exact k
/-- the law's own reading of a thing: the same -/
def spIsWord1 (K : PySem.W.Frag) : Sp := fun vs H Q _ => ∃ x : V, vs = [x] ∧ ((∃ s : Str, x = .str s ∧ s.length ≤ 1000000 ∧ Q (.bl (isW s)) H) ∨ (∃ t : String, TyX K H x (.type t) ∧ kitB t "str" = some false ∧ Q (.bl false) H))
theorem ok_law_is_word (T : Top K mg)  : Fn P w K mg base 1 "_law_is_word" ["_law_thing_here"] (spIsWord1 K) := by
  refine T.d_law_is_word.ok sc_law_is_word bi_law_is_word (fun vs H Q E h => ?_) (fun f cdv A outer s H vs Q E hr h => ?_)
  · obtain ⟨x, rfl, h⟩ := h; rfl
  · obtain ⟨x, rfl, h⟩ := h
    refine ⟨_, (pss_cons (ps_if (PW.pt (pw_or (pt_not (pt_val (pe_callB call_isi rfl T.n_isinstance (by decide +kernel) (pa_cons (pv 0) (pa_cons (pe_ty "str" rfl T.n_str (by decide +kernel)) pa_nil))))) (pw_or (pt_cmpR op_lt (pe_callB call_len_str rfl T.n_len (by decide +kernel) (pa_cons (pv 0) pa_nil)) (pe_int) (nomark _)) (pw_or1 (pt_cmpR op_gt (pe_callB call_len_str rfl T.n_len (by decide +kernel) (pa_cons (pv 0) pa_nil)) (pe_int) (nomark _)))))) (pss_one (ps_ret (pe_bl))) pss_nil)
    (pss_cons (ps_set (i := 1) sc_law_is_word.nd rfl (Or.inl rfl) (pe_int))
    (pss_cons (ps_set (i := 2) sc_law_is_word.nd rfl (Or.inl rfl) (pe_int))
    (pss_cons (ps_for PassesOwn.never rfl (pi_str (pv 0)) (pg_name (i := 3) sc_law_is_word.nd rfl (Or.inl rfl)) (pss_cons (ps_if (pt_cmpR op_eq (pv 3) (pe_str) (nomark _)) (pss_cons (ps_if (pt_cmpR op_eq (pv 1) (pe_int) (nomark _)) (pss_one (ps_ret (pe_bl))) pss_nil)
    (pss_cons (ps_set (i := 1) sc_law_is_word.nd rfl (Or.inl rfl) (pe_int))
    (pss_one (ps_set (i := 2) sc_law_is_word.nd rfl (Or.inl rfl) (pe_op op_add (pv 2) (pe_int)))))) (pss_one (ps_if (pt_cmpR op_in_sign (pv 3) (pe_str) rfl) (pss_one (ps_set (i := 1) sc_law_is_word.nd rfl (Or.inl rfl) (pe_op op_add (pv 1) (pe_int)))) (pss_one (ps_ret (pe_bl))))))
    (pss_one (ps_if (pt_cmpR op_gt (pv 1) (pe_int) (nomark _)) (pss_one (ps_ret (pe_bl))) pss_nil))))
    (pss_one (ps_ret ((pe_and (pe_cmpR op_gt (pv 1) (pe_int) (nomark _)) (pe_one (pe_cmpR op_lt (pv 2) (pe_int) (nomark _))))))))))), ?_⟩
    rcases h with ⟨s, rfl, hs, k⟩ | ⟨t, ht, hk, k⟩
    · have hz : s.length ≤ sizeLine := sz16 (by omega)
      walk_at "go"
      refine ⟨s, rfl, hz, ?_⟩
      walk_at "go"
      rw [TL.len_tl] at *
      refine dT (fun hc => ?_) (fun hc => ?_)
      · walk_at "go"
        have : TL.tl s = [] := List.eq_nil_of_length_eq_zero (by omega)
        rw [show isW s = false by unfold isW; rw [this]; decide] at k
        exact k
      walk_at "go"
      refine ⟨s, rfl, by rw [TL.len_tl]; exact hz, ?_⟩
      walk_at "go"
      rw [TL.len_tl]
      refine dT (fun hd => ?_) (fun hd => ?_)
      · walk_at "go"
        rw [show isW s = false by
          unfold isW wordL
          rw [decide_eq_false (show ¬ (TL.tl s).length ≤ 24 by omega)]; rfl] at k
        exact k
      walk_at "go"
      have hw : isW s = scan 0 1 (TL.tl s) := (scan_word (by omega)).symm
      refine for_it walk_str (fun i σ' H' => ∃ (v : Option V) (n p : Nat), σ' = [some (.str s), some (.int (n : Int)), some (.int (p : Int)), v] ∧ H' = H ∧ n ≤ 12 ∧ isW s = scan n p ((TL.tl s).drop i)) ⟨none, 0, 1, rfl, rfl, by omega, hw⟩ (fun _ _ _ _ _ => trivial) ?_ ?_
      · rintro i x σ' H' H2 hi ⟨v, n, p, rfl, rfl, hn, e⟩ ⟨rfl, c, hcc, rfl⟩
        have hdrop : (TL.tl s).drop i = c :: (TL.tl s).drop (i + 1) := by
          have h2 : (TL.tl s)[i]? = some c := by rw [TL.tl, Array.getElem?_toList]; exact hcc
          obtain ⟨hlt, e2⟩ := List.getElem?_eq_some_iff.mp h2
          rw [List.drop_eq_getElem_cons hlt, e2]
        rw [hdrop] at e
        unfold scan at e
        walk_at "go"
        rw [eq_blank]
        refine dT (fun h1 => ?_) (fun h1 => ?_)
        · rw [if_pos h1] at e
          walk_at "go"
          rw [show decide (V.int (n : Int) = V.int 0) = decide (n = 0) by
            rw [Bool.eq_iff_iff]; simp]
          refine dT (fun h2 => ?_) (fun h2 => ?_)
          · rw [if_pos h2] at e
            walk_at "go"
            rw [e] at k; exact k
          · rw [if_neg h2] at e
            walk_at "go"
            refine dT (fun h3 => absurd h3 (by omega)) (fun h3 => ?_)
            walk_at "go"
            exact ⟨_, 0, p + 1, rfl, rfl, by omega, e⟩
        · rw [if_neg h1] at e
          walk_at "go"
          refine ⟨c, _, rfl, rfl, ?_⟩
          walk_at "go"
          rw [mem_letters]
          refine bT (fun h2 => ?_) (fun h2 => ?_)
          · rw [if_pos h2] at e
            walk_at "go"
            refine dT (fun h3 => ?_) (fun h3 => ?_)
            · rw [if_pos (by omega)] at e
              walk_at "go"
              rw [e] at k; exact k
            · rw [if_neg (by omega)] at e
              walk_at "go"
              exact ⟨_, n + 1, p, rfl, rfl, by omega, e⟩
          · rw [if_neg (by rw [h2]; decide)] at e
            walk_at "go"
            rw [e] at k; exact k
      · rintro σ' H' ⟨v, n, p, rfl, rfl, hn, e⟩
        rw [show s.cps.size = (TL.tl s).length by simp [TL.tl], List.drop_of_length_le (Nat.le_refl _)] at e
        unfold scan at e
        walk_at "go"
        refine dT (fun h1 => ?_) (fun h1 => ?_)
        · walk_at "go"
          rw [e, decide_eq_true (show 0 < n by omega), Bool.true_and, show decide (p < 5) = decide ((p : Int) < 5) from decide_eq_decide.mpr (by omega)] at k
          exact k
        · walk_at "go"
          rw [e, decide_eq_false (show ¬ 0 < n by omega), Bool.false_and] at k
          exact k
    · walk_at "go"
      refine ⟨x, .ty "str", .type t, .type "str", false, rfl, .ty _, ht, kit_ty hk, ?_⟩
      walk_at "go"
      exact k
theorem ok_law_word (T : Top K mg) (F_law_take : Fn P w K mg base 1 "_law_take" ["_law_box_here", "_law_many"] spTake) : Fn P w K mg base 2 "_law_word" ["_law_box_here"] spWord := by
  refine T.d_law_word.ok sc_law_word bi_law_word (fun vs H Q E h => ?_) (fun f cdv A outer s H vs Q E hr h => ?_)
  · obtain ⟨b, rfl, hb, k⟩ := h; rfl
  · obtain ⟨b, rfl, hb, k⟩ := h
    refine ⟨_, (pss_cons (ps_set (i := 1) sc_law_word.nd rfl (Or.inr rfl) (pe_ix ix_list (pe_lst (pa_cons (pe_str) (pa_cons (pe_str) (pa_cons (pe_str) pa_nil)))) (pe_fn F_law_take (hr.mono (by decide)) passL (pa_cons (pv 0) (pa_cons (pe_int) pa_nil))) (fun _ _ => rfl)))
    (pss_cons (ps_set (i := 2) sc_law_word.nd rfl (Or.inl rfl) (pe_lst pa_nil))
    (pss_cons (ps_for PassesOwn.never rfl (pi_range1 rfl T.n_range (pa_cons (pe_ix ix_list (pe_lst (pa_cons (pe_int) (pa_cons (pe_int) (pa_cons (pe_int) (pa_cons (pe_int) pa_nil))))) (pe_fn F_law_take (hr.mono (by decide)) passL (pa_cons (pv 0) (pa_cons (pe_int) pa_nil))) (fun _ _ => rfl)) pa_nil)) (pg_name (i := 3) sc_law_word.nd rfl (Or.inl rfl)) (pss_cons (ps_set (i := 4) sc_law_word.nd rfl (Or.inl rfl) (pe_op op_add (pe_int) (pe_fn F_law_take (hr.mono (by decide)) passL (pa_cons (pv 0) (pa_cons (pe_ix ix_list (pe_lst (pa_cons (pe_int) (pa_cons (pe_int) (pa_cons (pe_int) (pa_cons (pe_int) pa_nil))))) (pe_fn F_law_take (hr.mono (by decide)) passL (pa_cons (pv 0) (pa_cons (pe_int) pa_nil))) (fun _ _ => rfl)) pa_nil)))))
    (pss_one (ps_expr (pe_bm PySem.F.plainAttrs_list PySem.F.slot_list_append PySem.F.type_list_append mt_append (pv 2) (pa_cons (pe_join (pe_str) (pe_lc (own := [("_law_j", 5)]) (by rfl) sc_law_word.nd (pi_range1 rfl T.n_range (pa_cons (pv 4) pa_nil)) (blkOk_by (own := [("_law_j", 5)]) (N := ["_law_box_here", "_law_letters", "_law_parts", "_law_k", "_law_size", "_law_j"]) (sc := defScope s_law_word) (by decide +kernel)) (fun _ _ _ _ _ => (pg_name (i := 5) sc_law_word.nd rfl (Or.inl rfl))) (fun _ _ _ _ _ => pts_nil) (fun _ _ _ _ _ => (pe_ix ix_str (pv 1) (pe_fn F_law_take (hr.mono (by decide)) passL (pa_cons (pv 0) (pa_cons (pe_callB call_len_str rfl T.n_len (by decide +kernel) (pa_cons (pv 1) pa_nil)) pa_nil))) (fun _ _ => rfl))))) pa_nil))))))
    (pss_one (ps_ret (pe_bm PySem.F.plainAttrs_str PySem.F.slot_str_strip PySem.F.type_str_strip mt_stripChars (pe_slice sl_str (pe_join (pe_str) (pv 2)) po_none (po_some (pe_int))) (pa_cons (pe_str) pa_nil))))))), ?_⟩
    walk_at "go"
    refine ⟨sz (by simp), fun p hp => ?_⟩
    walk_at "go"
    refine use_take (hb.new hp) (by decide) (by decide) fun r1 H1 r10 r11 b1 s1 => ?_
    have f1 : But b H H1 := (But.refl.new hp).trans s1
    obtain ⟨z, hz, hlet⟩ := isLets.pick r10 r11
    refine s_ixL (SqL.of (s1 _ _ (hb.ne hp).symm upd_same)) hz ?_
    obtain ⟨zl1, zl2⟩ := hlet.len
    have hzl : z.length ≤ sizeLine := sz (by rw [TL.len_tl]; omega)
    walk_at "go"
    refine ⟨sz (by simp), fun l hl => ?_⟩
    walk_at "go"
    have nlb := (b1.ne hl).symm
    have hlH : H l = none := by
      obtain ⟨_, _, _, _, e⟩ := b1
      exact f1.free e hl
    refine ⟨sz (by simp), fun l2 hl2 => ?_⟩
    walk_at "go"
    refine use_take ((b1.new hl).new hl2) (by decide) (by decide) fun r2 H2 r20 r21 b2 s2 => ?_
    have hl2b : l2 ≠ b := ((b1.new hl).ne hl2).symm
    obtain ⟨n, hn, n0, n4⟩ := pick4 (a := 1) (b := 1) (c := 2) (d := 4) (P := fun c => 1 ≤ c ∧ c ≤ 4) r20 r21 (by decide) (by decide) (by decide) (by decide)
    refine s_ixL (SqL.of (s2 _ _ hl2b upd_same)) hn ?_
    have f2 : But b H H2 := ((f1.new hl).new hl2).trans s2
    have hL2 : H2 l = some (.lst []) := s2 _ _ nlb (by rw [upd_ne (ne_of_none (upd_same : upd H1 l _ l = _) hl2)]; exact upd_same)
    walk_at "go"
    refine ⟨by omega, by omega, for_range (lo := 0) (n := n.toNat) (fun i σ' H' => ∃ (v1 v2 v3 : Option V) (ps : List Str), σ' = [some (.ref b), some (.str z), some (.ref l), v1, v2, v3] ∧ H' l = some (.lst (ps.map V.str)) ∧ ps.length = i ∧ (∀ p ∈ ps, partL (TL.tl p) = true) ∧ BoxAt H' b ∧ But b H H') ⟨none, none, none, [], rfl, hL2, rfl, (fun _ h => nomatch h), b2, f2⟩ ?_ ?_⟩
    · rintro i σ' H' hi ⟨v1, v2, v3, ps, rfl, hL, hlen, hpl, bx, fr⟩
      walk_at "go"
      refine ⟨sz (by simp), fun q hq => ?_⟩
      walk_at "go"
      refine use_take (bx.new hq) (by decide) (by decide) fun d1 G1 d10 d11 c1 t1 => ?_
      obtain ⟨m, hm, m0, m1⟩ := pick4 (a := 3) (b := 3) (c := 3) (d := 12) (P := fun c => 0 < c ∧ c ≤ 12) d10 d11 (by decide) (by decide) (by decide) (by decide)
      refine s_ixL (SqL.of (t1 _ _ (bx.ne hq).symm upd_same)) hm ?_
      walk_at "go"
      refine use_take c1 m0 (by omega) fun d2 G2 d20 d21 c2 t2 => ?_
      have g2 : But b H' G2 := ((But.refl.new hq).trans t1).trans t2
      have hLg := g2 _ _ nlb hL
      walk_at "go"
      refine ⟨by omega, by omega, fun D hD => ?_⟩
      have nDb := (c2.ne hD).symm
      have nDl : D ≠ l := (ne_of_none hLg hD).symm
      refine lc_range (lo := 0) (n := (1 + d2).toNat) (fun j H5 => ∃ cs : List Nat, H5 D = some (.lst ((cs.map sgn).map V.str)) ∧ cs.length = j ∧ (∀ c ∈ cs, low c = true) ∧ BoxAt H5 b ∧ But b G2 H5) ⟨[], upd_same, rfl, (fun _ h => nomatch h), c2.new hD, But.refl.new hD⟩ ?_ ?_
      · rintro j H5 hj ⟨cs, e1, e2, e3, e4, e5⟩
        walk_at "go"
        refine ⟨rfl, ?_⟩
        walk_at "go"
        refine ⟨z, rfl, hzl, ?_⟩
        walk_at "go"
        refine use_take e4 (by rw [TL.len_tl]; omega) (by rw [TL.len_tl]; omega) fun r H6 r0 r1 e6 e7 => ?_
        rw [TL.len_tl] at r1
        obtain ⟨c, hc, hcm⟩ := atI_get' r0 r1
        refine s_ixS hzl hc ?_
        have e8 := e7 _ _ nDb e1
        refine ⟨_, e8, by rw [List.length_map, List.length_map, sizeLine_eq]; omega, cs ++ [c], by rw [upd_same]; simp [sgn], by simp [e2], ?_, ?_, ?_⟩
        · intro x hx
          rcases List.mem_append.mp hx with hx | hx
          · exact e3 x hx
          · have : x = c := by simpa using hx
            subst this; exact hlet.low _ hcm
        · obtain ⟨x0, x1, x2, x3, e⟩ := e6
          exact ⟨x0, x1, x2, x3, by rw [upd_ne nDb.symm]; exact e⟩
        · intro a o na e
          have naD : a ≠ D := fun z => by rw [z, hD] at e; cases e
          rw [upd_ne naD]
          exact e7 _ _ na (e5 _ _ na e)
      · rintro H5 ⟨cs, e1, e2, e3, e4, e5⟩
        walk_at "go"
        have hjl : ((cs.map sgn).map (·.length)).sum ≤ (cs.map sgn).length * 1 := sum_len_le fun y hy => by
          obtain ⟨c, _, rfl⟩ := List.mem_map.mp hy
          exact Nat.le_refl _
        rw [List.length_map] at hjl
        have hL5 := e5 _ _ nlb hLg
        refine ⟨_, D, cs.map sgn, rfl, rfl, .inl (SqL.of e1), by rw [TL.len_tl (Str.ofString ""), tl_empty]; simp only [List.length_nil, Nat.mul_zero]; omega, ?_⟩
        walk_at "go"
        refine s_app hL5 (by rw [List.length_map, sizeLine_eq]; omega) ?_
        refine ⟨_, _, _, ps ++ [Txt.join (Str.ofString "") (cs.map sgn)], rfl, by rw [upd_same]; simp, by simp [hlen], ?_, ?_, ?_⟩
        · intro x hx
          rcases List.mem_append.mp hx with hx | hx
          · exact hpl x hx
          · have : x = Txt.join (Str.ofString "") (cs.map sgn) := by simpa using hx
            subst this
            rw [tl_join_nil]
            exact partL_of e3 (by omega) (by omega)
        · obtain ⟨x0, x1, x2, x3, e⟩ := e4
          exact ⟨x0, x1, x2, x3, by rw [upd_ne nlb.symm]; exact e⟩
        · intro a o na e
          have nal : a ≠ l := fun z => by rw [z, hlH] at e; cases e
          rw [upd_ne nal]
          exact e5 _ _ na (g2 _ _ na (fr _ _ na e))
    · rintro σ' H' ⟨v1, v2, v3, ps, rfl, hL, hlen, hpl, bx, fr⟩
      walk_at "go"
      have hps : ∀ p ∈ ps, p.length ≤ 12 := fun p hp => by
        have := hpl p hp
        unfold partL at this
        simp only [Bool.and_eq_true, decide_eq_true_eq] at this
        rw [TL.len_tl]; exact this.1.2
      have hjl : (ps.map (·.length)).sum ≤ ps.length * 12 := sum_len_le hps
      have h4 : ps.length ≤ 4 := by omega
      have hne : ps ≠ [] := by rintro rfl; simp at hlen; omega
      have hlj : (Txt.join (Str.ofString " ") ps).length ≤ 1000 := by
        have := PySem.StrLaws.join_length_le (Str.ofString " ") ps
        rw [← TL.join_eq, TL.len_tl (Str.ofString " "), tl_blank] at this
        simp only [List.length_singleton] at this
        omega
      refine ⟨_, l, ps, rfl, rfl, .inl (SqL.of hL), ?_, ?_⟩
      · rw [TL.len_tl (Str.ofString " "), tl_blank]
        simp only [List.length_singleton]; omega
      walk_at "go"
      refine s_slS (sz hlj) ?_
      refine ⟨rfl, ?_⟩
      walk_at "go"
      refine ⟨_, _, rfl, rfl, ?_, ?_⟩
      · exact Nat.le_trans (cutS_length _ _ _) (sz hlj)
      · exact k _ _ (word_cut (tl_join_blank ps) (by simpa using hne) (by simpa using h4) (by
          intro q hq
          obtain ⟨p, hp, rfl⟩ := List.mem_map.mp hq
          exact hpl p hp) (by decide) (.inl (by decide))) bx fr
theorem ok_law_thing (T : Top K mg) (F_law_take : Fn P w K mg base 1 "_law_take" ["_law_box_here", "_law_many"] spTake) (F_law_word : Fn P w K mg base 2 "_law_word" ["_law_box_here"] spWord) : Fn P w K mg base 3 "_law_thing" ["_law_box_here"] spThing := by
  refine T.d_law_thing.ok sc_law_thing bi_law_thing (fun vs H Q E h => ?_) (fun f cdv A outer s H vs Q E hr h => ?_)
  · obtain ⟨b, rfl, hb, k⟩ := h; rfl
  · obtain ⟨b, rfl, hb, k⟩ := h
    refine ⟨_, (pss_cons (ps_if (pt_cmpR op_eq (pe_fn F_law_take (hr.mono (by decide)) passL (pa_cons (pv 0) (pa_cons (pe_int) pa_nil))) (pe_int) (nomark _)) (pss_cons (ps_set (i := 1) sc_law_thing.nd rfl (Or.inl rfl) (pe_lst (pa_cons (pe_non) (pa_cons (pe_bl) (pa_cons (pe_bl) (pa_cons (pe_int) (pa_cons (pe_int) (pa_cons (pe_lst (pa_cons (pe_str) pa_nil)) (pa_cons (pe_tup (pa_cons (pe_str) pa_nil)) (pa_cons (pe_lst pa_nil) (pa_cons (pe_str) (pa_cons (pe_str) pa_nil))))))))))))
    (pss_one (ps_ret (pe_ix ix_list (pv 1) (pe_fn F_law_take (hr.mono (by decide)) passL (pa_cons (pv 0) (pa_cons (pe_int) pa_nil))) (fun _ _ => rfl))))) pss_nil)
    (pss_cons (ps_set (i := 2) sc_law_thing.nd rfl (Or.inl rfl) (pe_fn F_law_word (hr.mono (by decide)) passL (pa_cons (pv 0) pa_nil)))
    (pss_cons (ps_set (i := 3) sc_law_thing.nd rfl (Or.inl rfl) (pe_fn F_law_take (hr.mono (by decide)) passL (pa_cons (pv 0) (pa_cons (pe_int) pa_nil))))
    (pss_cons (ps_set (i := 4) sc_law_thing.nd rfl (Or.inl rfl) (pe_fn F_law_take (hr.mono (by decide)) passL (pa_cons (pv 0) (pa_cons (pe_op op_add (pe_callB call_len_str rfl T.n_len (by decide +kernel) (pa_cons (pv 2) pa_nil)) (pe_int)) pa_nil))))
    (pss_cons (ps_set (i := 5) sc_law_thing.nd rfl (Or.inl rfl) (pe_ix ix_str (pe_str) (pe_fn F_law_take (hr.mono (by decide)) passL (pa_cons (pv 0) (pa_cons (pe_int) pa_nil))) (fun _ _ => rfl)))
    (pss_cons (ps_if (pt_cmpR op_eq (pv 3) (pe_int) (nomark _)) (pss_one (ps_ret (pe_op op_add_str (pe_op op_add_str (pe_slice sl_str (pv 2) po_none (po_some (pv 4))) (pv 5)) (pe_slice sl_str (pv 2) (po_some (pv 4)) po_none)))) pss_nil)
    (pss_cons (ps_if (pt_cmpR op_eq (pv 3) (pe_int) (nomark _)) (pss_one (ps_ret (pe_op op_add_str (pe_slice sl_str (pv 2) po_none (po_some (pv 4))) (pe_slice sl_str (pv 2) (po_some (pe_op op_add (pv 4) (pe_int))) po_none)))) pss_nil)
    (pss_cons (ps_if (pt_cmpR op_eq (pv 3) (pe_int) (nomark _)) (pss_one (ps_ret (pe_op op_add_str (pe_op op_add_str (pe_slice sl_str (pv 2) po_none (po_some (pv 4))) (pv 5)) (pe_slice sl_str (pv 2) (po_some (pe_op op_add (pv 4) (pe_int))) po_none)))) pss_nil)
    (pss_cons (ps_if (pt_cmpR op_eq (pv 3) (pe_int) (nomark _)) (pss_one (ps_ret (pe_op op_add_str (pe_op op_add_str (pv 2) (pe_str)) (pv 2)))) pss_nil)
    (pss_cons (ps_if (pt_cmpR op_eq (pv 3) (pe_int) (nomark _)) (pss_one (ps_ret (pe_op op_add_str (pe_op op_add_str (pe_slice sl_str (pv 2) po_none (po_some (pv 4))) (pe_slice sl_str (pe_str) po_none (po_some (pe_op op_add (pe_int) (pe_fn F_law_take (hr.mono (by decide)) passL (pa_cons (pv 0) (pa_cons (pe_int) pa_nil))))))) (pe_slice sl_str (pv 2) (po_some (pv 4)) po_none)))) pss_nil)
    (pss_cons (ps_if (pt_cmpR op_eq (pv 3) (pe_int) (nomark _)) (pss_one (ps_ret (pe_join (pe_str) (pe_slice sl_list (pe_lst (pa_cons (pe_str) (pa_cons (pe_str) (pa_cons (pe_str) (pa_cons (pe_str) (pa_cons (pe_str) pa_nil)))))) po_none (po_some (pe_op op_add (pe_int) (pe_fn F_law_take (hr.mono (by decide)) passL (pa_cons (pv 0) (pa_cons (pe_int) pa_nil))))))))) pss_nil)
    (pss_one (ps_ret (pv 2)))))))))))))), ?_⟩
    walk_at "go"
    refine use_take hb (by decide) (by decide) fun r1 H1 r10 r11 b1 s1 => ?_
    walk_at "go"
    refine bT (fun hc => ?_) (fun hc => ?_)
    · walk_at "go"
      refine ⟨sz (by simp), fun l1 n1 => ?_⟩
      walk_at "go"
      refine ⟨sz (by simp), fun l2 n2 => ?_⟩
      walk_at "go"
      refine ⟨sz (by simp), fun l3 n3 => ?_⟩
      walk_at "go"
      refine ⟨sz (by simp), fun l4 n4 => ?_⟩
      walk_at "go"
      have f4 : But b H1 (upd (upd (upd (upd H1 l1 (.lst [.str "ab"])) l2 (.tup [.str "ab"])) l3 (.lst [])) l4 (.lst [.non, .bl true, .bl false, .int 0, .int 7, .ref l1, .ref l2, .ref l3, .str "", .str " "])) := (((But.refl.new n1).new n2).new n3).new n4
      refine use_take ((((b1.new n1).new n2).new n3).new n4) (by decide) (by decide) fun r H2 r0 r1 b2 s2 => ?_
      have e1 : H2 l1 = some (.lst [.str "ab"]) := s2 _ _ (b1.ne n1).symm (keepN (keepN (keepN upd_same n2) n3) n4)
      have e2 : H2 l2 = some (.tup [.str "ab"]) := s2 _ _ ((b1.new n1).ne n2).symm (keepN (keepN upd_same n3) n4)
      have e3 : H2 l3 = some (.lst []) := s2 _ _ (((b1.new n1).new n2).ne n3).symm (keepN upd_same n4)
      have e4 := s2 _ _ ((((b1.new n1).new n2).new n3).ne n4).symm upd_same
      obtain ⟨x, hx, ht⟩ : ∃ x, atI [V.non, .bl true, .bl false, .int 0, .int 7, .ref l1, .ref l2, .ref l3, .str "", .str " "] r = some x ∧ Thing H2 x := by
        have : r = 0 ∨ r = 1 ∨ r = 2 ∨ r = 3 ∨ r = 4 ∨ r = 5 ∨ r = 6 ∨ r = 7 ∨ r = 8 ∨ r = 9 := by omega
        rcases this with rfl | rfl | rfl | rfl | rfl | rfl | rfl | rfl | rfl | rfl
        · exact ⟨_, rfl, .non⟩
        · exact ⟨_, rfl, .bl _⟩
        · exact ⟨_, rfl, .bl _⟩
        · exact ⟨_, rfl, .int _⟩
        · exact ⟨_, rfl, .int _⟩
        · exact ⟨_, rfl, .lst e1⟩
        · exact ⟨_, rfl, .tup e2⟩
        · exact ⟨_, rfl, .lst e3⟩
        · exact ⟨_, rfl, .str _ ⟨by decide +kernel, by decide +kernel⟩⟩
        · exact ⟨_, rfl, .str _ ⟨by decide +kernel, by decide +kernel⟩⟩
      refine s_ixL (SqL.of e4) hx ?_
      exact k _ _ ht b2 ((s1.trans f4).trans s2)
    walk_at "go"
    refine ⟨b, rfl, b1, fun s H2 hw b2 s2 => ?_⟩
    have T := Tx.word hw
    have hs := isW_len hw
    walk_at "go"
    refine use_take b2 (by decide) (by decide) fun way H3 w0 w1 b3 s3 => ?_
    walk_at "go"
    refine ⟨s, rfl, sz (by omega), ?_⟩
    walk_at "go"
    refine use_take b3 (by omega) (by omega) fun at0 H4 a0 a1 b4 s4 => ?_
    walk_at "go"
    refine use_take b4 (by decide) (by decide) fun r2 H5 r20 r21 b5 s5 => ?_
    have hsz : (Str.ofString "abz  A0-._").length ≤ sizeLine := sz (by decide +kernel)
    obtain ⟨c, hcc, hcm⟩ := atI_get' (l := (Str.ofString "abz  A0-._").cps.toList) r20 (by
      rw [show (Str.ofString "abz  A0-._").cps.toList.length = 10 by decide +kernel]; exact r21)
    refine s_ixS hsz hcc ?_
    have Tc : Tx 1 ⟨#[c]⟩ := ⟨Nat.le_refl _, strOk_iff.mpr fun d hd => by
      have e : d = c := by simpa [TL.tl] using hd
      subst e
      exact strOk_iff.mp (by decide +kernel : PyData.strOk (Str.ofString "abz  A0-._") = true) d hcm⟩
    have f5 : But b H H5 := (((s1.trans s2).trans s3).trans s4).trans s5
    have hz : s.length ≤ sizeLine := sz (by omega)
    have K1 : ∀ x, Tx 1000 x → Q (.str x) H5 := fun x hx => k _ _ (.str x hx) b5 f5
    have TL1 : ∀ lo hi, Tx 24 (cutS s lo hi) := fun lo hi => T.cut lo hi
    walk_at "go"
    refine bT (fun h0 => ?_) (fun h0 => ?_)
    · walk_at "go"
      refine s_slS hz ?_
      walk_at "go"
      have a := (TL1 none (some at0)).app Tc
      refine ⟨_, _, rfl, rfl, sz (by have := (TL1 none (some at0)).len; have := Tc.len; omega), ?_⟩
      walk_at "go"
      refine s_slS hz ?_
      have a2 := a.app (TL1 (some at0) none)
      refine ⟨_, _, rfl, rfl, sz (by have := a.len; have := (TL1 (some at0) none).len; omega), K1 _ (a2.mono (by decide))⟩
    walk_at "go"
    refine bT (fun h1 => ?_) (fun h1 => ?_)
    · walk_at "go"
      refine s_slS hz ?_
      walk_at "go"
      refine s_slS hz ?_
      have a := (TL1 none (some at0)).app (TL1 (some (at0 + 1)) none)
      refine ⟨_, _, rfl, rfl, sz (by have := (TL1 none (some at0)).len; have := (TL1 (some (at0 + 1)) none).len; omega), K1 _ (a.mono (by decide))⟩
    walk_at "go"
    refine bT (fun h2 => ?_) (fun h2 => ?_)
    · walk_at "go"
      refine s_slS hz ?_
      walk_at "go"
      have a := (TL1 none (some at0)).app Tc
      refine ⟨_, _, rfl, rfl, sz (by have := (TL1 none (some at0)).len; have := Tc.len; omega), ?_⟩
      walk_at "go"
      refine s_slS hz ?_
      have a2 := a.app (TL1 (some (at0 + 1)) none)
      refine ⟨_, _, rfl, rfl, sz (by have := a.len; have := (TL1 (some (at0 + 1)) none).len; omega), K1 _ (a2.mono (by decide))⟩
    walk_at "go"
    refine bT (fun h3 => ?_) (fun h3 => ?_)
    · walk_at "go"
      have Tb : Tx 1 (Str.ofString " ") := ⟨by decide +kernel, by decide +kernel⟩
      have a := T.app Tb
      refine ⟨_, _, rfl, rfl, sz (by have := T.len; have := Tb.len; omega), ?_⟩
      walk_at "go"
      refine ⟨_, _, rfl, rfl, sz (by have := a.len; have := T.len; omega), K1 _ ((a.app T).mono (by decide))⟩
    walk_at "go"
    refine bT (fun h4 => ?_) (fun h4 => ?_)
    · walk_at "go"
      refine s_slS hz ?_
      walk_at "go"
      refine use_take b5 (by decide) (by decide) fun r6 H6 r60 r61 b6 s6 => ?_
      have K2 : ∀ x, Tx 1000 x → Q (.str x) H6 := fun x hx => k _ _ (.str x hx) b6 (f5.trans s6)
      have Tp : Tx 16 (Str.ofString "abcdefghijklmnop") := ⟨by decide +kernel, by decide +kernel⟩
      walk_at "go"
      refine s_slS (sz (Nat.le_trans Tp.len (by decide))) ?_
      have a := (TL1 none (some at0)).app (Tp.cut none (some (1 + r6)))
      refine ⟨_, _, rfl, rfl, sz (by have := (TL1 none (some at0)).len; have := (Tp.cut none (some (1 + r6))).len; omega), ?_⟩
      walk_at "go"
      refine s_slS hz ?_
      have a2 := a.app (TL1 (some at0) none)
      refine ⟨_, _, rfl, rfl, sz (by have := a.len; have := (TL1 (some at0) none).len; omega), K2 _ (a2.mono (by decide))⟩
    walk_at "go"
    refine bT (fun h5 => ?_) (fun h5 => ?_)
    · walk_at "go"
      refine ⟨sz (by simp), fun l1 n1 => ?_⟩
      walk_at "go"
      refine use_take (b5.new n1) (by decide) (by decide) fun r6 H6 r60 r61 b6 s6 => ?_
      have e1 := s6 _ _ (b5.ne n1).symm upd_same
      walk_at "go"
      intro l2 n2
      obtain ⟨ms, em, lm, mm⟩ := cutV_strs ["a", "bc", "d", "e", "f"] none (some (1 + r6))
      rw [show [V.str "a", V.str "bc", V.str "d", V.str "e", V.str "f"] = (["a", "bc", "d", "e", "f"] : List Str).map V.str from rfl, em]
      have Tm : ∀ m ∈ ms, Tx 2 m := fun m hm => by
        have := mm m hm
        simp only [List.mem_cons, List.not_mem_nil, or_false] at this
        rcases this with rfl | rfl | rfl | rfl | rfl <;> exact ⟨by decide +kernel, by decide +kernel⟩
      have Tj := Tx.join Tm
      have h2 := sum_len_le (f := fun p : Str => p.length) (n := 2) (l := ms) fun p hp => (Tm p hp).len
      have lm' : ms.length ≤ 5 := lm
      refine ⟨_, l2, ms, rfl, rfl, .inl (SqL.of upd_same), ?_, ?_⟩
      · rw [TL.len_tl (Str.ofString " "), tl_blank]
        simp only [List.length_singleton]; omega
      · exact k _ _ (.str _ (Tj.mono (by omega))) (b6.new n2) (((f5.new n1).trans s6).new n2)
    walk_at "go"
    exact K1 _ (T.mono (by decide))
/-- law's: a list of at most 63 ints is handed in, True comes out -/
def spLaw (K : PySem.W.Frag) : Sp := fun vs H Q _ => ∃ (a : Addr) (ns : List Int), vs = [.ref a] ∧ SqL K H a (ns.map V.int) ∧ ns.length ≤ 63 ∧ ∀ H', Q (.bl true) H'
theorem okF_law {fa : Addr} {fd : FuncData} (T : Top K mg) (F : Fun K "law" "law" s_law fa fd) (F_law_box : Fn P w K mg base 1 "_law_box" ["_law_cell"] spBox) (F_law_cell_at : Fn P w K mg base 1 "_law_cell_at" ["_law_script", "_law_k"] (spCell K)) (F_law_is_word : Fn P w K mg base 1 "_law_is_word" ["_law_thing_here"] (spIsWord1 K)) (F_law_thing : Fn P w K mg base 3 "_law_thing" ["_law_box_here"] spThing) (F_law_truth : Fn P w K mg base 1 "_law_truth" ["_law_found", "_law_due"] spTruth) (F_is_word : Fn P w K mg base 2 "is_word" ["thing"] (spIsWord K)) : FnOk P w K mg base (L2.CX P w) 4 fa fd ["_law_script"] (spLaw K) := by
  refine F.okX sc_law (fun vs H Q E h => ?_) (fun cdv A outer s H vs Q E hr h => ?_)
  · obtain ⟨a, ns, rfl, hS, hl, k⟩ := h; rfl
  · obtain ⟨a, ns, rfl, hS, hl, k⟩ := h
    refine ⟨_, PSs.nox ((pss_cons (ps_for PassesOwn.never rfl (pi_list (pe_op op_cat (pe_lst (pa_cons (pe_fn F_law_cell_at (hr.mono (by decide)) passL (pa_cons (pv 0) (pa_cons (pe_int) pa_nil))) pa_nil)) (pe_slice sl_list (pv 0) (po_some (pe_int)) (po_some (pe_int))))) (pg_name (i := 1) sc_law.nd rfl (Or.inl rfl)) (pss_cons (ps_set (i := 2) sc_law.nd rfl (Or.inl rfl) (pe_fn F_law_box (hr.mono (by decide)) passL (pa_cons (pv 1) pa_nil)))
    (pss_one (ps_for PassesOwn.never rfl (pi_range1 rfl T.n_range (pa_cons (pe_int) pa_nil)) (pg_name (i := 3) sc_law.nd rfl (Or.inl rfl)) (pss_cons (ps_set (i := 4) sc_law.nd rfl (Or.inl rfl) (pe_fn F_law_thing (hr.mono (by decide)) passL (pa_cons (pv 2) pa_nil)))
    (pss_one (ps_if (pt_not (pt_val (pe_fn F_law_truth (hr.mono (by decide)) passL (pa_cons (pe_fn F_is_word (hr.mono (by decide)) passL (pa_cons (pv 4) pa_nil)) (pa_cons (pe_fn F_law_is_word (hr.mono (by decide)) passL (pa_cons (pv 4) pa_nil)) pa_nil))))) (pss_one (ps_ret (pe_bl))) pss_nil)))))))
    (pss_one (ps_ret (pe_bl))))), ?_⟩
    walk_at "go"
    refine ⟨a, ns, 0, rfl, hS, by omega, fun r => ?_⟩
    walk_at "go"
    refine ⟨sz (by simp), fun p hp => ?_⟩
    have hS1 : SqL _ (upd H p (.lst [.int r])) a (ns.map V.int) := sql_new hS hp
    walk_at "go"
    intro q hq
    obtain ⟨ms, em, lm⟩ := cutV_ints ns (some 1) (some 12)
    rw [em]
    have npq := ne_of_none (show (upd H p (.lst [.int r])) p = _ from upd_same) hq
    refine ⟨p, q, [.int r], ms.map V.int, rfl, rfl, by walk_at "hp", upd_same, sz (by simp; omega), fun l hL => ?_⟩
    walk_at "go"
    rw [show ([V.int r] ++ ms.map V.int) = (r :: ms).map V.int from rfl]
    generalize hG : upd (upd (upd H p (.lst [.int r])) q (.lst (ms.map V.int))) l (.lst ((r :: ms).map V.int)) = G
    have hl : G l = some (.lst ((r :: ms).map V.int)) := by rw [← hG]; exact upd_same
    refine ⟨⟨_, SqL.of hl⟩, for_list (xs := (r :: ms).map V.int) (fun i σ' H' => ∃ v1 v2 v3 v4, σ' = [some (.ref a), v1, v2, v3, v4] ∧ Same G H') ⟨_, _, _, _, rfl, Same.refl _⟩ (fun i σ' H' _ h => by obtain ⟨_, _, _, _, _, s⟩ := h; exact SqL.of (s _ _ hl)) ?_ ?_⟩
    · rintro i x σ' H' hi ⟨v1, v2, v3, v4, rfl, s1⟩
      obtain ⟨n, hn, rfl⟩ := ints_get hi
      walk_at "go"
      refine ⟨n, rfl, fun b H1 hb s2 hB => ?_⟩
      walk_at "go"
      refine ⟨by omega, by omega, for_range (lo := 0) (n := Int.toNat 2) (fun j σ' H' => ∃ v3 v4, σ' = [some (.ref a), some (.int n), some (.ref b), v3, v4] ∧ Same G H' ∧ BoxAt H' b) ⟨_, _, rfl, s1.trans s2, hB⟩ ?_ ?_⟩
      · rintro j σ' H' hj ⟨v3, v4, rfl, s3, bx⟩
        walk_at "go"
        refine ⟨b, rfl, bx, fun x H2 hx b2 s4 => ?_⟩
        have nG : G b = none := s1.free hb
        have f2 : Same G H2 := s4.same s3 nG
        walk_at "go"
        rcases hx.ty with ⟨s, rfl, hT⟩ | ⟨t, ht, hk⟩
        · refine ⟨_, rfl, .inl ⟨s, rfl, Nat.le_trans hT.len (by decide), hT.ok, fun H3 s5 => ?_⟩⟩
          walk_at "go"
          refine ⟨_, rfl, .inl ⟨s, rfl, Nat.le_trans hT.len (by decide), ?_⟩⟩
          walk_at "go"
          refine ⟨_, _, rfl, ?_⟩
          rw [decide_eq_true rfl]
          walk_at "go"
          obtain ⟨_, _, _, _, e⟩ := b2
          exact ⟨_, _, rfl, f2.trans s5, ⟨_, _, _, _, s5 _ _ e⟩⟩
        · refine ⟨_, rfl, .inr ⟨t, ht, hk, ?_⟩⟩
          walk_at "go"
          refine ⟨_, rfl, .inr ⟨t, ht, hk, ?_⟩⟩
          walk_at "go"
          refine ⟨_, _, rfl, ?_⟩
          rw [decide_eq_true rfl]
          walk_at "go"
          exact ⟨_, _, rfl, f2, b2⟩
      · rintro σ' H' ⟨v3, v4, rfl, s3, bx⟩
        walk_at "go"
        exact ⟨_, _, _, _, rfl, s3⟩
    · rintro σ' H' ⟨v1, v2, v3, v4, rfl, s1⟩
      walk_at "go"
      exact k _
end
theorem all_mk {l : PySem.W.OpenLaw} {w : World} {K : PySem.W.Frag} {h : Heap} {mg : Str → Option Value} {fa : Addr} (X : K.In h) (G : h.Ns mainGlobals mg) (hfa : mg "law" = some (.ref fa))
    {f_is_part : Addr} {od_is_part an_is_part : Option Addr} {sl_is_part : Array (Option Value)} {oc_is_part kV_is_part dc_is_part pm_is_part cd_is_part ct_is_part : Value} {f_is_word : Addr} {od_is_word an_is_word : Option Addr} {sl_is_word : Array (Option Value)} {oc_is_word kV_is_word dc_is_word pm_is_word cd_is_word ct_is_word : Value} {f_law_cell_at : Addr} {od_law_cell_at an_law_cell_at : Option Addr} {sl_law_cell_at : Array (Option Value)} {oc_law_cell_at kV_law_cell_at dc_law_cell_at pm_law_cell_at cd_law_cell_at ct_law_cell_at : Value} {f_law_box : Addr} {od_law_box an_law_box : Option Addr} {sl_law_box : Array (Option Value)} {oc_law_box kV_law_box dc_law_box pm_law_box cd_law_box ct_law_box : Value} {f_law_take : Addr} {od_law_take an_law_take : Option Addr} {sl_law_take : Array (Option Value)} {oc_law_take kV_law_take dc_law_take pm_law_take cd_law_take ct_law_take : Value} {f_law_truth : Addr} {od_law_truth an_law_truth : Option Addr} {sl_law_truth : Array (Option Value)} {oc_law_truth kV_law_truth dc_law_truth pm_law_truth cd_law_truth ct_law_truth : Value} {f_law_is_word : Addr} {od_law_is_word an_law_is_word : Option Addr} {sl_law_is_word : Array (Option Value)} {oc_law_is_word kV_law_is_word dc_law_is_word pm_law_is_word cd_law_is_word ct_law_is_word : Value} {f_law_word : Addr} {od_law_word an_law_word : Option Addr} {sl_law_word : Array (Option Value)} {oc_law_word kV_law_word dc_law_word pm_law_word cd_law_word ct_law_word : Value} {f_law_thing : Addr} {od_law_thing an_law_thing : Option Addr} {sl_law_thing : Array (Option Value)} {oc_law_thing kV_law_thing dc_law_thing pm_law_thing cd_law_thing ct_law_thing : Value} {f_law : Addr} {od_law an_law : Option Addr} {sl_law : Array (Option Value)} {oc_law kV_law dc_law pm_law cd_law ct_law : Value} {tk_LETTERS : Tok}
    (a_is_part : PySem.W.nsIn K mainGlobals "is_part" = some (some (.ref f_is_part)))
    (l_is_part : K.lookup f_is_part = some ⟨oc_is_part, od_is_part, .func (PySem.W.fnOf "is_part" "is_part" (defArgs s_is_part) (defBody s_is_part) (defScope s_is_part) .none kV_is_part dc_is_part pm_is_part an_is_part cd_is_part ct_is_part), sl_is_part⟩)
    (q_is_part : PySem.W.codeIn K cd_is_part "is_part" = true)
    (k_is_part : PySem.W.keepIn K (.ref f_is_part) = true)
    (a_is_word : PySem.W.nsIn K mainGlobals "is_word" = some (some (.ref f_is_word)))
    (l_is_word : K.lookup f_is_word = some ⟨oc_is_word, od_is_word, .func (PySem.W.fnOf "is_word" "is_word" (defArgs s_is_word) (defBody s_is_word) (defScope s_is_word) .none kV_is_word dc_is_word pm_is_word an_is_word cd_is_word ct_is_word), sl_is_word⟩)
    (q_is_word : PySem.W.codeIn K cd_is_word "is_word" = true)
    (k_is_word : PySem.W.keepIn K (.ref f_is_word) = true)
    (a_law_cell_at : PySem.W.nsIn K mainGlobals "_law_cell_at" = some (some (.ref f_law_cell_at)))
    (l_law_cell_at : K.lookup f_law_cell_at = some ⟨oc_law_cell_at, od_law_cell_at, .func (PySem.W.fnOf "_law_cell_at" "_law_cell_at" (defArgs s_law_cell_at) (defBody s_law_cell_at) (defScope s_law_cell_at) .none kV_law_cell_at dc_law_cell_at pm_law_cell_at an_law_cell_at cd_law_cell_at ct_law_cell_at), sl_law_cell_at⟩)
    (q_law_cell_at : PySem.W.codeIn K cd_law_cell_at "_law_cell_at" = true)
    (k_law_cell_at : PySem.W.keepIn K (.ref f_law_cell_at) = true)
    (a_law_box : PySem.W.nsIn K mainGlobals "_law_box" = some (some (.ref f_law_box)))
    (l_law_box : K.lookup f_law_box = some ⟨oc_law_box, od_law_box, .func (PySem.W.fnOf "_law_box" "_law_box" (defArgs s_law_box) (defBody s_law_box) (defScope s_law_box) .none kV_law_box dc_law_box pm_law_box an_law_box cd_law_box ct_law_box), sl_law_box⟩)
    (q_law_box : PySem.W.codeIn K cd_law_box "_law_box" = true)
    (k_law_box : PySem.W.keepIn K (.ref f_law_box) = true)
    (a_law_take : PySem.W.nsIn K mainGlobals "_law_take" = some (some (.ref f_law_take)))
    (l_law_take : K.lookup f_law_take = some ⟨oc_law_take, od_law_take, .func (PySem.W.fnOf "_law_take" "_law_take" (defArgs s_law_take) (defBody s_law_take) (defScope s_law_take) .none kV_law_take dc_law_take pm_law_take an_law_take cd_law_take ct_law_take), sl_law_take⟩)
    (q_law_take : PySem.W.codeIn K cd_law_take "_law_take" = true)
    (k_law_take : PySem.W.keepIn K (.ref f_law_take) = true)
    (a_law_truth : PySem.W.nsIn K mainGlobals "_law_truth" = some (some (.ref f_law_truth)))
    (l_law_truth : K.lookup f_law_truth = some ⟨oc_law_truth, od_law_truth, .func (PySem.W.fnOf "_law_truth" "_law_truth" (defArgs s_law_truth) (defBody s_law_truth) (defScope s_law_truth) .none kV_law_truth dc_law_truth pm_law_truth an_law_truth cd_law_truth ct_law_truth), sl_law_truth⟩)
    (q_law_truth : PySem.W.codeIn K cd_law_truth "_law_truth" = true)
    (k_law_truth : PySem.W.keepIn K (.ref f_law_truth) = true)
    (a_law_is_word : PySem.W.nsIn K mainGlobals "_law_is_word" = some (some (.ref f_law_is_word)))
    (l_law_is_word : K.lookup f_law_is_word = some ⟨oc_law_is_word, od_law_is_word, .func (PySem.W.fnOf "_law_is_word" "_law_is_word" (defArgs s_law_is_word) (defBody s_law_is_word) (defScope s_law_is_word) .none kV_law_is_word dc_law_is_word pm_law_is_word an_law_is_word cd_law_is_word ct_law_is_word), sl_law_is_word⟩)
    (q_law_is_word : PySem.W.codeIn K cd_law_is_word "_law_is_word" = true)
    (k_law_is_word : PySem.W.keepIn K (.ref f_law_is_word) = true)
    (a_law_word : PySem.W.nsIn K mainGlobals "_law_word" = some (some (.ref f_law_word)))
    (l_law_word : K.lookup f_law_word = some ⟨oc_law_word, od_law_word, .func (PySem.W.fnOf "_law_word" "_law_word" (defArgs s_law_word) (defBody s_law_word) (defScope s_law_word) .none kV_law_word dc_law_word pm_law_word an_law_word cd_law_word ct_law_word), sl_law_word⟩)
    (q_law_word : PySem.W.codeIn K cd_law_word "_law_word" = true)
    (k_law_word : PySem.W.keepIn K (.ref f_law_word) = true)
    (a_law_thing : PySem.W.nsIn K mainGlobals "_law_thing" = some (some (.ref f_law_thing)))
    (l_law_thing : K.lookup f_law_thing = some ⟨oc_law_thing, od_law_thing, .func (PySem.W.fnOf "_law_thing" "_law_thing" (defArgs s_law_thing) (defBody s_law_thing) (defScope s_law_thing) .none kV_law_thing dc_law_thing pm_law_thing an_law_thing cd_law_thing ct_law_thing), sl_law_thing⟩)
    (q_law_thing : PySem.W.codeIn K cd_law_thing "_law_thing" = true)
    (k_law_thing : PySem.W.keepIn K (.ref f_law_thing) = true)
    (a_law : PySem.W.nsIn K mainGlobals "law" = some (some (.ref f_law)))
    (l_law : K.lookup f_law = some ⟨oc_law, od_law, .func (PySem.W.fnOf "law" "law" (defArgs s_law) (defBody s_law) (defScope s_law) .none kV_law dc_law pm_law an_law cd_law ct_law), sl_law⟩)
    (q_law : PySem.W.codeIn K cd_law "law" = true)
    (k_law : PySem.W.keepIn K (.ref f_law) = true)
    (z_bool : PySem.W.nsIn K mainGlobals "bool" = some none)
    (z_isinstance : PySem.W.nsIn K mainGlobals "isinstance" = some none)
    (z_len : PySem.W.nsIn K mainGlobals "len" = some none)
    (z_range : PySem.W.nsIn K mainGlobals "range" = some none)
    (z_str : PySem.W.nsIn K mainGlobals "str" = some none)
    (z_LETTERS : PySem.W.nsIn K mainGlobals "LETTERS" = some (some (.str "abcdefghijklmnopqrstuvwxyz" tk_LETTERS))) :
    ∃ fd : FuncData, (∀ (s : Shared) (v : Value), BindsTo s fd ⟨[v], []⟩ [("_law_script", v)]) ∧ ∀ base : Heap, K.In base → base.Ns mainGlobals mg → FnOk l.prog w K mg base (L2.CX l.prog w) 4 fa fd ["_law_script"] (spLaw K) := by
  have e := hfa.symm.trans (PySem.W.mg_of X G a_law)
  cases e
  have T : Top K mg := ⟨PySem.W.mg_none_of X G z_bool,
    PySem.W.mg_none_of X G z_isinstance,
    PySem.W.mg_none_of X G z_len,
    PySem.W.mg_none_of X G z_range,
    PySem.W.mg_none_of X G z_str,
    ⟨_, PySem.W.mg_of X G z_LETTERS⟩,
    ⟨_, _, fun_mk (st := s_is_part) l_is_part q_is_part k_is_part, PySem.W.mg_of X G a_is_part⟩,
    ⟨_, _, fun_mk (st := s_is_word) l_is_word q_is_word k_is_word, PySem.W.mg_of X G a_is_word⟩,
    ⟨_, _, fun_mk (st := s_law_cell_at) l_law_cell_at q_law_cell_at k_law_cell_at, PySem.W.mg_of X G a_law_cell_at⟩,
    ⟨_, _, fun_mk (st := s_law_box) l_law_box q_law_box k_law_box, PySem.W.mg_of X G a_law_box⟩,
    ⟨_, _, fun_mk (st := s_law_take) l_law_take q_law_take k_law_take, PySem.W.mg_of X G a_law_take⟩,
    ⟨_, _, fun_mk (st := s_law_truth) l_law_truth q_law_truth k_law_truth, PySem.W.mg_of X G a_law_truth⟩,
    ⟨_, _, fun_mk (st := s_law_is_word) l_law_is_word q_law_is_word k_law_is_word, PySem.W.mg_of X G a_law_is_word⟩,
    ⟨_, _, fun_mk (st := s_law_word) l_law_word q_law_word k_law_word, PySem.W.mg_of X G a_law_word⟩,
    ⟨_, _, fun_mk (st := s_law_thing) l_law_thing q_law_thing k_law_thing, PySem.W.mg_of X G a_law_thing⟩⟩
  have F_is_part := fun (base : Heap) => ok_is_part (P := l.prog) (w := w) (base := base) T 
  have F_is_word := fun (base : Heap) => ok_is_word (P := l.prog) (w := w) (base := base) T (F_is_part base)
  have F_law_cell_at := fun (base : Heap) => ok_law_cell_at (P := l.prog) (w := w) (base := base) T 
  have F_law_box := fun (base : Heap) => ok_law_box (P := l.prog) (w := w) (base := base) T 
  have F_law_take := fun (base : Heap) => ok_law_take (P := l.prog) (w := w) (base := base) T 
  have F_law_truth := fun (base : Heap) => ok_law_truth (P := l.prog) (w := w) (base := base) T 
  have F_law_is_word := fun (base : Heap) => ok_law_is_word (P := l.prog) (w := w) (base := base) T 
  have F_law_word := fun (base : Heap) => ok_law_word (P := l.prog) (w := w) (base := base) T (F_law_take base)
  have F_law_thing := fun (base : Heap) => ok_law_thing (P := l.prog) (w := w) (base := base) T (F_law_take base) (F_law_word base)
  exact ⟨PySem.W.fnOf "law" "law" (defArgs s_law) (defBody s_law) (defScope s_law) .none kV_law dc_law pm_law an_law cd_law ct_law, fun s v => .of_eq rfl, fun base _ _ => okF_law (base := base) T (fun_mk (st := s_law) l_law q_law k_law) (F_law_box base) (F_law_cell_at base) (F_law_is_word base) (F_law_thing base) (F_law_truth base) (F_is_word base)⟩
theorem walk {l : PySem.W.OpenLaw} {q : Program} {loose : List Str} {XP : (Str → Option Value) → Heap → Prop} {YP : World → Heap → Prop} {d : DefRec} {K : Params → PySem.W.Frag} (hn : l.most = some 63) (hdf : d.params.defaults = [])
    (hY : ∀ (w : World) (h : Heap), YP w h → (K w.params).In h)
    (F : ∀ (w : World) (mg : Str → Option Value) (fa : Addr) (h : Heap), (K w.params).In h → h.Ns mainGlobals mg → mg d.name = some (.ref fa) →
      ∃ fd : FuncData, (∀ (s : Shared) (u : Value), BindsTo s fd ⟨[u], []⟩ [("_law_script", u)]) ∧ ∀ base : Heap, (K w.params).In base → base.Ns mainGlobals mg → FnOk l.prog w (K w.params) mg base (L2.CX l.prog w) 4 fa fd ["_law_script"] (spLaw (K w.params))) :
    PySem.W.WalkO q loose XP YP l.row.toRowW d [] (fun f vs => PySem.call f vs) :=
  L2.walk_of (n := 63) (k := 4) (x := "_law_script") (CX := fun w => L2.CX l.prog w) (sp := fun w => spLaw (K w.params)) hn (by decide) hdf ⟨rfl, by decide, by decide⟩ hY F (fun _ _ a ns hl _ hS => ⟨a, ns, rfl, hS, hl, fun _ => rfl⟩) fun _ _ _ _ _ z => by
    obtain ⟨_, _, _, _, _, _, _, _, _, _, _, _, z⟩ := z
    exact z
end Ah
open PySem PySem.W PyProof.Rows
set_option maxRecDepth 100000 in
set_option maxHeartbeats 0 in
theorem PySem.Challenge.cw_aheadword_k01_words_holds : PySem.Challenge.rw_aheadword_k01_words.Holds := by
  w_on; o_law; k_head; (case hw => w_witness2)
  k_fill
  refine Ah.walk (l := PySem.Challenge.rw_aheadword_k01_words) rfl rfl (fun w h Y => PySem.W.kIn_of Y) ?F
  case F =>
    intro w mg fa h KX G hmg
    refine' Ah.all_mk KX G hmg ?a_is_part ?l_is_part ?q_is_part ?k_is_part ?a_is_word ?l_is_word ?q_is_word ?k_is_word ?a_law_cell_at ?l_law_cell_at ?q_law_cell_at ?k_law_cell_at ?a_law_box ?l_law_box ?q_law_box ?k_law_box ?a_law_take ?l_law_take ?q_law_take ?k_law_take ?a_law_truth ?l_law_truth ?q_law_truth ?k_law_truth ?a_law_is_word ?l_law_is_word ?q_law_is_word ?k_law_is_word ?a_law_word ?l_law_word ?q_law_word ?k_law_word ?a_law_thing ?l_law_thing ?q_law_thing ?k_law_thing ?a_law ?l_law ?q_law ?k_law ?z_bool ?z_isinstance ?z_len ?z_range ?z_str ?z_LETTERS
    (case a_is_part => k_is)
    (case l_is_part => k_is)
    (case q_is_part => k_is)
    (case k_is_part => k_is)
    (case a_is_word => k_is)
    (case l_is_word => k_is)
    (case q_is_word => k_is)
    (case k_is_word => k_is)
    (case a_law_cell_at => k_is)
    (case l_law_cell_at => k_is)
    (case q_law_cell_at => k_is)
    (case k_law_cell_at => k_is)
    (case a_law_box => k_is)
    (case l_law_box => k_is)
    (case q_law_box => k_is)
    (case k_law_box => k_is)
    (case a_law_take => k_is)
    (case l_law_take => k_is)
    (case q_law_take => k_is)
    (case k_law_take => k_is)
    (case a_law_truth => k_is)
    (case l_law_truth => k_is)
    (case q_law_truth => k_is)
    (case k_law_truth => k_is)
    (case a_law_is_word => k_is)
    (case l_law_is_word => k_is)
    (case q_law_is_word => k_is)
    (case k_law_is_word => k_is)
    (case a_law_word => k_is)
    (case l_law_word => k_is)
    (case q_law_word => k_is)
    (case k_law_word => k_is)
    (case a_law_thing => k_is)
    (case l_law_thing => k_is)
    (case q_law_thing => k_is)
    (case k_law_thing => k_is)
    (case a_law => k_is)
    (case l_law => k_is)
    (case q_law => k_is)
    (case k_law => k_is)
    (case z_bool => k_is)
    (case z_isinstance => k_is)
    (case z_len => k_is)
    (case z_range => k_is)
    (case z_str => k_is)
    (case z_LETTERS => k_is)
