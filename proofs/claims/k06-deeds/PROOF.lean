import PyProof.Rows.All
import Wide.All
import OpenK.AllK
import Wide.FinOn
import HandS.ForMost
import HandS.ForExc
import HandS.IsInst
import HandS.Wide
import HandS.Flow
import HandS.Evl
import HandS.StrMore
import HandS.Walk
import HandS.Sort
import HandS.SortKw
import HandS.More
import HandS.SetFor
import KE.SortData
import KE.SortKeyHeap
import KE.DataMinMax
import KE.DataFind
import KE.KDictSum
import HandS.Defaults
import HandS.ForDict
import HandS.ExcOwn
import HandS.Small
import HandS.TryOnly
import HandS.Iter
import PySem.Challenge.RW_aheadword_k06_wood_deeds
set_option Elab.async false
set_option linter.all false
set_option maxRecDepth 100000
set_option maxHeartbeats 4000000
set_option Elab.async false
set_option linter.all false
set_option maxRecDepth 100000
set_option maxHeartbeats 4000000
/-! Ah: words of my own over the layer: a def at its name, boxes of draws, what changes and what stays. -/
namespace Ah
open PySem PySem.Spec PyProof.Rows L2

/-- the def x stands behind the top, as the text st says -/
structure DefAt (K : PySem.W.Frag) (mg : Str → Option Value) (x : Str) (st : Stmt) : Prop where
  ex : ∃ (f : Addr) (fd : FuncData), Fun K x x st f fd ∧ mg x = some (.ref f)
/-- the def x keeps the promise sp, by at most k calls one in another -/
structure Fn (P : Program) (w : World) (K : PySem.W.Frag) (mg : Str → Option Value) (base : Heap) (k : Nat) (x : Str) (ps : List Str) (sp : Sp) : Prop where
  ex : ∃ (f : Addr) (fd : FuncData), FnOk P w K mg base (L2.CX P w) k f fd ps sp ∧ mg x = some (.ref f) ∧ PySem.W.keepIn K (.ref f) = true ∧ Binds K fd ps []
section
variable {P : Program} {w : World} {K : PySem.W.Frag} {mg : Str → Option Value} {base : Heap} {j k : Nat} {x : Str} {ps : List Str} {sp sp' : Sp} {st : Stmt} {N : List Str}
theorem Fn.mono (F : Fn P w K mg base j x ps sp) (h : j ≤ k) : Fn P w K mg base k x ps sp := by
  obtain ⟨f, fd, a, b⟩ := F.ex
  exact ⟨f, fd, a.mono h, b⟩
theorem Fn.imp (F : Fn P w K mg base k x ps sp) (h : ∀ vs H Q E, sp' vs H Q E → sp vs H Q E) : Fn P w K mg base k x ps sp' := by
  obtain ⟨f, fd, a, b⟩ := F.ex
  exact ⟨f, fd, a.imp h, b⟩
/-- how arguments bind, as a premise on the text alone -/
abbrev BindOk (x : Str) (st : Stmt) (ps : List Str) : Prop := ∀ (kV doc pm : Value) (an : Option Addr) (cdv ct : Value) (us : List Value), us.length = ps.length → bindArgs (PySem.W.fnOf x x (defArgs st) (defBody st) (defScope st) .none kV doc pm an cdv ct) ⟨us, []⟩ = pure (ps.zip us)
/-- a def that raises nothing -/
theorem DefAt.ok (D : DefAt K mg x st) (S : FnScope N ps (defScope st)) (B : BindOk x st ps) (len : ∀ vs H Q E, sp vs H Q E → vs.length = ps.length)
    (hbody : ∀ (f : Addr) (cdv : Value) (A : Around) (outer : List Env) (s : Shared) (H : Hp) (vs : List V) (Q : VK) (E : XK), Room k (A.deeper (envOfC x (defScope st) s.heap.objs.size f cdv)) → sp vs H Q E →
      ∃ t, PSs (cxOf (L2.CX P w) P w K mg base N x (defScope st) f cdv A outer s H E).nox (defBody st) t ∧ t { nx := fun _ H' => Q .non H', rt := Q } (start N vs) H) : Fn P w K mg base (k + 1) x ps sp := by
  obtain ⟨f, fd, F, m⟩ := D.ex
  refine ⟨f, fd, F.okX S len fun cdv A outer s H vs Q E hr h => ?_, m, F.kp, F.binds B⟩
  obtain ⟨t, h1, h2⟩ := hbody f cdv A outer s H vs Q E hr h
  exact ⟨t, h1.nox, h2⟩
/-- a def that may raise -/
theorem DefAt.okX (D : DefAt K mg x st) (S : FnScope N ps (defScope st)) (B : BindOk x st ps) (len : ∀ vs H Q E, sp vs H Q E → vs.length = ps.length)
    (hbody : ∀ (f : Addr) (cdv : Value) (A : Around) (outer : List Env) (s : Shared) (H : Hp) (vs : List V) (Q : VK) (E : XK), Room k (A.deeper (envOfC x (defScope st) s.heap.objs.size f cdv)) → sp vs H Q E →
      ∃ t, PSs (cxOf (L2.CX P w) P w K mg base N x (defScope st) f cdv A outer s H E) (defBody st) t ∧ t { nx := fun _ H' => Q .non H', rt := Q } (start N vs) H) : Fn P w K mg base (k + 1) x ps sp := by
  obtain ⟨f, fd, F, m⟩ := D.ex
  exact ⟨f, fd, F.okX S len fun cdv A outer s H vs Q E hr h => hbody f cdv A outer s H vs Q E hr h, m, F.kp, F.binds B⟩
end
section
variable {X : Cx} {k : Nat} {ps : List Str} {sp : Sp} {E : XK} {x : Str} {p pos : Pos} {e : Expr} {es : List Expr} {t : TA}
theorem pe_fn (F : Fn X.prog X.w X.K X.mg X.base k x ps sp) (hr : Room k X.A) (hx : Passes (L2.CX X.prog X.w) X E) (ha : PA X (e :: es) t) (hg : Gl X x := by rfl)
    (hdb : (x == ("__debug__" : Str)) = false := by decide) (he : starEach (e :: es) X.env = (false, eval e X.env) :: starEach es X.env := by rfl) (hpl : (backTo pos (starEach es X.env)).any (·.1) = false := by rfl) :
    PE X (.Call (.Name x p) (e :: es) [] pos) (tCall sp [] E t) := by
  obtain ⟨f, fd, a, m, kp, b⟩ := F.ex
  exact pe_call a hr hg m kp b .nil hx ha hdb he hpl
end

/-! ### what stays -/
/-- all but the object at b stays -/
def But (b : Addr) (H H' : Hp) : Prop := ∀ a o, a ≠ b → H a = some o → H' a = some o
theorem But.refl {b : Addr} {H : Hp} : But b H H := fun _ _ _ h => h
theorem But.trans {b : Addr} {H H1 H2 : Hp} (x : But b H H1) (y : But b H1 H2) : But b H H2 := fun a o n h => y a o n (x a o n h)
theorem But.upd {b : Addr} {H H1 : Hp} {o : HO} (x : But b H H1) : But b H (upd H1 b o) := fun a u n h => by rw [upd_ne n]; exact x a u n h
theorem But.new {b p : Addr} {H H1 : Hp} {o : HO} (x : But b H H1) (h : H1 p = none) : But b H (L2.upd H1 p o) := fun a u n e => by
  have := x a u n e
  rw [upd_ne (ne_of_none this h)]; exact this
theorem Same.new {p : Addr} {H H1 : Hp} {o : HO} (x : Same H H1) (h : H1 p = none) : Same H (upd H1 p o) := fun a u e => by
  have := x a u e
  rw [upd_ne (ne_of_none this h)]; exact this
theorem But.of {b : Addr} {H H1 : Hp} (x : Same H H1) : But b H H1 := fun a o _ h => x a o h
theorem But.free {b p : Addr} {H H1 : Hp} {o : HO} (x : But b H H1) (hb : H1 b = some o) (h : H1 p = none) : H p = none := by
  cases e : H p with
  | none => rfl
  | some u => rw [x p u (by rintro rfl; rw [hb] at h; cases h) e] at h; cases h
theorem But.sql {K : PySem.W.Frag} {b a : Addr} {H H1 : Hp} {xs : List V} (x : But b H H1) (n : a ≠ b) (h : SqL K H a xs) : SqL K H1 a xs := by
  rcases h with (h | ⟨o, h⟩) | h
  · exact .inl (.inl (x _ _ n h))
  · exact .inl (.inr ⟨o, x _ _ n h⟩)
  · exact .inr h

/-! ### boxes of draws -/
/-- a box stands at b: four numbers, whichever -/
def BoxAt (H : Hp) (b : Addr) : Prop := ∃ x0 x1 x2 x3 : Int, H b = some (.lst [.int x0, .int x1, .int x2, .int x3])
theorem BoxAt.keep {H H' : Hp} {b c : Addr} (h : BoxAt H b) (x : But c H H') (n : b ≠ c) : BoxAt H' b := by
  obtain ⟨x0, x1, x2, x3, e⟩ := h
  exact ⟨x0, x1, x2, x3, x _ _ n e⟩
theorem BoxAt.new {H : Hp} {b p : Addr} {o : HO} (h : BoxAt H b) (n : H p = none) : BoxAt (upd H p o) b := by
  obtain ⟨x0, x1, x2, x3, e⟩ := h
  exact ⟨x0, x1, x2, x3, by rw [upd_ne (ne_of_none e n)]; exact e⟩
theorem BoxAt.ne {H : Hp} {b p : Addr} (h : BoxAt H b) (n : H p = none) : b ≠ p := by
  obtain ⟨x0, x1, x2, x3, e⟩ := h
  exact ne_of_none e n
/-- a draw: the box's numbers change, the answer lies below the number asked -/
def spTake : Sp := fun vs H Q _ => ∃ (b : Addr) (m : Int), vs = [.ref b, .int m] ∧ BoxAt H b ∧ 0 < m ∧ m < 18446744073709551616 ∧
  ∀ (r : Int) (H' : Hp), 0 ≤ r → r < m → BoxAt H' b → But b H H' → Q (.int r) H'
theorem use_take {H : Hp} {Q : VK} {E : XK} {b : Addr} {m : Int} (hb : BoxAt H b) (hm : 0 < m) (hl : m < 18446744073709551616)
    (k : ∀ (r : Int) (H' : Hp), 0 ≤ r → r < m → BoxAt H' b → But b H H' → Q (.int r) H') : spTake [.ref b, .int m] H Q E := ⟨b, m, rfl, hb, hm, hl, k⟩

/-! ### steps of a reading -/
theorem dT {p : Prop} [Decidable p] {A B : Prop} (h1 : p → A) (h2 : ¬ p → B) : if decide p = true then A else B := by
  by_cases h : p
  · rw [if_pos (decide_eq_true h)]; exact h1 h
  · rw [if_neg (by rw [decide_eq_false h]; decide)]; exact h2 h
theorem dF {p : Prop} [Decidable p] {A B : Prop} (h1 : ¬ p → A) (h2 : p → B) : if (!decide p) = true then A else B := by
  by_cases h : p
  · rw [decide_eq_true h]; exact iteF (h2 h)
  · rw [decide_eq_false h]; exact iteT (h1 h)
theorem bT {c : Bool} {A B : Prop} (h1 : c = true → A) (h2 : c = false → B) : if c = true then A else B := by
  cases c with
  | true => exact iteT (h1 rfl)
  | false => exact iteF (h2 rfl)
/-! ### the readings' steps, as lemmas -/
section
variable {K : PySem.W.Frag} {H : Hp} {Q : VK} {σ : L2.St} {p : Addr} {xs : List V} {i j : Int} {v x y : V}
theorem s_var {n : Nat} (h : σ[n]? = some (some v)) (q : Q v H) : tVar n σ H Q := ⟨v, h, q⟩
theorem s_ii {g : Int → Int → V} (q : Q (g i j) H) : rI0 g (.int i) (.int j) H Q := ⟨i, j, rfl, rfl, q⟩
theorem s_iiC {C : Int → Int → Prop} {g : Int → Int → V} (c : C i j) (q : Q (g i j) H) : rI C g (.int i) (.int j) H Q := ⟨i, j, rfl, rfl, c, q⟩
theorem s_un {g : Int → V} (q : Q (g i) H) : rU g (.int i) H Q := ⟨i, rfl, q⟩
theorem s_eq (h : scal x y = true) (q : Q (.bl (decide (x = y))) H) : rEq x y H Q := ⟨h, q⟩
theorem s_ne (h : scal x y = true) (q : Q (.bl (!decide (x = y))) H) : rNe x y H Q := ⟨h, q⟩
theorem s_ixL (h : SqL K H p xs) (a : atI xs i = some v) (q : Q v H) : rIxL K (.ref p) (.int i) H Q := ⟨p, xs, i, v, rfl, rfl, h, a, q⟩
theorem s_ixT (h : SqT K H p xs) (a : atI xs i = some v) (q : Q v H) : rIxT K (.ref p) (.int i) H Q := ⟨p, xs, i, v, rfl, rfl, h, a, q⟩
theorem s_setL {q : Hp → Prop} {n : Nat} (h : H p = some (.lst xs)) (a : ixN xs.length i = some n) (k : q (upd H p (.lst (xs.set n v)))) : rSetL (.ref p) (.int i) v H q := ⟨p, xs, i, n, rfl, rfl, h, a, k⟩
theorem s_bl {b : Bool} {q : Bool → Hp → Prop} (k : q b H) : ∃ c, V.bl b = .bl c ∧ q c H := ⟨b, rfl, k⟩
end
/-! ### the combinators opened, one at a time -/
section
variable {K : PySem.W.Frag} {H : Hp} {Q : VK} {σ : L2.St} {D : Ends} {t u : TS} {te ta tb tc : TE} {tt tu : TT} {g : TG} {r r' : R2} {v : V} {T : TA}
theorem u_seq (q : t { D with nx := u D } σ H) : tSeq t u D σ H := q
theorem u_asg (q : te σ H fun x H1 => g x σ H1 D.nx) : tAsg te g D σ H := q
theorem u_drop (q : te σ H fun _ H1 => D.nx σ H1) : tDrop te D σ H := q
theorem u_ret (q : te σ H D.rt) : tRet te D σ H := q
theorem u_retN (q : D.rt .non H) : tRetN D σ H := q
theorem u_next (q : D.nx σ H) : tNext D σ H := q
theorem u_brk (q : D.bk σ H) : tBreak D σ H := q
theorem u_cont (q : D.ct σ H) : tCont D σ H := q
theorem u_ifS (q : tt σ H fun b H1 => if b = true then t D σ H1 else u D σ H1) : tIfS tt t u D σ H := q
theorem u_op (q : ta σ H fun x H1 => tb σ H1 fun y H2 => r x y H2 Q) : tOp r ta tb σ H Q := q
theorem u_un {r : V → Hp → VK → Prop} (q : ta σ H fun x H1 => r x H1 Q) : tUn r ta σ H Q := q
theorem u_c (q : Q v H) : tC v σ H Q := q
theorem u_and {q : Bool → Hp → Prop} (k : tt σ H fun c H1 => if c = true then tu σ H1 q else q false H1) : tAnd tt tu σ H q := k
theorem u_or {q : Bool → Hp → Prop} (k : tt σ H fun c H1 => if c = true then q true H1 else tu σ H1 q) : tOr tt tu σ H q := k
theorem u_not {q : Bool → Hp → Prop} (k : tt σ H fun c H1 => q (!c) H1) : tNot tt σ H q := k
theorem u_andV (q : ta σ H fun x H1 => ∃ c, x = .bl c ∧ if c = true then tb σ H1 Q else Q (.bl false) H1) : tAndV ta tb σ H Q := q
theorem u_orV (q : ta σ H fun x H1 => ∃ c, x = .bl c ∧ if c = true then Q (.bl true) H1 else tb σ H1 Q) : tOrV ta tb σ H Q := q
theorem u_notV (q : ta σ H fun x H1 => ∃ c, x = .bl c ∧ Q (.bl (!c)) H1) : tNotV ta σ H Q := q
theorem u_if (q : tt σ H fun c H1 => if c = true then ta σ H1 Q else tb σ H1 Q) : tIf tt ta tb σ H Q := q
theorem u_test {q : Bool → Hp → Prop} (k : te σ H fun x H' => ∃ k, x = .bl k ∧ q k H') : tTest te σ H q := k
theorem u_B {q : Bool → Hp → Prop} (k : te σ H fun x H1 => ∃ c, x = .bl c ∧ q c H1) : tB te σ H q := k
theorem u_chain (q : ta σ H fun x H1 => tb σ H1 fun y H2 => r x y H2 fun z H3 => ∃ k, z = .bl k ∧ (if k = true then tc σ H3 fun w' H4 => r' y w' H4 Q else Q (.bl false) H3)) : tChain r r' ta tb tc σ H Q := q
theorem u_name {i : Nat} {q : L2.St → Hp → Prop} (k : q (σ.set i (some v)) H) : gName i v σ H q := k
theorem u_sub {s : TSet} {q : L2.St → Hp → Prop} (k : ta σ H fun o H1 => tb σ H1 fun i H2 => s o i v H2 fun H3 => q σ H3) : gSub ta tb s v σ H q := k
theorem u_nil {q : List V → Hp → Prop} (k : q [] H) : tNil σ H q := k
theorem u_cons {q : List V → Hp → Prop} (k : ta σ H fun x H1 => T σ H1 fun xs H2 => q (x :: xs) H2) : tCons ta T σ H q := k
theorem u_call {sp : Sp} {E : XK} (k : T σ H fun vs H1 => sp vs H1 Q E) : tCall sp [] E T σ H Q := by
  show T σ H fun vs H1 => sp (vs ++ []) H1 Q E
  simpa only [List.append_nil] using k
theorem u_CB {f : List V → Hp → VK → Prop} (k : T σ H fun vs H1 => f vs H1 Q) : tCB f T σ H Q := k
theorem u_tup (k : T σ H fun xs H1 => xs.length ≤ sizeLine ∧ ∀ p, H1 p = none → Q (.ref p) (upd H1 p (.tup xs))) : tTup T σ H Q := k
theorem u_lst (k : T σ H fun xs H1 => xs.length ≤ sizeLine ∧ ∀ p, H1 p = none → Q (.ref p) (upd H1 p (.lst xs))) : tLst T σ H Q := k
theorem u_cut {M : L2.St → Hp → Prop} (h : t { D with nx := M } σ H) (k : ∀ σ' H', M σ' H' → u D σ' H') : Evl.tCut t u D σ H := ⟨M, h, k⟩
end

theorem divW {i m : Int} (hm : 0 < m) (hl : m < 18446744073709551616) : CDivW i m := wide_div (b := 64) hm (by
  have e : (2 : Nat) ^ 64 = 18446744073709551616 := by decide
  rw [e]; omega) (by decide) (by decide)
theorem sz {n : Nat} (h : n ≤ 1000) : n ≤ sizeLine := Nat.le_trans h (by decide)
theorem sz16 {n : Nat} (h : n ≤ 16777216) : n ≤ sizeLine := Nat.le_trans h (by rw [sizeLine_eq]; decide)
theorem But.same {b : Addr} {H H1 H2 : Hp} (x : But b H1 H2) (s : Same H H1) (n : H b = none) : Same H H2 := fun a o e => x a o (ne_of_none e n) (s a o e)

/-! ### loops -/
section
variable {K : PySem.W.Frag} {H : Hp} {Q : VK} {σ : L2.St} {D : Ends} {c : TT} {tb : TS} {v : V} {a : Addr} {xs : List V}
theorem w_while (W : Nat → L2.St → Hp → Prop) (m : Nat) (h0 : W m σ H)
    (hs : ∀ m σ H, W m σ H → c σ H fun b H1 => if b = true then ∃ N : L2.St → Hp → Prop, (∀ σ' H', N σ' H' → ∃ m', m' < m ∧ W m' σ' H') ∧ tb { D with nx := N, ct := N, bk := D.nx } σ H1 else D.nx σ H1) : tWhile c tb D σ H := ⟨W, ⟨m, h0⟩, hs⟩
theorem w_turn {W : Nat → L2.St → Hp → Prop} {m : Nat} (k : tb { D with nx := fun σ' H' => ∃ m', m' < m ∧ W m' σ' H', ct := fun σ' H' => ∃ m', m' < m ∧ W m' σ' H', bk := D.nx } σ H) :
    ∃ N : L2.St → Hp → Prop, (∀ σ' H', N σ' H' → ∃ m', m' < m ∧ W m' σ' H') ∧ tb { D with nx := N, ct := N, bk := D.nx } σ H := ⟨_, fun _ _ n => n, k⟩
theorem u_for {wi : TI} {g : TG} (k : wi σ H fun J H1 => ∃ W : Nat → Nat → L2.St → Hp → Prop, (∃ m, W 0 m σ H1) ∧ ∀ i m σ H, W i m σ H →
      (J.stop i H ∧ D.nx σ H) ∨ (J.go i H ∧ ∃ N : L2.St → Hp → Prop, (∀ σ' H', N σ' H' → ∃ m', m' < m ∧ W (i + 1) m' σ' H') ∧ ∀ x H', J.yld i H x H' → g x σ H' fun σ2 H2 => tb { D with nx := N, ct := N, bk := D.nx } σ2 H2)) : tFor wi g tb D σ H := k
theorem u_iList {tl : TE} {R : It → Hp → Prop} (k : tl σ H fun x H1 => ∃ a, x = .ref a ∧ (∃ xs, SqL K H1 a xs) ∧ R (Itl K a) H1) : iList K tl σ H R := k
theorem u_iTup {tl : TE} {R : It → Hp → Prop} (k : tl σ H fun x H1 => ∃ a, x = .ref a ∧ (∃ xs, SqT K H1 a xs) ∧ R (Itt K a) H1) : iTup K tl σ H R := k
theorem u_iRng1 {ta : TA} {R : It → Hp → Prop} (k : ta σ H fun vs H1 => ∃ j : Int, vs = [.int j] ∧ -(2 ^ 62) ≤ j ∧ j < 2 ^ 62 ∧ R (Itr 0 j.toNat) H1) : iRng1 ta σ H R := k
theorem u_iRng2 {ta : TA} {R : It → Hp → Prop} (k : ta σ H fun vs H1 => ∃ i j : Int, vs = [.int i, .int j] ∧ (-(2 ^ 62) ≤ i ∧ i < 2 ^ 62 ∧ -(2 ^ 62) ≤ j ∧ j < 2 ^ 62) ∧ R (Itr i (j - i).toNat) H1) : iRng2 ta σ H R := k
theorem u_gcons {t : TG} {u : TGs} {r : List V} {q : L2.St → Hp → Prop} (k : t v σ H fun σ' H' => u r σ' H' q) : gCons t u (v :: r) σ H q := ⟨v, r, rfl, k⟩
theorem u_gnil {q : L2.St → Hp → Prop} (k : q σ H) : gNil [] σ H q := ⟨rfl, k⟩
theorem s_gtup {n : Nat} {t : TGs} {q : L2.St → Hp → Prop} (h : SqT K H a xs) (l : xs.length = n) (k : t xs σ H q) : gTup K n t (.ref a) σ H q := ⟨a, xs, rfl, h, l, k⟩
theorem s_isi {x : V} {t T : String} {b : Bool} (ty : TyX K H x (.type t)) (k : kitB t T = some b) (q : Q (.bl b) H) : rIsi K [x, .ty T] H Q := ⟨x, .ty T, .type t, .type T, b, rfl, .ty T, ty, kit_ty k, q⟩
end

/-! ### a law's first helpers -/
/-- a cell of the script: some number -/
def spCell (K : PySem.W.Frag) : Sp := fun vs H Q _ => ∃ (a : Addr) (ns : List Int) (i : Int), vs = [.ref a, .int i] ∧ SqL K H a (ns.map V.int) ∧ 0 ≤ i ∧ ∀ r : Int, Q (.int r) H
/-- a new box -/
def spBox : Sp := fun vs H Q _ => ∃ c : Int, vs = [.int c] ∧ ∀ (p : Addr) (H' : Hp), H p = none → Same H H' → BoxAt H' p → Q (.ref p) H'

theorem pow2_pos (k : Nat) : (0 : Int) < 2 ^ k := by
  induction k with
  | zero => decide
  | succ k ih => rw [Int.pow_succ]; omega
theorem pow2_mono {a b : Nat} (h : a ≤ b) : (2 : Int) ^ a ≤ 2 ^ b := by
  induction b with
  | zero => have : a = 0 := by omega
            subst this; exact Int.le_refl _
  | succ b ih =>
    by_cases e : a = b + 1
    · subst e; exact Int.le_refl _
    · have := ih (by omega)
      have := pow2_pos b
      rw [Int.pow_succ]; omega
section
variable {X : Cx} {x : Str} {pos : Pos}
theorem pe_ty (T : String) (hg : Gl X x) (hm : X.mg x = none) (hv : bootBuiltins x = some (.type T)) (hn : x ≠ "__name__" := by decide) (hd : (x == ("__debug__" : Str)) = false := by decide) : PE X (.Name x pos) (tC (.ty T)) := pe_bltn hg hm hv rfl hn hd
end
theorem kb_int_int : kitB "int" "int" = some true := by decide +kernel
theorem kb_int_bool : kitB "int" "bool" = some false := by decide +kernel
theorem kb_int_str : kitB "int" "str" = some false := by decide +kernel
theorem kb_int_list : kitB "int" "list" = some false := by decide +kernel
theorem kb_int_tuple : kitB "int" "tuple" = some false := by decide +kernel
theorem kb_bool_int : kitB "bool" "int" = some true := by decide +kernel
theorem kb_bool_bool : kitB "bool" "bool" = some true := by decide +kernel
theorem kb_bool_str : kitB "bool" "str" = some false := by decide +kernel
theorem kb_bool_list : kitB "bool" "list" = some false := by decide +kernel
theorem kb_bool_tuple : kitB "bool" "tuple" = some false := by decide +kernel
theorem kb_str_int : kitB "str" "int" = some false := by decide +kernel
theorem kb_str_bool : kitB "str" "bool" = some false := by decide +kernel
theorem kb_str_str : kitB "str" "str" = some true := by decide +kernel
theorem kb_str_list : kitB "str" "list" = some false := by decide +kernel
theorem kb_str_tuple : kitB "str" "tuple" = some false := by decide +kernel
theorem kb_NoneType_int : kitB "NoneType" "int" = some false := by decide +kernel
theorem kb_NoneType_bool : kitB "NoneType" "bool" = some false := by decide +kernel
theorem kb_NoneType_str : kitB "NoneType" "str" = some false := by decide +kernel
theorem kb_NoneType_list : kitB "NoneType" "list" = some false := by decide +kernel
theorem kb_NoneType_tuple : kitB "NoneType" "tuple" = some false := by decide +kernel
theorem kb_list_int : kitB "list" "int" = some false := by decide +kernel
theorem kb_list_bool : kitB "list" "bool" = some false := by decide +kernel
theorem kb_list_str : kitB "list" "str" = some false := by decide +kernel
theorem kb_list_list : kitB "list" "list" = some true := by decide +kernel
theorem kb_list_tuple : kitB "list" "tuple" = some false := by decide +kernel
theorem kb_tuple_int : kitB "tuple" "int" = some false := by decide +kernel
theorem kb_tuple_bool : kitB "tuple" "bool" = some false := by decide +kernel
theorem kb_tuple_str : kitB "tuple" "str" = some false := by decide +kernel
theorem kb_tuple_list : kitB "tuple" "list" = some false := by decide +kernel
theorem kb_tuple_tuple : kitB "tuple" "tuple" = some true := by decide +kernel
theorem kb_dict_int : kitB "dict" "int" = some false := by decide +kernel
theorem kb_dict_bool : kitB "dict" "bool" = some false := by decide +kernel
theorem kb_dict_str : kitB "dict" "str" = some false := by decide +kernel
theorem kb_dict_list : kitB "dict" "list" = some false := by decide +kernel
theorem kb_dict_tuple : kitB "dict" "tuple" = some false := by decide +kernel
theorem ntT {A B : Prop} (h : A) : if (!false) = true then A else B := iteT h
theorem ntF {A B : Prop} (h : B) : if (!true) = true then A else B := iteF h
section
variable {K : PySem.W.Frag} {H : Hp} {Q : VK} {σ : L2.St} {te : TE} {tl th : TO} {a : Addr} {xs : List V} {lo hi : Option Int} {z : Str}
theorem u_sl {r : V → Option Int → Option Int → Hp → VK → Prop} (k : te σ H fun x H1 => tl σ H1 fun l H2 => th σ H2 fun u H3 => r x l u H3 Q) : tSl r te tl th σ H Q := k
theorem u_part {q : Option Int → Hp → Prop} (k : te σ H fun x H1 => ∃ i, x = .int i ∧ q (some i) H1) : tPart te σ H q := k
theorem u_nopart {q : Option Int → Hp → Prop} (k : q none H) : tNoPart σ H q := k
theorem s_slL (h : SqL K H a xs) (q : ∀ p, H p = none → Q (.ref p) (upd H p (.lst (cutV xs lo hi)))) : rSlL K (.ref a) lo hi H Q := ⟨a, xs, rfl, h, q⟩
theorem s_slS (h : z.length ≤ sizeLine) (q : Q (.str (cutS z lo hi)) H) : rSlS (.str z) lo hi H Q := ⟨z, rfl, h, q⟩
/-- a part of a list of ints is a list of ints -/
theorem cutV_ints (ns : List Int) (lo hi : Option Int) : ∃ ms : List Int, cutV (ns.map V.int) lo hi = ms.map V.int ∧ ms.length ≤ ns.length := by
  refine ⟨(ns.drop (HT.sIx (ns.map V.int).length 0 lo)).take (HT.sIx (ns.map V.int).length (ns.map V.int).length hi - HT.sIx (ns.map V.int).length 0 lo), ?_, ?_⟩
  · unfold cutV; rw [List.map_take, List.map_drop]
  · rw [List.length_take, List.length_drop]; omega
theorem sql_new {p : Addr} {o : HO} (h : SqL K H a xs) (n : H p = none) : SqL K (upd H p o) a xs := (Same.new (Same.refl H) n).seq h
theorem Same.ne {H H1 : Hp} {b p : Addr} {o : HO} (_ : Same H H1) (h : H1 b = some o) (n : H1 p = none) : b ≠ p := ne_of_none h n
theorem ints_get {ns : List Int} {i : Nat} {x : V} (h : (ns.map V.int)[i]? = some x) : ∃ n, ns[i]? = some n ∧ x = .int n := by
  rw [List.getElem?_map] at h
  cases e : ns[i]? with
  | none => rw [e] at h; cases h
  | some n => rw [e] at h; exact ⟨n, rfl, (Option.some.inj h).symm⟩
end

/-! ### rules whose reading speaks of K, with K told (for a comprehension's block) -/
section
variable {X : Cx} {K : PySem.W.Frag}
theorem pg_tupK {es : List Expr} {k : Nat} {t : TGs} {n : Nat} {pos : Pos} (hK : X.K = K) (hc : X.calm = true) (h : PGs X es t)
    (hn : (assignEach es X.env).length = n := by rfl) (hst : (assignEach es X.env).findIdx? (·.1) = none := by rfl) : PG X (.Tuple es k pos) (gTup K n t) := hK ▸ pg_tup hc h hn hst
theorem pe_fldK {e : Expr} {f : Str} {pos : Pos} {ta : TE} (hK : X.K = K) (he : PE X e ta) (hb : attributeBase e f X.env (eval e X.env) = eval e X.env) : PE X (.Attribute e f pos) (tFld K ta f) := hK ▸ pe_fld he hb
theorem call_len_seqK (hK : X.K = K) : CallR X (.builtin "len") (fun xs H Q => ∃ p ys, xs = [.ref p] ∧ (SqL K H p ys ∨ SqT K H p ys) ∧ Q (.int ys.length) H) := hK ▸ call_len_seq
theorem ix_listK (hK : X.K = K) : IxR X (rIxL K) := hK ▸ ix_list
theorem ix_tupK (hK : X.K = K) : IxR X (rIxT K) := hK ▸ ix_tup
theorem op_in_seqK (hK : X.K = K) : OpR X (compareOp .In) (rIn K false) := hK ▸ op_in_seq
theorem op_notIn_seqK (hK : X.K = K) : OpR X (compareOp .NotIn) (rIn K true) := hK ▸ op_notIn_seq
theorem op_eqDK (hK : X.K = K) (hu : X.A.units + 64 < cLine) : OpR X (compareOp .Eq) (rEqD K) := hK ▸ op_eqD hu
theorem op_neDK (hK : X.K = K) (hu : X.A.units + 64 < cLine) : OpR X (compareOp .NotEq) (rNeD K) := hK ▸ op_neD hu
theorem call_isiK' (hK : X.K = K) : CallR X (.builtin "isinstance") (rIsi K) := hK ▸ call_isi
theorem call_isiTK (hK : X.K = K) : CallR X (.builtin "isinstance") (rIsiT K) := hK ▸ call_isiT
theorem sl_listK (hK : X.K = K) : SlR X (rSlL K) := hK ▸ sl_list
theorem cr_maxK (hK : X.K = K) (hc : X.calm = true) : CallR X (.builtin "max") (rMax K) := hK ▸ cr_max hc
theorem cr_minK' (hK : X.K = K) (hc : X.calm = true) : CallR X (.builtin "min") (rMin K) := hK ▸ cr_min hc
end
section
variable {X : Cx} {x : Str} {pos : Pos}
theorem pe_gstr {z : Str} (h : ∃ t, X.mg x = some (.str z t)) (hg : Gl X x := by rfl) (hd : (x == ("__debug__" : Str)) = false := by decide) : PE X (.Name x pos) (tC (.str z)) := by
  obtain ⟨t, h⟩ := h
  exact pe_glob hg h ⟨t, rfl⟩ hd
theorem pe_gint {z : Int} (h : ∃ t, X.mg x = some (.int z t)) (hg : Gl X x := by rfl) (hd : (x == ("__debug__" : Str)) = false := by decide) : PE X (.Name x pos) (tC (.int z)) := by
  obtain ⟨t, h⟩ := h
  exact pe_glob hg h ⟨t, rfl⟩ hd
end
section
variable {H : Hp} {Q : VK} {σ : L2.St}
theorem u_iStr {te : TE} {R : It → Hp → Prop} (k : te σ H fun v H1 => ∃ x, v = .str x ∧ R (Its x) H1) : iStr te σ H R := k
theorem u_M0 {r : V → List V → Hp → VK → Prop} {to : TE} (k : to σ H fun x H1 => (∃ a, x = .str a) ∧ r x [] H1 Q) : tM0 r to σ H Q := k
theorem u_M1 {r : V → List V → Hp → VK → Prop} {to te : TE} (k : to σ H fun x H1 => (∃ a, x = .str a) ∧ te σ H1 fun y H2 => r x [y] H2 Q) : tM1 r to te σ H Q := k
theorem s_isStr {z : Str} {B : Prop} (k : B) : (∃ a, V.str z = .str a) ∧ B := ⟨⟨z, rfl⟩, k⟩
end
theorem keepN {H : Hp} {p q : Addr} {o u : HO} (h : H p = some o) (n : H q = none) : upd H q u p = some o := by rw [upd_ne (ne_of_none h n)]; exact h
theorem tyX_tup {K : PySem.W.Frag} {H : Hp} {a : Addr} {xs : List V} (h : SqT K H a xs) : TyX K H (.ref a) (.type "tuple") := by
  rcases h with (h | ⟨o, h⟩) | ⟨o, _, _, e, c, _⟩
  · exact .base (.tup h)
  · exact .fTuple h
  · exact .kTuple e c
end Ah
set_option Elab.async false
set_option linter.all false
set_option maxRecDepth 100000
set_option maxHeartbeats 4000000
/-! worths in plain numbers -/
namespace Ah
open PySem PySem.Spec PyProof.Rows L2
/-- a count c of the era e is worth so much at the era n -/
def worth (c e n : Int) : Int := c / 2 ^ (n - e).toNat
theorem worth_at_begin {c e n : Int} (h : n ≤ e) : worth c e n = c := by
  unfold worth
  have : (n - e).toNat = 0 := by omega
  rw [this]; simp
theorem worth_step {c e n : Int} (h : e < n) : worth c e n = worth (c / 2) (e + 1) n := by
  unfold worth
  have h1 : (n - e).toNat = (n - (e + 1)).toNat + 1 := by omega
  rw [h1, Int.pow_succ, Int.mul_comm, Int.ediv_ediv_of_nonneg (by decide)]
theorem worth_zero (e n : Int) : worth 0 e n = 0 := by unfold worth; simp
theorem worth_nonneg {c e n : Int} (h : 0 ≤ c) : 0 ≤ worth c e n := Int.ediv_nonneg h (Int.le_of_lt (pow2_pos _))
theorem worth_le {c e n : Int} (h : 0 ≤ c) : worth c e n ≤ c := Int.ediv_le_self _ h
theorem worth_mono {c d e n : Int} (h : c ≤ d) : worth c e n ≤ worth d e n := Int.ediv_le_ediv (pow2_pos _) h
/-- halved some eras and then some more -/
theorem worth_worth {c e m n : Int} (h1 : e ≤ m) (h2 : m ≤ n) : worth (worth c e m) m n = worth c e n := by
  unfold worth
  rw [Int.ediv_ediv_of_nonneg (Int.le_of_lt (pow2_pos _)), ← Int.pow_add]
  congr 2; omega

/-! ### worth_at, used_mark -/
def spWorth (K : PySem.W.Frag) : Sp := fun vs H Q _ => ∃ (t : Addr) (c e n : Int), vs = [.ref t, .int n] ∧ SqT K H t [.int c, .int e] ∧ 0 ≤ c ∧ Q (.int (worth c e n)) H
def spUsed (K : PySem.W.Frag) : Sp := fun vs H Q _ => ∃ (t : Addr) (c e n m : Int), vs = [.ref t, .int n, .int m] ∧ SqT K H t [.int c, .int e] ∧ 0 ≤ c ∧ ∀ p, H p = none → Q (.ref p) (upd H p (.tup [.int (worth c e n + m), .int n]))
theorem pick2 {a b : Int} {r : Int} {P : Int → Prop} (h0 : 0 ≤ r) (h1 : r < 2) (ha : P a) (hb : P b) : ∃ c : Int, atI [V.int a, V.int b] r = some (.int c) ∧ P c := by
  have : r = 0 ∨ r = 1 := by omega
  rcases this with rfl | rfl
  · exact ⟨_, rfl, ha⟩
  · exact ⟨_, rfl, hb⟩
theorem pick3 {a b c : Int} {r : Int} {P : Int → Prop} (h0 : 0 ≤ r) (h1 : r < 3) (ha : P a) (hb : P b) (hc : P c) : ∃ x : Int, atI [V.int a, V.int b, V.int c] r = some (.int x) ∧ P x := by
  have : r = 0 ∨ r = 1 ∨ r = 2 := by omega
  rcases this with rfl | rfl | rfl
  · exact ⟨_, rfl, ha⟩
  · exact ⟨_, rfl, hb⟩
  · exact ⟨_, rfl, hc⟩
theorem pick4 {a b c d : Int} {r : Int} {P : Int → Prop} (h0 : 0 ≤ r) (h1 : r < 4) (ha : P a) (hb : P b) (hc : P c) (hd : P d) : ∃ x : Int, atI [V.int a, V.int b, V.int c, V.int d] r = some (.int x) ∧ P x := by
  have : r = 0 ∨ r = 1 ∨ r = 2 ∨ r = 3 := by omega
  rcases this with rfl | rfl | rfl | rfl
  · exact ⟨_, rfl, ha⟩
  · exact ⟨_, rfl, hb⟩
  · exact ⟨_, rfl, hc⟩
  · exact ⟨_, rfl, hd⟩
end Ah
set_option Elab.async false
set_option linter.all false
set_option maxRecDepth 100000
set_option maxHeartbeats 4000000
/-! data in the heap -/
namespace Ah
open PySem PySem.Spec PyProof.Rows L2
section
variable {K : PySem.W.Frag} {H H' : Hp}
theorem Same.seqT {a : Addr} {xs : List V} (e : Same H H') (h : SqT K H a xs) : SqT K H' a xs := by
  rcases h with (h | ⟨o, h⟩) | h
  · exact .inl (.inl (e _ _ h))
  · exact .inl (.inr ⟨o, e _ _ h⟩)
  · exact .inr h
mutual
theorem Dp.same (e : Same H H') : ∀ {v : V} {d : PyData}, Dp K H v d → Dp K H' v d
  | _, _, .non => .non
  | _, _, .bl b => .bl b
  | _, _, .int i => .int i
  | _, _, .str x => .str x
  | _, _, .lst h a => .lst (e.seq h) (DpAll.same e a)
  | _, _, .tup h a => .tup (Same.seqT e h) (DpAll.same e a)
theorem DpAll.same (e : Same H H') : ∀ {vs : List V} {ds : List PyData}, DpAll K H vs ds → DpAll K H' vs ds
  | _, _, .nil => .nil
  | _, _, .cons h t => .cons (Dp.same e h) (DpAll.same e t)
end
theorem DpAll.length {vs : List V} {ds : List PyData} : DpAll K H vs ds → vs.length = ds.length := by
  intro h
  induction vs generalizing ds with
  | nil => cases h; rfl
  | cons v vs ih => cases h with | cons _ t => simp [ih t]
theorem DpAll.append : ∀ {vs ws : List V} {ds es : List PyData}, DpAll K H vs ds → DpAll K H ws es → DpAll K H (vs ++ ws) (ds ++ es)
  | [], _, _, _, .nil, b => b
  | _ :: _, _, _, _, .cons h t, b => .cons h (DpAll.append t b)
theorem DpAll.get : ∀ {vs : List V} {ds : List PyData} {i : Nat} {v : V}, DpAll K H vs ds → vs[i]? = some v → ∃ d, ds[i]? = some d ∧ Dp K H v d
  | _, _, 0, _, .cons h _, e => by cases e; exact ⟨_, rfl, h⟩
  | _, _, i + 1, v, .cons _ t, e => by
    obtain ⟨d, h1, h2⟩ := DpAll.get (i := i) (v := v) t (by simpa using e)
    exact ⟨d, by simpa using h1, h2⟩
theorem DpAll.of_map {α : Type} {f : α → V} {g : α → PyData} : ∀ {l : List α}, (∀ a ∈ l, Dp K H (f a) (g a)) → DpAll K H (l.map f) (l.map g)
  | [], _ => .nil
  | a :: l, h => .cons (h a (by simp)) (DpAll.of_map fun b hb => h b (by simp [hb]))
theorem DpAll.mem : ∀ {vs : List V} {ds : List PyData} {v : V}, DpAll K H vs ds → v ∈ vs → ∃ d, d ∈ ds ∧ Dp K H v d
  | _, _, v, .cons h t, hm => by
    rcases List.mem_cons.mp hm with e | hm
    · subst e; exact ⟨_, by simp, h⟩
    · obtain ⟨d, h1, h2⟩ := DpAll.mem t hm
      exact ⟨d, by simp [h1], h2⟩
end
/-! ### flat data, of any depth: what == asks -/
mutual
/-- texts short, depth small -/
def okD : Nat → PyData → Bool
  | _, .none => true
  | _, .bool _ => true
  | _, .int _ => true
  | _, .str x => PyData.strOk x
  | 0, .list _ => false
  | n + 1, .list xs => okDs n xs
  | 0, .tuple _ => false
  | n + 1, .tuple xs => okDs n xs
  | _, .dict _ => false
def okDs : Nat → List PyData → Bool
  | _, [] => true
  | n, x :: xs => okD n x && okDs n xs
end
mutual
theorem okD_shape : ∀ (n : Nat) (d : PyData), okD n d = true → d.canLay0 = true ∧ d.depth ≤ n
  | n, .none, _ => by constructor <;> simp [PyData.canLay0, PyData.depth]
  | n, .bool _, _ => by constructor <;> simp [PyData.canLay0, PyData.depth]
  | n, .int _, _ => by constructor <;> simp [PyData.canLay0, PyData.depth]
  | n, .str x, h => by
    have h' : PyData.strOk x = true := by simpa [okD] using h
    constructor
    · simpa [PyData.canLay0] using h'
    · simp [PyData.depth]
  | 0, .list _, h => by simp [okD] at h
  | n + 1, .list xs, h => by
    obtain ⟨a, b⟩ := okDs_shape n xs (by simpa [okD] using h)
    exact ⟨by simpa [PyData.canLay0] using a, by simp only [PyData.depth]; omega⟩
  | 0, .tuple _, h => by simp [okD] at h
  | n + 1, .tuple xs, h => by
    obtain ⟨a, b⟩ := okDs_shape n xs (by simpa [okD] using h)
    exact ⟨by simpa [PyData.canLay0] using a, by simp only [PyData.depth]; omega⟩
  | n, .dict _, h => by cases n <;> simp [okD] at h
theorem okDs_shape : ∀ (n : Nat) (ds : List PyData), okDs n ds = true → PyData.canLayAll0 ds = true ∧ PyData.depthAll ds ≤ n
  | n, [], _ => by constructor <;> simp [PyData.canLayAll0, PyData.depthAll]
  | n, d :: ds, h => by
    have h' : okD n d = true ∧ okDs n ds = true := by simpa [okDs] using h
    obtain ⟨a, b⟩ := okD_shape n d h'.1
    obtain ⟨a', b'⟩ := okDs_shape n ds h'.2
    exact ⟨by simp [PyData.canLayAll0, a, a'], by simp only [PyData.depthAll]; omega⟩
end
theorem shaped_of {n : Nat} {d : PyData} (h : okD n d = true) (hn : n ≤ 64 := by decide) : SeqAt.shaped d = true := by
  obtain ⟨a, b⟩ := okD_shape n d h
  unfold SeqAt.shaped
  rw [a, Bool.true_and]
  exact decide_eq_true (by omega)
theorem okDs_map {α : Type} {n : Nat} {f : α → PyData} : ∀ {l : List α}, (∀ a ∈ l, okD n (f a) = true) → okDs n (l.map f) = true
  | [], _ => by simp [okDs]
  | a :: l, h => by
    show okDs n (f a :: l.map f) = true
    simp only [okDs, h a (by simp), Bool.true_and]
    exact okDs_map fun b hb => h b (by simp [hb])
theorem eqv_same {n : Nat} {d : PyData} (h : okD n d = true) : PyData.eqv d d = true := SeqAt.eqv_refl d (okD_shape n d h).1
section
variable {K : PySem.W.Frag} {H : Hp} {Q : VK} {x y : V} {d e : PyData}
theorem s_eqD (hx : Dp K H x d) (hy : Dp K H y e) (h1 : SeqAt.shaped d = true) (h2 : SeqAt.shaped e = true) (q : Q (.bl (PyData.eqv d e)) H) : rEqD K x y H Q := ⟨d, e, hx, hy, h1, h2, q⟩
theorem s_neD (hx : Dp K H x d) (hy : Dp K H y e) (h1 : SeqAt.shaped d = true) (h2 : SeqAt.shaped e = true) (q : Q (.bl (!PyData.eqv d e)) H) : rNeD K x y H Q := ⟨d, e, hx, hy, h1, h2, q⟩
end
/-! ### lists of marks: refs to tuples (count, era) -/
def mref (m : Addr × Int × Int) : V := .ref m.1
structure MarksAt (K : PySem.W.Frag) (H : Hp) (p : Addr) (ms : List (Addr × Int × Int)) : Prop where
  seq : SqL K H p (ms.map mref)
  tup : ∀ m ∈ ms, SqT K H m.1 [.int m.2.1, .int m.2.2] ∧ 0 ≤ m.2.1
theorem MarksAt.same {K : PySem.W.Frag} {H H' : Hp} {p : Addr} {ms : List (Addr × Int × Int)} (h : MarksAt K H p ms) (e : Same H H') : MarksAt K H' p ms := ⟨e.seq h.seq, fun m hm => ⟨Same.seqT e (h.tup m hm).1, (h.tup m hm).2⟩⟩
def dMarks (ms : List (Addr × Int × Int)) : PyData := .list (ms.map fun m => .tuple [.int m.2.1, .int m.2.2])
theorem MarksAt.data {K : PySem.W.Frag} {H : Hp} {p : Addr} {ms : List (Addr × Int × Int)} (h : MarksAt K H p ms) : Dp K H (.ref p) (dMarks ms) :=
  .lst h.seq (DpAll.of_map fun m hm => .tup (h.tup m hm).1 (.cons (.int _) (.cons (.int _) .nil)))
theorem ok_marks (ms : List (Addr × Int × Int)) : okD 2 (dMarks ms) = true := by
  unfold dMarks
  simp only [okD]
  exact okDs_map fun m _ => by simp [okD, okDs]
theorem map_get {α β : Type} {f : α → β} {l : List α} {i : Nat} {y : β} (h : (l.map f)[i]? = some y) : ∃ a, l[i]? = some a ∧ y = f a := by
  rw [List.getElem?_map] at h
  cases e : l[i]? with
  | none => rw [e] at h; cases h
  | some n => rw [e] at h; exact ⟨n, rfl, (Option.some.inj h).symm⟩
theorem take_more {α : Type} {l : List α} {i : Nat} {x : α} (h : l[i]? = some x) : l.take (i + 1) = l.take i ++ [x] := by
  obtain ⟨hi, e⟩ := List.getElem?_eq_some_iff.mp h
  rw [List.take_succ, h]; rfl
/-- a list's greatest worth -/
def spGreat (K : PySem.W.Frag) : Sp := fun vs H Q _ => ∃ (p : Addr) (ms : List (Addr × Int × Int)) (n : Int), vs = [.ref p, .int n] ∧ MarksAt K H p ms ∧ ms.length ≤ 1000 ∧
  (ms = [] → ∀ H', Same H H' → Q .non H') ∧ (∀ (g : Int) (H' : Hp), Same H H' → (∃ m ∈ ms, g = worth m.2.1 m.2.2 n) → (∀ m ∈ ms, worth m.2.1 m.2.2 n ≤ g) → Q (.int g) H')

/-! ### comprehensions whose values are told by the turn alone -/
def PvV (res : Nat → List V) (H1 : Hp) (D : Addr) (i : Nat) (H : Hp) : Prop := Same H1 H ∧ H D = some (.lst (res i))
section
variable {res : Nat → List V} {H1 H H4 : Hp} {D : Addr} {i : Nat} {y : V}
theorem lc_begin (hD : H1 D = none) (r0 : res 0 = []) : PvV res H1 D 0 (upd H1 D (.lst [])) := ⟨Same.new (Same.refl _) hD, by rw [upd_same, r0]⟩
theorem Same.mut {H1 H : Hp} {D : Addr} {o : HO} (s : Same H1 H) (hD : H1 D = none) : Same H1 (upd H D o) := fun a u e => by
  rw [upd_ne (ne_of_none e hD)]; exact s a u e
theorem lc_put (p : PvV res H1 D i H) (hD : H1 D = none) (e : Same H H4) (er : res (i + 1) = res i ++ [y]) (hl : (res i).length < sizeLine) :
    ∃ acc, H4 D = some (.lst acc) ∧ acc.length < sizeLine ∧ PvV res H1 D (i + 1) (upd H4 D (.lst (acc ++ [y]))) :=
  ⟨res i, e _ _ p.2, hl, Same.mut (p.1.trans e) hD, by rw [upd_same, er]⟩
theorem lc_skip (p : PvV res H1 D i H) (e : Same H H4) (er : res (i + 1) = res i) : PvV res H1 D (i + 1) H4 := ⟨p.1.trans e, by rw [er]; exact e _ _ p.2⟩
end
/-- the values of a map, so far -/
def resM {α : Type} (l : List α) (g : α → V) (i : Nat) : List V := (l.take i).map g
theorem resM_0 {α : Type} {l : List α} {g : α → V} : resM l g 0 = [] := by simp [resM]
theorem resM_s {α : Type} {l : List α} {g : α → V} {i : Nat} {x : α} (h : l[i]? = some x) : resM l g (i + 1) = resM l g i ++ [g x] := by
  unfold resM; rw [take_more h, List.map_append]; rfl
theorem resM_all {α : Type} {l : List α} {g : α → V} {n : Nat} (h : n = l.length) : resM l g n = l.map g := by subst h; simp [resM]
theorem resM_len {α : Type} {l : List α} {g : α → V} {i : Nat} (h : l.length ≤ 100000) : (resM l g i).length < sizeLine := by
  have : (resM l g i).length ≤ l.length := by simp [resM]; omega
  rw [sizeLine_eq]; omega
/-- those of a filter, then mapped, so far -/
def resF {α : Type} (l : List α) (p : α → Bool) (g : α → V) (i : Nat) : List V := ((l.take i).filter p).map g
theorem resF_0 {α : Type} {l : List α} {p : α → Bool} {g : α → V} : resF l p g 0 = [] := by simp [resF]
theorem resF_y {α : Type} {l : List α} {p : α → Bool} {g : α → V} {i : Nat} {x : α} (h : l[i]? = some x) (c : p x = true) : resF l p g (i + 1) = resF l p g i ++ [g x] := by
  unfold resF; rw [take_more h, List.filter_append, List.map_append]; simp [c]
theorem resF_n {α : Type} {l : List α} {p : α → Bool} {g : α → V} {i : Nat} {x : α} (h : l[i]? = some x) (c : p x = false) : resF l p g (i + 1) = resF l p g i := by
  unfold resF; rw [take_more h, List.filter_append, List.map_append]; simp [c]
theorem resF_all {α : Type} {l : List α} {p : α → Bool} {g : α → V} {n : Nat} (h : n = l.length) : resF l p g n = (l.filter p).map g := by subst h; simp [resF]
theorem resF_len {α : Type} {l : List α} {p : α → Bool} {g : α → V} {i : Nat} (h : l.length ≤ 100000) : (resF l p g i).length < sizeLine := by
  have h1 : (resF l p g i).length ≤ (l.take i).length := by unfold resF; rw [List.length_map]; exact List.length_filter_le _ _
  have h2 : (l.take i).length ≤ l.length := by simp; omega
  rw [sizeLine_eq]; omega
section
variable {H : Hp} {Q : VK} {σ : L2.St}
theorem u_lc {wi : TI} {g : TG} {tt : TT} {te : TE} {vs : List Nat} (k : wi σ H fun J H1 => ∀ D, H1 D = none → ∃ W : Nat → Nat → Hp → Prop, (∃ m, W 0 m (upd H1 D (.lst []))) ∧ ∀ i m H, W i m H →
  (J.stop i H ∧ Q (.ref D) H) ∨ (J.go i H ∧ ∃ Nx : Hp → Prop, (∀ H', Nx H' → ∃ m', m' < m ∧ W (i + 1) m' H') ∧ ∀ x H', J.yld i H x H' → g x (wipe σ vs) H' fun σ2 H2 => wipe σ2 vs = wipe σ vs ∧ tt σ2 H2 fun b H3 =>
    if b = true then te σ2 H3 fun y H4 => ∃ acc, H4 D = some (.lst acc) ∧ acc.length < sizeLine ∧ Nx (upd H4 D (.lst (acc ++ [y]))) else Nx H3)) : tLc wi g tt te vs σ H Q := k
theorem u_yes {q : Bool → Hp → Prop} (k : q true H) : tYes σ H q := k
end

section
variable {K : PySem.W.Frag} {H : Hp} {Q : VK} {σ : L2.St} {T : String} {r : V → List V → Hp → VK → Prop} {to : TE} {t : TA} {p : Addr} {xs : List V} {B : Prop}
theorem u_bm (k : to σ H fun x H1 => tyV K T x H1 ∧ t σ H1 fun xs H2 => r x xs H2 Q) : tBM K T r to t σ H Q := k
theorem u_bm0 (k : to σ H fun x H1 => tyV K T x H1 ∧ r x [] H1 Q) : tBM0 K T r to σ H Q := k
theorem s_tyL (h : SqL K H p xs) (k : B) : tyV K "list" (.ref p) H ∧ B := ⟨.inl ⟨rfl, _, h⟩, k⟩
theorem s_app {y : V} (h : H p = some (.lst xs)) (hl : xs.length < sizeLine) (q : Q .non (upd H p (.lst (xs ++ [y])))) : rAppend (.ref p) [y] H Q := ⟨p, xs, y, rfl, rfl, h, hl, q⟩
end
end Ah
set_option Elab.async false
set_option linter.all false
set_option maxRecDepth 100000
set_option maxHeartbeats 4000000
/-! words: texts as lists of signs -/
namespace Ah
open PySem PySem.Spec PyProof.Rows L2 TL
def low (c : Nat) : Bool := decide (97 ≤ c) && decide (c ≤ 122)
def partL (l : List Nat) : Bool := decide (1 ≤ l.length) && decide (l.length ≤ 12) && l.all low
/-- cut at the blanks, acc ahead -/
def spA : List Nat → List Nat → List (List Nat)
  | acc, [] => [acc]
  | acc, c :: r => if c = 32 then acc :: spA [] r else spA (acc ++ [c]) r
theorem spl_spA : ∀ (l acc : List Nat), spl [32] 0 acc l = spA acc l
  | [], acc => by simp [spl, spA]
  | c :: r, acc => by
    by_cases h : c = 32
    · subst h
      rw [spl_hit (by simp [pre])]
      show acc :: spl [32] 0 [] r = _
      rw [spl_spA r []]; simp [spA]
    · rw [spl_miss (by simp [pre, h]), spl_spA r]; simp [spA, h]
def wordL (l : List Nat) : Bool := decide (l.length ≤ 24) && decide ((spA [] l).length ≤ 4) && (spA [] l).all partL
def isW (s : Str) : Bool := wordL (tl s)
theorem tl_blank : tl (Str.ofString " ") = [32] := by rw [tl_ofString]; rfl
theorem split_blank (s : Str) : (Txt.split s (Str.ofString " ")).map tl = spA [] (tl s) := by
  rw [split_spl s _ (by rw [tl_blank]; simp) (kind_ok (by decide +kernel)), tl_blank, spl_spA]
theorem spA_ne : ∀ (l acc : List Nat), spA acc l ≠ []
  | [], acc => by simp [spA]
  | c :: r, acc => by
    unfold spA; split
    · simp
    · exact spA_ne r _
theorem joinL_cons (p : List Nat) {ps : List (List Nat)} (h : ps ≠ []) : joinL [32] (p :: ps) = p ++ 32 :: joinL [32] ps := by
  cases ps with
  | nil => exact absurd rfl h
  | cons q r => rfl
theorem join_spA : ∀ (l acc : List Nat), joinL [32] (spA acc l) = acc ++ l
  | [], acc => by simp [spA, joinL]
  | c :: r, acc => by
    unfold spA; split
    · rename_i h; subst h
      rw [joinL_cons _ (spA_ne r []), join_spA r []]; rfl
    · rw [join_spA r]; simp
theorem spA_app : ∀ (p acc : List Nat) (r : List Nat), 32 ∉ p → spA acc (p ++ r) = spA (acc ++ p) r
  | [], acc, r, _ => by simp
  | c :: p, acc, r, h => by
    have hc : c ≠ 32 := fun e => h (by simp [e])
    show spA acc (c :: (p ++ r)) = _
    unfold spA
    rw [if_neg hc, spA_app p _ r (fun e => h (by simp [e]))]
    simp
    cases r <;> simp [spA]
theorem spA_one {p : List Nat} (h : 32 ∉ p) : spA [] p = [p] := by
  have := spA_app p [] [] h
  simpa [spA] using this
theorem spA_join : ∀ {ps : List (List Nat)}, ps ≠ [] → (∀ p ∈ ps, 32 ∉ p) → spA [] (joinL [32] ps) = ps
  | [], h, _ => absurd rfl h
  | [p], _, hp => spA_one (hp p (by simp))
  | p :: q :: r, _, hp => by
    show spA [] (p ++ (32 :: joinL [32] (q :: r))) = _
    rw [spA_app p [] _ (hp p (by simp))]
    show spA ([] ++ p) (32 :: joinL [32] (q :: r)) = _
    unfold spA
    rw [if_pos rfl, spA_join (by simp) fun z hz => hp z (by simp [hz])]
    rfl
/-- the first part begins with acc -/
theorem spA_head : ∀ (l acc : List Nat), ∃ q ps, spA acc l = (acc ++ q) :: ps
  | [], acc => ⟨[], [], by simp [spA]⟩
  | c :: r, acc => by
    unfold spA; split
    · exact ⟨[], spA [] r, by simp⟩
    · obtain ⟨q, ps, e⟩ := spA_head r (acc ++ [c])
      exact ⟨c :: q, ps, by rw [e]; simp⟩
theorem low_ne {c : Nat} (h : low c = true) : c ≠ 32 := by
  rintro rfl; simp [low] at h
theorem partL_no {p : List Nat} (h : partL p = true) : 32 ∉ p := fun hm => by
  unfold partL at h
  simp only [Bool.and_eq_true, List.all_eq_true] at h
  exact low_ne (h.2 32 hm) rfl
theorem partL_ne {p : List Nat} (h : partL p = true) : p ≠ [] := by
  rintro rfl; simp [partL] at h
/-- a word by its parts -/
theorem wordL_iff {l : List Nat} : wordL l = true ↔ ∃ ps : List (List Nat), ps ≠ [] ∧ ps.length ≤ 4 ∧ (∀ p ∈ ps, partL p = true) ∧ l = joinL [32] ps ∧ l.length ≤ 24 := by
  constructor
  · intro h
    unfold wordL at h
    simp only [Bool.and_eq_true, decide_eq_true_eq, List.all_eq_true] at h
    exact ⟨spA [] l, spA_ne _ _, h.1.2, h.2, by rw [join_spA]; rfl, h.1.1⟩
  · rintro ⟨ps, h1, h2, h3, rfl, h4⟩
    unfold wordL
    rw [spA_join h1 fun p hp => partL_no (h3 p hp)]
    simp only [Bool.and_eq_true, decide_eq_true_eq, List.all_eq_true]
    exact ⟨⟨h4, h2⟩, h3⟩
/-! ### going over the signs -/
def scan : Nat → Nat → List Nat → Bool
  | n, p, [] => decide (0 < n) && decide (p < 5)
  | n, p, c :: r => if c = 32 then (if n = 0 then false else scan 0 (p + 1) r) else if low c = true then (if 12 < n + 1 then false else scan (n + 1) p r) else false
theorem all_head_false {q : List Nat} {acc : List Nat} {l : List Nat} (h : ∀ q, partL (acc ++ q) = false) : (spA acc l).all partL = false := by
  obtain ⟨q, ps, e⟩ := spA_head l acc
  rw [e, List.all_cons, h q, Bool.false_and]
theorem scan_eq : ∀ (l acc : List Nat) (p : Nat), 1 ≤ p → acc.all low = true → acc.length ≤ 12 → scan acc.length p l = (decide (p - 1 + (spA acc l).length ≤ 4) && (spA acc l).all partL)
  | [], acc, p, hp, ha, hl => by
    have e : spA acc [] = [acc] := rfl
    rw [e]
    simp only [scan, List.length_singleton, List.all_cons, List.all_nil, Bool.and_true, partL, ha]
    rw [Bool.eq_iff_iff]
    simp only [Bool.and_eq_true, decide_eq_true_eq]
    omega
  | c :: r, acc, p, hp, ha, hl => by
    by_cases h : c = 32
    · subst h
      unfold scan spA
      rw [if_pos rfl, if_pos rfl]
      by_cases h0 : acc.length = 0
      · rw [if_pos h0]
        have : acc = [] := List.eq_nil_of_length_eq_zero h0
        subst this
        simp [partL]
      · rw [if_neg h0]
        have ih := scan_eq r [] (p + 1) (by omega) rfl (by simp)
        simp only [List.length_nil] at ih
        rw [ih, List.all_cons, List.length_cons]
        have : partL acc = true := by
          unfold partL
          rw [ha]; simp; omega
        rw [this, Bool.true_and]
        congr 1
        exact decide_eq_decide.mpr (by omega)
    · unfold scan spA
      rw [if_neg h, if_neg h]
      by_cases h1 : low c = true
      · rw [if_pos h1]
        by_cases h2 : 12 < acc.length + 1
        · rw [if_pos h2, all_head_false (q := []) (fun q => by
            unfold partL
            have : ¬ (acc ++ [c] ++ q).length ≤ 12 := by simp; omega
            simp only [decide_eq_false this, Bool.and_false, Bool.false_and]), Bool.and_false]
        · rw [if_neg h2]
          have ih := scan_eq r (acc ++ [c]) p hp (by simp only [List.all_append, ha, List.all_cons, h1, List.all_nil, Bool.and_true]) (by simp; omega)
          rw [List.length_append] at ih
          exact ih
      · rw [if_neg h1, all_head_false (q := []) (fun q => by
          unfold partL
          have : (acc ++ [c] ++ q).all low = false := by
            simp [List.all_append, h1]
          rw [this, Bool.and_false]), Bool.and_false]
theorem scan_word {l : List Nat} (h1 : l.length ≤ 24) : scan 0 1 l = wordL l := by
  have := scan_eq l [] 1 (by omega) rfl (by simp)
  simp only [List.length_nil] at this
  rw [this]
  unfold wordL
  rw [decide_eq_true h1, Bool.true_and]
  congr 1
  exact decide_eq_decide.mpr (by omega)
theorem wordL_nil : wordL [] = false := by decide
/-! ### cutting -/
theorem tl_cut_to {z : Str} {n : Int} (h : 0 ≤ n) : tl (cutS z none (some n)) = (tl z).take n.toNat := by
  obtain ⟨k, rfl⟩ := Int.eq_ofNat_of_zero_le h
  unfold cutS
  rw [tl_mk, HT.sIx_none, List.drop_zero, HT.sIx_nat, Nat.sub_zero, len_tl, Int.toNat_natCast, List.take_eq_take_iff]
  simp only [tl]
  omega
theorem tl_cut_from {z : Str} {n : Int} (h : 0 ≤ n) : tl (cutS z (some n) none) = (tl z).drop n.toNat := by
  obtain ⟨k, rfl⟩ := Int.eq_ofNat_of_zero_le h
  unfold cutS
  rw [tl_mk, HT.sIx_nat, HT.sIx_none, Int.toNat_natCast, len_tl, List.take_of_length_le (by rw [List.length_drop]; exact Nat.le_refl _)]
  by_cases c : k ≤ (tl z).length
  · rw [Nat.min_eq_left c]
  · rw [Nat.min_eq_right (by omega), List.drop_of_length_le (Nat.le_refl _), List.drop_of_length_le (by omega)]
theorem tl_cut_last {z : Str} : tl (cutS z none (some (-1))) = (tl z).dropLast := by
  unfold cutS
  have e : HT.sIx z.length z.length (some (-1)) = z.length - 1 := by
    show (if (-1 : Int) < 0 then ((-1 : Int) + (z.length : Int)).toNat else min (-1 : Int).toNat z.length) = z.length - 1
    rw [if_pos (by decide)]; omega
  rw [tl_mk, HT.sIx_none, List.drop_zero, e, Nat.sub_zero, len_tl, List.dropLast_eq_take]
/-! ### blanks struck at both ends -/
theorem getD_ne {l : List Nat} {k : Nat} (h : ∀ c ∈ l, c ≠ 32) (hk : k < l.length) : l.getD k 0 ≠ 32 := by
  have : l.getD k 0 = l[k] := by simp [List.getD, hk]
  rw [this]; exact h _ (List.getElem_mem hk)
theorem strip_keep {l t : List Nat} {s : Str} (e : tl s = l ++ t) (hl : l ≠ []) (h0 : l.getD 0 0 ≠ 32) (h1 : l.getD (l.length - 1) 0 ≠ 32) (ht : ∀ c ∈ t, c = 32) : tl (Txt.stripChars s (Str.ofString " ")) = l := by
  have hg : ∀ k, (Str.ofString " ").cps.contains k = decide (k = 32) := fun k => by
    have : (Str.ofString " ").cps = #[32] := by decide +kernel
    rw [this]; simp [eq_comm]
  unfold Txt.stripChars
  rw [stripBy_eq, tl_strSub, e]
  obtain ⟨a1, a2, a3⟩ := lo_facts (Str.ofString " ").cps.contains s
  have gd : ∀ k, s.cps.getD k 0 = (l ++ t).getD k 0 := fun k => by rw [← getD_list]; exact congrArg (fun z => z.getD k 0) e
  have ln : s.length = l.length + t.length := by rw [len_tl, e, List.length_append]
  have lp : 0 < l.length := List.length_pos_iff.mpr hl
  have hleft : ∀ k, k < l.length → (l ++ t).getD k 0 = l.getD k 0 := fun k hk => by simp [List.getD, List.getElem?_append_left hk]
  have lo0 : stripLo (Str.ofString " ").cps.contains true s = 0 := by
    rcases Nat.eq_zero_or_pos (stripLo (Str.ofString " ").cps.contains true s) with z | z
    · exact z
    · have := a2 0 z
      rw [hg, gd, hleft 0 lp] at this
      exact absurd (of_decide_eq_true this) h0
  rw [lo0]
  obtain ⟨b1, b2, b3, b4⟩ := hi_facts (Str.ofString " ").cps.contains s 0 (Nat.zero_le _)
  have hi : stripHi (Str.ofString " ").cps.contains true s 0 = l.length := by
    generalize stripHi (Str.ofString " ").cps.contains true s 0 = q at b1 b2 b3 b4
    by_cases c : q < l.length
    · have := b3 (l.length - 1) (by omega) (by omega)
      rw [hg, gd, hleft _ (by omega)] at this
      exact absurd (of_decide_eq_true this) h1
    · by_cases c2 : q = l.length
      · exact c2
      · exfalso
        rcases b4 with z | z
        · omega
        · rw [hg, gd] at z
          have : (l ++ t).getD (q - 1) 0 = 32 := by
            have hlt : q - 1 - l.length < t.length := by omega
            have : (l ++ t).getD (q - 1) 0 = t[q - 1 - l.length] := by
              simp [List.getD, List.getElem?_append_right (show l.length ≤ q - 1 by omega), List.getElem?_eq_getElem hlt]
            rw [this]; exact ht _ (List.getElem_mem hlt)
          rw [this] at z; simp at z
  rw [hi]; simp
/-- ends of a joined row of parts -/
theorem join_ends : ∀ {ps : List (List Nat)}, ps ≠ [] → (∀ p ∈ ps, partL p = true) → joinL [32] ps ≠ [] ∧ (joinL [32] ps).getD 0 0 ≠ 32 ∧ (joinL [32] ps).getD ((joinL [32] ps).length - 1) 0 ≠ 32
  | [], h, _ => absurd rfl h
  | [p], _, hp => by
    have h := hp p (by simp)
    have hn := partL_ne h
    have lp : 0 < p.length := List.length_pos_iff.mpr hn
    have a : ∀ c ∈ p, c ≠ 32 := fun c hc e => partL_no h (e ▸ hc)
    exact ⟨hn, getD_ne a lp, getD_ne a (by show p.length - 1 < p.length; omega)⟩
  | p :: q :: r, _, hp => by
    have h := hp p (by simp)
    have lp : 0 < p.length := List.length_pos_iff.mpr (partL_ne h)
    have a : ∀ c ∈ p, c ≠ 32 := fun c hc e => partL_no h (e ▸ hc)
    obtain ⟨i1, i2, i3⟩ := join_ends (ps := q :: r) (by simp) fun z hz => hp z (by simp [hz])
    rw [joinL_cons p (by simp)]
    have li : 0 < (joinL [32] (q :: r)).length := List.length_pos_iff.mpr i1
    refine ⟨by simp, ?_, ?_⟩
    · have : (p ++ 32 :: joinL [32] (q :: r)).getD 0 0 = p.getD 0 0 := by simp [List.getD, List.getElem?_append_left lp]
      rw [this]; exact getD_ne a lp
    · have : (p ++ 32 :: joinL [32] (q :: r)).getD ((p ++ 32 :: joinL [32] (q :: r)).length - 1) 0 = (joinL [32] (q :: r)).getD ((joinL [32] (q :: r)).length - 1) 0 := by
        simp only [List.length_append, List.length_cons, List.getD]
        rw [List.getElem?_append_right (by omega)]
        congr 1
        rw [show p.length + ((joinL [32] (q :: r)).length + 1) - 1 - p.length = ((joinL [32] (q :: r)).length - 1) + 1 by omega, List.getElem?_cons_succ]
      rw [this]; exact i3
theorem partL_take {p : List Nat} (h : partL p = true) {n : Nat} (h1 : 1 ≤ n) : partL (p.take n) = true := by
  unfold partL at h ⊢
  simp only [Bool.and_eq_true, decide_eq_true_eq, List.all_eq_true, List.length_take] at h ⊢
  exact ⟨⟨by omega, by omega⟩, fun c hc => h.2 c (List.mem_of_mem_take hc)⟩
/-- a beginning of a joined row: a joined row, or one and a blank -/
theorem join_take : ∀ {ps : List (List Nat)} {n : Nat}, ps ≠ [] → (∀ p ∈ ps, partL p = true) → 1 ≤ n → ∃ qs : List (List Nat), qs ≠ [] ∧ qs.length ≤ ps.length ∧ (∀ p ∈ qs, partL p = true) ∧
    ((joinL [32] ps).take n = joinL [32] qs ∨ (joinL [32] ps).take n = joinL [32] qs ++ [32])
  | [], _, h, _, _ => absurd rfl h
  | [p], n, _, hp, h1 => ⟨[p.take n], by simp, by simp, by simpa using partL_take (hp p (by simp)) h1, .inl rfl⟩
  | p :: q :: r, n, _, hp, h1 => by
    have h := hp p (by simp)
    rw [joinL_cons p (by simp)]
    by_cases c : n ≤ p.length
    · exact ⟨[p.take n], by simp, by simp, by simpa using partL_take h h1, .inl (by rw [List.take_append_of_le_length c]; rfl)⟩
    · by_cases c2 : n = p.length + 1
      · subst c2
        exact ⟨[p], by simp, by simp, by simpa using h, .inr (by rw [List.take_append, List.take_of_length_le (by omega), show p.length + 1 - p.length = 1 by omega]; rfl)⟩
      · obtain ⟨qs, i1, i2, i3, i4⟩ := join_take (ps := q :: r) (n := n - p.length - 1) (by simp) (fun z hz => hp z (by simp [hz])) (by omega)
        have et : (p ++ 32 :: joinL [32] (q :: r)).take n = p ++ 32 :: (joinL [32] (q :: r)).take (n - p.length - 1) := by
          rw [List.take_append, List.take_of_length_le (by omega)]
          congr 1
          rw [show n - p.length = (n - p.length - 1) + 1 by omega, List.take_succ_cons]
          rfl
        refine ⟨p :: qs, by simp, by simp at i2 ⊢; omega, fun z hz => ?_, ?_⟩
        · rcases List.mem_cons.mp hz with rfl | hz
          · exact h
          · exact i3 z hz
        · rw [et, joinL_cons p i1]
          rcases i4 with e | e
          · left; rw [e]
          · right; rw [e]; simp

/-! ### is_part, is_word: what is promised -/
def spPart : Sp := fun vs H Q _ => ∃ s : Str, vs = [.str s] ∧ s.length ≤ sizeLine ∧ Q (.bl (partL (tl s))) H
/-- any thing: a text, or a thing of another kind -/
def spIsWord (K : PySem.W.Frag) : Sp := fun vs H Q _ => ∃ x : V, vs = [x] ∧ ((∃ s : Str, x = .str s ∧ s.length ≤ 1000000 ∧ PyData.strOk s = true ∧ ∀ H', Same H H' → Q (.bl (isW s)) H') ∨ (∃ t : String, TyX K H x (.type t) ∧ kitB t "str" = some false ∧ Q (.bl false) H))
theorem mem_letters {c : Nat} : decide (c ∈ (Str.ofString "abcdefghijklmnopqrstuvwxyz").cps.toList) = low c := by
  rw [show (Str.ofString "abcdefghijklmnopqrstuvwxyz").cps.toList = [97,98,99,100,101,102,103,104,105,106,107,108,109,110,111,112,113,114,115,116,117,118,119,120,121,122] by decide +kernel]
  unfold low
  rw [Bool.eq_iff_iff]
  simp only [decide_eq_true_eq, Bool.and_eq_true, List.mem_cons, List.not_mem_nil, or_false]
  omega
theorem sign_take {s : Str} {i : Nat} {c : Nat} (h : s.cps[i]? = some c) : (tl s).take (i + 1) = (tl s).take i ++ [c] := take_more (by rw [tl, Array.getElem?_toList]; exact h)
theorem sign_mem {s : Str} {i : Nat} {c : Nat} (h : s.cps[i]? = some c) : c ∈ tl s := List.mem_of_getElem? (i := i) (by rw [tl, Array.getElem?_toList]; exact h)

theorem mem_join : ∀ {ps : List (List Nat)} {p : List Nat}, p ∈ ps → p.length ≤ (joinL [32] ps).length ∧ ∀ c ∈ p, c ∈ joinL [32] ps
  | [q], p, h => by
    have : p = q := by simpa using h
    subst this
    exact ⟨Nat.le_refl _, fun c hc => hc⟩
  | q :: r :: t, p, h => by
    rw [joinL_cons q (by simp)]
    rcases List.mem_cons.mp h with rfl | h
    · exact ⟨by simp, fun c hc => by simp [hc]⟩
    · obtain ⟨a, b⟩ := mem_join h
      exact ⟨by simp; omega, fun c hc => by simp [b c hc]⟩
theorem strOk_iff {s : Str} : PyData.strOk s = true ↔ ∀ c ∈ tl s, c < 1114112 := by
  unfold PyData.strOk
  rw [← Array.all_toList, List.all_eq_true]
  simp [tl]
/-- the parts of a text that is cut at the blanks -/
theorem split_mem {s y : Str} (h : y ∈ Txt.split s (Str.ofString " ")) : (tl y).length ≤ (tl s).length ∧ ∀ c ∈ tl y, c ∈ tl s := by
  have e := split_blank s
  have hm : tl y ∈ spA [] (tl s) := by rw [← e]; exact List.mem_map.mpr ⟨y, h, rfl⟩
  have := mem_join hm
  rw [join_spA] at this
  exact this
theorem eqv_strs_nil (l : List Str) : PyData.eqv (.list (l.map .str)) (.list []) = l.isEmpty := by
  cases l <;> rfl
theorem ok_strs {l : List Str} (h : ∀ s ∈ l, PyData.strOk s = true) : okD 1 (.list (l.map .str)) = true := by
  simp only [okD]
  exact okDs_map fun s hs => by simp [okD, h s hs]

theorem eq_blank {c : Nat} : decide (V.str ⟨#[c]⟩ = V.str (Str.ofString " ")) = decide (c = 32) := by
  rw [show (Str.ofString " ") = (⟨#[32]⟩ : Str) by decide +kernel, Bool.eq_iff_iff]
  simp

/-- a joined row cut and struck of blanks is a word -/
theorem word_cut {s : Str} {ps : List (List Nat)} {n : Int} (e : tl s = joinL [32] ps) (h1 : ps ≠ []) (h2 : ps.length ≤ 4) (h3 : ∀ p ∈ ps, partL p = true) (hn : 1 ≤ n) (hl : n ≤ 24 ∨ (tl s).length ≤ 24) :
    isW (Txt.stripChars (cutS s none (some n)) (Str.ofString " ")) = true := by
  have ec := tl_cut_to (z := s) (n := n) (by omega)
  rw [e] at ec
  obtain ⟨qs, q1, q2, q3, q4⟩ := join_take (n := n.toNat) h1 h3 (by omega)
  obtain ⟨a1, a2, a3⟩ := join_ends q1 q3
  have hlen : (joinL [32] qs).length ≤ 24 := by
    have h4 : (joinL [32] qs).length ≤ ((joinL [32] ps).take n.toNat).length := by
      rcases q4 with z | z
      · rw [z]; exact Nat.le_refl _
      · rw [z]; simp
    rw [List.length_take] at h4
    rw [e] at hl
    omega
  have et : ∃ t, tl (cutS s none (some n)) = joinL [32] qs ++ t ∧ ∀ c ∈ t, c = 32 := by
    rcases q4 with z | z
    · exact ⟨[], by rw [ec, z]; simp, fun _ h => nomatch h⟩
    · exact ⟨[32], by rw [ec, z], fun c hc => by simpa using hc⟩
  obtain ⟨t, et, ht⟩ := et
  unfold isW
  rw [strip_keep et a1 a2 a3 ht]
  exact wordL_iff.mpr ⟨qs, q1, by omega, q3, rfl, hlen⟩
theorem word_cut_word {s : Str} {n : Int} (h : isW s = true) (hn : 1 ≤ n) : isW (Txt.stripChars (cutS s none (some n)) (Str.ofString " ")) = true := by
  obtain ⟨ps, h1, h2, h3, e, hl⟩ := wordL_iff.mp h
  exact word_cut e h1 h2 h3 hn (.inr hl)
def sgn (c : Nat) : Str := ⟨#[c]⟩
theorem tl_sgn (c : Nat) : tl (sgn c) = [c] := rfl
theorem tl_empty : tl (Str.ofString "") = [] := by rw [tl_ofString]; rfl
theorem tl_join_nil (cs : List Nat) : tl (Txt.join (Str.ofString "") (cs.map sgn)) = cs := by
  rw [join_eq, tl_join, tl_empty]
  have : ∀ cs : List Nat, joinL [] ((cs.map sgn).map tl) = cs := by
    intro cs
    induction cs with
    | nil => rfl
    | cons c cs ih =>
      cases cs with
      | nil => rfl
      | cons d r =>
        show [c] ++ ([] ++ joinL [] (((d :: r).map sgn).map tl)) = _
        rw [ih]; rfl
  exact this cs
theorem tl_join_blank (ps : List Str) : tl (Txt.join (Str.ofString " ") ps) = joinL [32] (ps.map tl) := by rw [join_eq, tl_join, tl_blank]
/-- a drawn word: the box changes, a word comes -/
def spWord : Sp := fun vs H Q _ => ∃ b : Addr, vs = [.ref b] ∧ BoxAt H b ∧ ∀ (s : Str) (H' : Hp), isW s = true → BoxAt H' b → But b H H' → Q (.str s) H'
/-- the three rows of letters -/
def isLets (z : Str) : Prop := z = Str.ofString "ab" ∨ z = Str.ofString "abc" ∨ z = Str.ofString "abcdefghijklmnopqrstuvwxyz"
theorem isLets.len {z : Str} (h : isLets z) : 2 ≤ (tl z).length ∧ (tl z).length ≤ 26 := by
  rcases h with rfl | rfl | rfl <;> rw [tl_ofString] <;> decide +kernel
theorem isLets.low {z : Str} (h : isLets z) : ∀ c ∈ tl z, low c = true := by
  rcases h with rfl | rfl | rfl <;> rw [tl_ofString] <;> decide +kernel
theorem isLets.pick {r : Int} (h0 : 0 ≤ r) (h1 : r < 3) : ∃ z, atI [V.str (Str.ofString "ab"), V.str (Str.ofString "abc"), V.str (Str.ofString "abcdefghijklmnopqrstuvwxyz")] r = some (.str z) ∧ isLets z := by
  have : r = 0 ∨ r = 1 ∨ r = 2 := by omega
  rcases this with rfl | rfl | rfl
  · exact ⟨_, rfl, .inl rfl⟩
  · exact ⟨_, rfl, .inr (.inl rfl)⟩
  · exact ⟨_, rfl, .inr (.inr rfl)⟩
theorem partL_of {cs : List Nat} (h : ∀ c ∈ cs, low c = true) (h1 : 1 ≤ cs.length) (h2 : cs.length ≤ 12) : partL cs = true := by
  unfold partL
  rw [decide_eq_true h1, decide_eq_true h2, List.all_eq_true.mpr h]; rfl
section
variable {H : Hp} {Q : VK}
theorem s_ixS {z : Str} {i : Int} {c : Nat} (h : z.length ≤ sizeLine) (a : atI z.cps.toList i = some c) (q : Q (.str ⟨#[c]⟩) H) : rIxS (.str z) (.int i) H Q := ⟨z, i, c, rfl, rfl, h, a, q⟩
end
theorem atI_get' {α : Type} {l : List α} {i : Int} (h0 : 0 ≤ i) (h1 : i < l.length) : ∃ c, atI l i = some c ∧ c ∈ l := by
  obtain ⟨k, rfl⟩ := Int.eq_ofNat_of_zero_le h0
  have hk : k < l.length := by omega
  exact ⟨l[k], atI_nat (by simp [hk]), List.getElem_mem hk⟩
theorem sum_len_le {α : Type} {f : α → Nat} {n : Nat} : ∀ {l : List α}, (∀ a ∈ l, f a ≤ n) → (l.map f).sum ≤ l.length * n
  | [], _ => by simp
  | a :: l, h => by
    have h1 := h a (by simp)
    have h2 := sum_len_le (l := l) fun b hb => h b (by simp [hb])
    simp only [List.map_cons, List.sum_cons, List.length_cons]
    rw [Nat.add_mul]; omega

/-! ### texts in bounds -/
structure Tx (n : Nat) (s : Str) : Prop where
  len : s.length ≤ n
  ok : PyData.strOk s = true
theorem Tx.mono {n m : Nat} {s : Str} (h : Tx n s) (l : n ≤ m) : Tx m s := ⟨Nat.le_trans h.len l, h.ok⟩
theorem mem_cutS {z : Str} {lo hi : Option Int} {c : Nat} (h : c ∈ tl (cutS z lo hi)) : c ∈ tl z := by
  unfold cutS at h
  exact List.mem_of_mem_drop (List.mem_of_mem_take h)
theorem Tx.cut {n : Nat} {s : Str} (h : Tx n s) (lo hi : Option Int) : Tx n (cutS s lo hi) :=
  ⟨Nat.le_trans (cutS_length _ _ _) h.len, strOk_iff.mpr fun c hc => strOk_iff.mp h.ok c (mem_cutS hc)⟩
theorem Tx.app {n m : Nat} {x y : Str} (h : Tx n x) (g : Tx m y) : Tx (n + m) (x ++ y) :=
  ⟨by
    have := h.len
    have := g.len
    rw [len_tl] at *
    rw [tl_append, List.length_append]; omega, strOk_iff.mpr fun c hc => by
    rw [tl_append] at hc
    rcases List.mem_append.mp hc with hc | hc
    · exact strOk_iff.mp h.ok c hc
    · exact strOk_iff.mp g.ok c hc⟩
theorem wordL_len {l : List Nat} (h : wordL l = true) : 1 ≤ l.length ∧ l.length ≤ 24 := by
  obtain ⟨ps, h1, h2, h3, e, hl⟩ := wordL_iff.mp h
  obtain ⟨a, _, _⟩ := join_ends h1 h3
  rw [← e] at a
  exact ⟨List.length_pos_iff.mpr a, hl⟩
theorem mem_joinL : ∀ {ps : List (List Nat)} {c : Nat}, c ∈ joinL [32] ps → c = 32 ∨ ∃ p ∈ ps, c ∈ p
  | [], c, h => by simp [joinL] at h
  | [p], c, h => .inr ⟨p, by simp, h⟩
  | p :: q :: r, c, h => by
    rw [joinL_cons p (by simp)] at h
    rcases List.mem_append.mp h with h | h
    · exact .inr ⟨p, by simp, h⟩
    · rcases List.mem_cons.mp h with h | h
      · exact .inl h
      · rcases mem_joinL h with h | ⟨z, hz, hc⟩
        · exact .inl h
        · exact .inr ⟨z, by simp [hz], hc⟩
theorem partL_low {p : List Nat} (h : partL p = true) : ∀ c ∈ p, low c = true := by
  unfold partL at h
  simp only [Bool.and_eq_true, List.all_eq_true] at h
  exact h.2
/-- a word's signs -/
theorem wordL_signs {l : List Nat} (h : wordL l = true) : ∀ c ∈ l, low c = true ∨ c = 32 := fun c hc => by
  obtain ⟨ps, h1, h2, h3, rfl, hl⟩ := wordL_iff.mp h
  rcases mem_joinL hc with e | ⟨p, hp, hcp⟩
  · exact .inr e
  · exact .inl (partL_low (h3 p hp) c hcp)
theorem low_lt {c : Nat} (h : low c = true ∨ c = 32) : c < 1114112 := by
  rcases h with h | h
  · unfold low at h
    simp only [Bool.and_eq_true, decide_eq_true_eq] at h
    omega
  · omega
theorem Tx.word {s : Str} (h : isW s = true) : Tx 24 s := ⟨by rw [len_tl]; exact (wordL_len h).2, strOk_iff.mpr fun c hc => low_lt (wordL_signs h c hc)⟩
theorem isW_len {s : Str} (h : isW s = true) : 1 ≤ s.length ∧ s.length ≤ 24 := by
  have := wordL_len h
  rw [len_tl]; exact this
theorem Tx.join {ps : List Str} {n : Nat} (h : ∀ p ∈ ps, Tx n p) : Tx (ps.length * n + ps.length) (Txt.join (Str.ofString " ") ps) :=
  ⟨by
    have h1 := PySem.StrLaws.join_length_le (Str.ofString " ") ps
    rw [← join_eq, len_tl (Str.ofString " "), tl_blank] at h1
    simp only [List.length_singleton] at h1
    have h2 := sum_len_le (f := fun p : Str => p.length) (n := n) (l := ps) fun p hp => (h p hp).len
    omega, strOk_iff.mpr fun c hc => by
    rw [tl_join_blank] at hc
    rcases mem_joinL hc with e | ⟨p, hp, hcp⟩
    · omega
    · obtain ⟨q, hq, rfl⟩ := List.mem_map.mp hp
      exact strOk_iff.mp (h q hq).ok c hcp⟩
theorem cutV_strs (ss : List Str) (lo hi : Option Int) : ∃ ms : List Str, cutV (ss.map V.str) lo hi = ms.map V.str ∧ ms.length ≤ ss.length ∧ ∀ m ∈ ms, m ∈ ss := by
  refine ⟨(ss.drop (HT.sIx (ss.map V.str).length 0 lo)).take (HT.sIx (ss.map V.str).length (ss.map V.str).length hi - HT.sIx (ss.map V.str).length 0 lo), ?_, ?_, ?_⟩
  · unfold cutV; rw [List.map_take, List.map_drop]
  · rw [List.length_take, List.length_drop]; omega
  · intro m hm; exact List.mem_of_mem_drop (List.mem_of_mem_take hm)
/-! ### things of any kind -/
inductive Thing (H : Hp) : V → Prop where
  | str (s : Str) : Tx 1000 s → Thing H (.str s)
  | non : Thing H .non
  | bl (b : Bool) : Thing H (.bl b)
  | int (i : Int) : Thing H (.int i)
  | lst {a : Addr} {xs : List V} : H a = some (.lst xs) → Thing H (.ref a)
  | tup {a : Addr} {xs : List V} : H a = some (.tup xs) → Thing H (.ref a)
theorem Thing.same {H H' : Hp} {x : V} (h : Thing H x) (e : Same H H') : Thing H' x := by
  cases h with
  | str s t => exact .str s t
  | non => exact .non
  | bl b => exact .bl b
  | int i => exact .int i
  | lst h => exact .lst (e _ _ h)
  | tup h => exact .tup (e _ _ h)
theorem Thing.ty {K : PySem.W.Frag} {H : Hp} {x : V} (h : Thing H x) : (∃ s, x = .str s ∧ Tx 1000 s) ∨ (∃ t : String, TyX K H x (.type t) ∧ kitB t "str" = some false) := by
  cases h with
  | str s t => exact .inl ⟨s, rfl, t⟩
  | non => exact .inr ⟨_, .base .non, kb_NoneType_str⟩
  | bl b => exact .inr ⟨_, .base (.bl b), kb_bool_str⟩
  | int i => exact .inr ⟨_, .base (.int i), kb_int_str⟩
  | lst h => exact .inr ⟨_, .base (.lst h), kb_list_str⟩
  | tup h => exact .inr ⟨_, .base (.tup h), kb_tuple_str⟩
def spThing : Sp := fun vs H Q _ => ∃ b : Addr, vs = [.ref b] ∧ BoxAt H b ∧ ∀ (x : V) (H' : Hp), Thing H' x → BoxAt H' b → But b H H' → Q x H'
section
variable {H : Hp} {Q : VK}
theorem s_addS {x y : Str} (h : x.length + y.length ≤ sizeLine) (q : Q (.str (x ++ y)) H) : (fun (x y : V) (H : Hp) (Q : VK) => ∃ i j, x = V.str i ∧ y = V.str j ∧ i.length + j.length ≤ sizeLine ∧ Q (.str (i ++ j)) H) (.str x) (.str y) H Q := ⟨x, y, rfl, rfl, h, q⟩
end
end Ah
set_option Elab.async false
set_option linter.all false
set_option maxRecDepth 100000
set_option maxHeartbeats 4000000
/-! sorted, min, remove over data -/
namespace Ah
open PySem PySem.Spec PyProof.Rows L2
/-- the values go with the items, one by one -/
theorem each_of_paired {α : Type} {β : Type} {R : V → β → Prop} : ∀ {xs : List V} {bs : List β} {us : List Value}, Paired R xs bs → Vals xs us → PySem.W.EachIs (fun u b => ∃ x, RelV x u ∧ R x b) us bs
  | _, _, _, .nil, .nil => .nil
  | _, _, _, .cons h t, .cons r s => .cons ⟨_, r, h⟩ (each_of_paired (α := α) t s)
theorem paired_of_each {β : Type} {R : V → β → Prop} : ∀ {us : List Value} {bs : List β}, PySem.W.EachIs (fun u b => ∃ x, RelV x u ∧ R x b) us bs → ∃ ys, Vals ys us ∧ Paired R ys bs
  | _, _, .nil => ⟨[], .nil, .nil⟩
  | _, _, .cons ⟨x, r, h⟩ t => by
    obtain ⟨ys, a, b⟩ := paired_of_each t
    exact ⟨x :: ys, .cons r a, .cons h b⟩
/-- sorted(xs): xs stands for the items bs, each by R; enc tells their data -/
def rSortD (K : PySem.W.Frag) : List V → Hp → VK → Prop := fun vs H Q => ∃ (β : Type) (a : Addr) (xs : List V) (bs : List β) (enc : β → PyData) (R : V → β → Prop), vs = [V.ref a] ∧ SqL K H a xs ∧ Paired R xs bs ∧ (∀ x b, R x b → Dp K H x (enc b)) ∧
  PySem.W.AllAlike (bs.map enc) ∧ PySem.W.Sortable (bs.map enc) ∧ (∀ b ∈ bs, (enc b).depth ≤ 50) ∧
  ∀ (ys : List V) (p : Addr), Paired R ys (bs.mergeSort (PySem.W.dataLe false enc)) → H p = none → Q (.ref p) (upd H p (.lst ys))
theorem Paired.len {α β : Type} {R : α → β → Prop} : ∀ {xs : List α} {bs : List β}, Paired R xs bs → xs.length = bs.length
  | _, _, .nil => rfl
  | _, _, .cons _ t => by simp [Paired.len t]
section
variable {X : Cx}
theorem cr_sortD (hu : X.A.units + 64 < cLine) : CallR X (.builtin "sorted") (rSortD X.K) := by
  intro pins s σ H vs us Q I r h
  obtain ⟨β, a, xs, bs, enc, R, rfl, hS, hR, hE, hal, hk, hd, q⟩ := h
  obtain ⟨its, rv, hl, hz⟩ := I.list hS
  obtain ⟨u, rfl, ru⟩ := vals1 r
  cases ru
  have e := each_of_paired (α := Unit) hR rv
  have er : PySem.W.EachIs (fun v b => ∃ as, Reads s.heap v (enc b) as) its bs := e.mono fun v b ⟨x, rx, hx⟩ => Dp.reads I (enc b) x v (hE x b hx) rx
  have lb : bs.length ≤ sizeLine := by rw [← Paired.len hR]; exact hz
  refine PySem.W.sorted_data hl.isList e er hal hk lb (fun b hb => by have := hd b hb; omega) fun out ol oe => ?_
  obtain ⟨ys, g1, g2⟩ := paired_of_each oe
  obtain ⟨n, hn⟩ := sortedAll_at s.heap its out.toArray
  have hnew : s.heap.objs.size ≤ s.heap.objs.size + 1 := Nat.le_succ _
  refine ⟨.ref (s.heap.objs.size + 1), upd H (s.heap.objs.size + 1) (.lst ys), I.laid (t' := s.toks) (fun b o eo => sortedAll_old eo) hnew ⟨by rw [g1.length, ol]; exact lb, out, n, g1, hn⟩, rfl, q ys _ g2 (I.hok.fresh hnew)⟩
/-- min(xs) of data: an item of the least datum -/
def rMinD (K : PySem.W.Frag) : List V → Hp → VK → Prop := fun vs H Q => ∃ (a : Addr) (xs : List V) (d : PyData) (ds : List PyData), vs = [V.ref a] ∧ SqL K H a xs ∧ DpAll K H xs (d :: ds) ∧ PySem.W.AlikeAll (d :: ds) ∧ PyData.depthAll (d :: ds) ≤ 50 ∧
  ∀ (i : Nat) (x : V), xs[i]? = some x → (d :: ds)[i]? = some (PySem.W.minD d ds) → Q x H
theorem minD_mem (d : PyData) : ∀ ds : List PyData, PySem.W.minD d ds ∈ d :: ds := by
  intro ds
  unfold PySem.W.minD
  induction ds generalizing d with
  | nil => simp
  | cons e ds ih =>
    rw [List.foldl_cons]
    by_cases h : PySem.W.dataLt e d = true
    · rw [if_pos h]
      have := ih e
      rcases List.mem_cons.mp this with h1 | h1
      · rw [h1]; simp
      · simp [h1]
    · rw [if_neg h]
      have := ih d
      rcases List.mem_cons.mp this with h1 | h1
      · rw [h1]; simp
      · simp [h1]
theorem cr_minD (hc : X.calm = true) (hu : X.A.units + 64 < cLine) : CallR X (.builtin "min") (rMinD X.K) := by
  intro pins s σ H vs us Q I r h
  obtain ⟨a, xs, d, ds, rfl, hS, hD, hal, hdp, q⟩ := h
  obtain ⟨its, rv, hl, hz⟩ := I.list hS
  obtain ⟨u, rfl, ru⟩ := vals1 r
  cases ru
  obtain ⟨as, hr⟩ := Dp.readsAll I (d :: ds) xs its hD rv
  refine PySem.W.min_list_data (I.ok.hd hc) hl.isList hr hal (by omega) fun i v h' tk bs hv hm hk => ?_
  have hv' : its[i]? = some v := by simpa using hv
  have hx : ∃ x, xs[i]? = some x := by
    cases e : xs[i]? with
    | some x => exact ⟨x, rfl⟩
    | none => rw [Vals.none_of rv e] at hv'; cases hv'
  obtain ⟨x, hx⟩ := hx
  obtain ⟨v', hv2, rx⟩ := Vals.get rv hx
  rw [hv'] at hv2; cases hv2
  obtain ⟨bs', hb', hi, hmem, _⟩ := PySem.W.readsAll_at hr i v hv'
  have hb2 := PyProof.Rows.Reads.keeps hk hb'
  have e := PySem.W.alike_unique _ _ _ _ _ (hal.1 _ hmem _ (minD_mem d ds)) hb2 hm
  have I1 : Inv X pins σ H { s with heap := h', toks := tk } := I.kept hk
  refine ⟨x, H, I1, rx, q i x hx ?_⟩
  rw [← e]
  simp [List.getD, List.getElem?_eq_getElem hi]
/-- xs.remove(y) of data: the first item that is the same datum -/
def rRemD (K : PySem.W.Frag) : V → List V → Hp → VK → Prop := fun x vs H Q => ∃ (l : Addr) (xs : List V) (y : V) (ds : List PyData) (d : PyData) (j : Nat), x = .ref l ∧ vs = [y] ∧ H l = some (.lst xs) ∧ DpAll K H xs ds ∧ Dp K H y d ∧ PyData.plainAll ds = true ∧ d.plain = true ∧ PyData.depthAll ds ≤ 50 ∧
  PySem.SeqAt.dataPlace ds d = some j ∧ Q .non (upd H l (.lst (xs.eraseIdx j)))
theorem mt_remD (hu : X.A.units + 64 < cLine) : MtM X "list.remove" (rRemD X.K) := by
  intro pins s σ H x vs v us Q I rx rxs h
  obtain ⟨l, xs, y, ds, d, j, rfl, rfl, hH, hD, hd, hp, hpd, hdp, hj, q⟩ := h
  cases rx
  obtain ⟨u, rfl, ru⟩ := rxs.one
  obtain ⟨z, its, n, r, hl, e⟩ := I.lstM hH
  obtain ⟨as, hr⟩ := Dp.readsAll I ds xs its hD r
  obtain ⟨bs, hb⟩ := Dp.reads I d y u hd ru
  refine PySem.SeqAt.remove_list_data ⟨_, e, rfl, n, rfl⟩ hr hb hp hpd (by omega) hj (by rw [List.size_toArray]; omega) ?_
  have rr := r.eraseIdx j
  refine ⟨.non, _, I.lset (its' := its.eraseIdx j) (t' := s.toks) hH e ?_ rr ?_, rfl, q⟩
  · show its.toArray.eraseIdxIfInBounds j = (its.eraseIdx j).toArray
    rw [List.eraseIdxIfInBounds_toArray]
  · exact Nat.le_trans (List.length_eraseIdx_le ..) z
/-- x > y, x < y of data -/
def rGtD (K : PySem.W.Frag) : R2 := fun x y H Q => ∃ d e, Dp K H x d ∧ Dp K H y e ∧ PySem.W.alike d e = true ∧ d ≠ .none ∧ d.depth ≤ 50 ∧ Q (.bl (PySem.W.dataLt e d)) H
def rLtD (K : PySem.W.Frag) : R2 := fun x y H Q => ∃ d e, Dp K H x d ∧ Dp K H y e ∧ PySem.W.alike d e = true ∧ d ≠ .none ∧ d.depth ≤ 50 ∧ Q (.bl (PySem.W.dataLt d e)) H
theorem op_gtD (hu : X.A.units + 64 < cLine) : OpR X (compareOp .Gt) (rGtD X.K) := by
  intro pins s σ H x y v u Q I rx ry h
  obtain ⟨d, e, hx, hy, hal, hn, hdp, q⟩ := h
  obtain ⟨as, ra⟩ := Dp.reads I d x v hx rx
  obtain ⟨bs, rb⟩ := Dp.reads I e y u hy ry
  exact PySem.W.gt_data ra rb hal hn (by have := Nat.min_le_left d.depth e.depth; omega) (fin_bl I q rfl)
theorem op_ltD (hu : X.A.units + 64 < cLine) : OpR X (compareOp .Lt) (rLtD X.K) := by
  intro pins s σ H x y v u Q I rx ry h
  obtain ⟨d, e, hx, hy, hal, hn, hdp, q⟩ := h
  obtain ⟨as, ra⟩ := Dp.reads I d x v hx rx
  obtain ⟨bs, rb⟩ := Dp.reads I e y u hy ry
  exact PySem.W.lt_data ra rb hal hn (by have := Nat.min_le_left d.depth e.depth; omega) (fin_bl I q rfl)
theorem op_gtDK {K : PySem.W.Frag} (hK : X.K = K) (hu : X.A.units + 64 < cLine) : OpR X (compareOp .Gt) (rGtD K) := hK ▸ op_gtD hu
theorem op_ltDK {K : PySem.W.Frag} (hK : X.K = K) (hu : X.A.units + 64 < cLine) : OpR X (compareOp .Lt) (rLtD K) := hK ▸ op_ltD hu
/-- sorted(d) of a dict whose keys are texts -/
def rSortDict : List V → Hp → VK → Prop := fun xs H Q => ∃ (a : Addr) (kvs : List (Key × V)) (ks : List Str), xs = [.ref a] ∧ Rd H a (.dK kvs) ∧ kvs.map (·.1) = ks.map Sum.inr ∧
    ∀ p, H p = none → Q (.ref p) (upd H p (.lst ((ks.mergeSort (PySem.W.dataLe false PyData.str)).map V.str)))
theorem each_strs {h : Heap} : ∀ {us : List Value} {ks : List Str}, StrsAre us ks → PySem.W.EachIs (fun u b => ∃ as, Reads h u (PyData.str b) as) us ks
  | _, _, .nil => .nil
  | _, _, .cons x t r => .cons ⟨_, Reads.str x t⟩ (each_strs r)
theorem each_strs2 : ∀ {us : List Value} {ks : List Str}, StrsAre us ks → PySem.W.EachIs (fun u b => ∃ t, u = Value.str b t) us ks
  | _, _, .nil => .nil
  | _, _, .cons x t r => .cons ⟨t, rfl⟩ (each_strs2 r)
theorem vals_each : ∀ {us : List Value} {ks : List Str}, PySem.W.EachIs (fun u b => ∃ t, u = Value.str b t) us ks → Vals (ks.map V.str) us
  | _, _, .nil => .nil
  | _, _, .cons ⟨t, e⟩ r => .cons ⟨t, e⟩ (vals_each r)
theorem alike_strs (ks : List Str) : PySem.W.AllAlike (ks.map PyData.str) := PySem.W.AllAlike.of fun a b => by simp [PySem.W.alike]
theorem sortable_strs (ks : List Str) : PySem.W.Sortable (ks.map PyData.str) := PySem.W.Sortable.others fun b => ⟨by simp, by simp⟩
theorem call_sortDict (hcalm : X.calm = true) (hu : X.A.units + 64 < cLine) : CallR X (.builtin "sorted") rSortDict := by
  intro pins s σ H xs us Q I r q
  obtain ⟨a, kvs, ks, ex, hd, hks, q⟩ := q
  subst ex
  obtain ⟨u, eu, rx⟩ := vals1 r
  subst eu
  cases rx
  obtain ⟨z, lo, vs, rel, dd⟩ := dk_rd I.hok hd
  obtain ⟨ep, hat⟩ := dd.dictAt
  have hkeys : vs.map (·.1) = ks.map Sum.inr := rel.keys.symm.trans hks
  have hl : vs.length = ks.length := by
    have e := congrArg List.length hkeys
    rw [List.length_map, List.length_map] at e
    exact e
  have h16 : vs.length ≤ sizeLine := by rw [← rel.length]; exact z
  refine Calls.call_function_entry PyProof.Rows.kind_sorted PyProof.Rows.plain_sorted PyProof.Rows.entry_sorted (PyProof.Rows.args_sorted1 _) ?_
  unfold Builtin.«sorted»
  refine wpAny_bind (m := checkCount "sorted" 1 1 _) (wpAny_pure ?_)
  refine wpAny_bind (PySem.W.kdu_collect (A := X.A.in1) (PySem.W.kdl_dict (knd := mixKind X.prog X.w) (kvs := vs) (ep := ep) lo) (I.ok.hd hcalm) hat h16 fun h' tk acc hk hacc => ?_)
  have hal : acc.toList.length = ks.length := by rw [Array.length_toList, hacc.1, hl]
  have hS : StrsAre acc.toList ks := strs_at hal fun j v e => by
    obtain ⟨k, x, e1, e2⟩ := hacc.2 j v (by rw [← Array.getElem?_toList]; exact e)
    have e3 : (vs.map (·.1))[j]? = some k := by rw [List.getElem?_map, e1]; all_goals rfl
    rw [hkeys, List.getElem?_map] at e3
    cases e4 : ks[j]? with
    | none => rw [e4] at e3; cases e3
    | some y =>
      rw [e4] at e3
      have e5 : Sum.inr y = k := Option.some.inj e3
      subst e5
      obtain ⟨t, ev⟩ := Value.isStrOf_shape (x := y) (v := v) e2
      exact ⟨y, t, rfl, ev⟩
  have I1 : Inv X pins σ H { s with heap := h', toks := tk } := I.kept hk
  have ln : acc.toList.length ≤ sizeLine := by rw [hal, ← hl]; exact h16
  refine wpAny_bind (wpAny_newList ?_ ln)
  have hoL : (h'.push (seqObj "list" acc.toList.toArray 0)).get? h'.objs.size = some (seqObj "list" acc.toList.toArray 0) := Heap.get?_push_size _ rfl
  show wpAny _ _ _ _ _ { s with heap := h'.push (seqObj "list" acc.toList.toArray 0), toks := tk }
  have er := each_strs (h := PySem.W.sortingHeap (h'.push (seqObj "list" acc.toList.toArray 0)) h'.objs.size acc.toList) hS
  have oe := PySem.W.sortVals_data (enc := PyData.str) false (each_strs2 hS) er (alike_strs ks)
  refine wpAny_bind (wpAny_holding (wpAny_call_entry PyProof.Rows.slot_list_sort ⟨_, hoL, rfl⟩ PyProof.Rows.entry_list_sort
    (PySem.W.list_sort_vals (s := { s with heap := h'.push (seqObj "list" acc.toList.toArray 0), toks := tk }) hoL
      (PySem.W.SortsAt.data (s := { s with heap := PySem.W.sortingHeap (h'.push (seqObj "list" acc.toList.toArray 0)) h'.objs.size acc.toList, toks := tk }) (PySem.W.each_map (R := fun v d => ∃ as, Reads (PySem.W.sortingHeap (h'.push (seqObj "list" acc.toList.toArray 0)) h'.objs.size acc.toList) v d as) PyData.str er) (alike_strs ks) (sortable_strs ks) (fun d hd => by
        obtain ⟨y, _, rfl⟩ := List.mem_map.mp hd
        show X.A.in1.in1.units + PyData.depth (.str y) < cLine
        simp only [PyData.depth]
        show X.A.units + 1 + 1 + 0 < cLine
        omega)) ln ⟨_, rfl, ?_⟩)
    (PyProof.Rows.args_list_sort _)))
  obtain ⟨e', he'⟩ := PyProof.Rows.sortedHeap_at (vs := acc.toList) (out := (PySem.W.sortVals (PySem.W.dataKind (PySem.W.sortingHeap (h'.push (seqObj "list" acc.toList.toArray 0)) h'.objs.size acc.toList) (ks.map PyData.str)) false acc.toList acc.toList).toArray) hoL
  have hlen : ((ks.mergeSort (PySem.W.dataLe false PyData.str)).map V.str).length ≤ sizeLine := by
    rw [List.length_map, List.length_mergeSort, ← hal]; exact ln
  refine wpAny_pure ⟨_, rfl, .ref h'.objs.size, upd H h'.objs.size (.lst ((ks.mergeSort (PySem.W.dataLe false PyData.str)).map V.str)), I1.laid (t' := tk) (fun b u e => ?_) (Nat.le_refl _)
    (show ObjOk X.prog X.w _ _ _ (.lst _) from ⟨hlen, _, e', vals_each oe, he'⟩), rfl, q _ (I1.hok.fresh (Nat.le_refl _))⟩
  have hb : b < h'.objs.size := Heap.lt_size e
  rw [PyProof.Rows.sortedHeap_old (Nat.ne_of_lt hb) (by rw [size_push']; exact Nat.lt_succ_of_lt hb)]
  exact Heap.get?_push_of_some _ e
end
end Ah
set_option Elab.async false
set_option linter.all false
set_option maxRecDepth 100000
set_option maxHeartbeats 4000000
/-! rated words -/
namespace Ah
open PySem PySem.Spec PyProof.Rows L2 TL
/-! ### comprehensions that lay data -/
def PvD (K : PySem.W.Frag) (res : Nat → List PyData) (H1 : Hp) (D : Addr) (i : Nat) (H : Hp) : Prop :=
  Same H1 H ∧ ∃ (xs : List V) (G : Hp), H D = some (.lst xs) ∧ G D = none ∧ Same H1 G ∧ Same G H ∧ DpAll K G xs (res i)
section
variable {K : PySem.W.Frag} {res : Nat → List PyData} {H1 H H4 : Hp} {D : Addr} {i : Nat} {y : V} {d : PyData}
theorem lcD_begin (hD : H1 D = none) (r0 : res 0 = []) : PvD K res H1 D 0 (upd H1 D (.lst [])) :=
  ⟨Same.new (Same.refl _) hD, [], H1, upd_same, hD, Same.refl _, Same.new (Same.refl _) hD, by rw [r0]; exact .nil⟩
/-- an item that reads in every heap -/
theorem lcD_put (p : PvD K res H1 D i H) (hD : H1 D = none) (hy : ∀ G, Dp K G y d) (er : res (i + 1) = res i ++ [d]) (hl : (res i).length < sizeLine) :
    ∃ acc, H D = some (.lst acc) ∧ acc.length < sizeLine ∧ PvD K res H1 D (i + 1) (upd H D (.lst (acc ++ [y]))) := by
  obtain ⟨s, xs, G, e1, e2, e3, e4, e5⟩ := p
  refine ⟨xs, e1, by rw [DpAll.length e5]; exact hl, Same.mut s hD, xs ++ [y], G, upd_same, e2, e3, Same.mut e4 e2, ?_⟩
  rw [er]
  exact DpAll.append e5 (.cons (hy G) .nil)
/-- an item that reads ahead of the loop -/
theorem lcD_putO (p : PvD K res H1 D i H) (hD : H1 D = none) (hy : Dp K H1 y d) (er : res (i + 1) = res i ++ [d]) (hl : (res i).length < sizeLine) :
    ∃ acc, H D = some (.lst acc) ∧ acc.length < sizeLine ∧ PvD K res H1 D (i + 1) (upd H D (.lst (acc ++ [y]))) := by
  obtain ⟨s, xs, G, e1, e2, e3, e4, e5⟩ := p
  refine ⟨xs, e1, by rw [DpAll.length e5]; exact hl, Same.mut s hD, xs ++ [y], G, upd_same, e2, e3, Same.mut e4 e2, ?_⟩
  rw [er]
  exact DpAll.append e5 (.cons (Dp.same e3 hy) .nil)
/-- a new tuple -/
theorem lcD_putT {t : Addr} {zs : List V} {es : List PyData} (p : PvD K res H1 D i H) (hD : H1 D = none) (ht : H t = none) (hz : ∀ G, DpAll K G zs es) (er : res (i + 1) = res i ++ [.tuple es]) (hl : (res i).length < sizeLine) :
    ∃ acc, (upd H t (.tup zs)) D = some (.lst acc) ∧ acc.length < sizeLine ∧ PvD K res H1 D (i + 1) (upd (upd H t (.tup zs)) D (.lst (acc ++ [.ref t]))) := by
  obtain ⟨s, xs, G, e1, e2, e3, e4, e5⟩ := p
  have nt : D ≠ t := ne_of_none e1 ht
  have gt : G t = none := e4.free ht
  have sG : Same G (upd G t (.tup zs)) := Same.new (Same.refl _) gt
  refine ⟨xs, keepN e1 ht, by rw [DpAll.length e5]; exact hl, Same.mut (Same.new s ht) hD, xs ++ [.ref t], upd G t (.tup zs), upd_same, by rw [upd_ne nt]; exact e2, e3.trans sG, ?_, ?_⟩
  · intro a o e
    have na : a ≠ D := fun z => by
      rw [z, upd_ne nt, e2] at e; cases e
    rw [upd_ne na]
    by_cases c : a = t
    · subst c; rw [upd_same] at e ⊢; exact e
    · rw [upd_ne c] at e ⊢; exact e4 _ _ e
  · rw [er]
    exact DpAll.append (DpAll.same sG e5) (.cons (.tup (SqT.of upd_same) (hz _)) .nil)
theorem lcD_skip (p : PvD K res H1 D i H) (er : res (i + 1) = res i) : PvD K res H1 D (i + 1) H := by
  obtain ⟨s, xs, G, e⟩ := p
  exact ⟨s, xs, G, by rw [er]; exact e⟩
theorem lcD_end {n : Nat} {ds : List PyData} (p : PvD K res H1 D n H) (e : res n = ds) : Same H1 H ∧ ∃ xs, H D = some (.lst xs) ∧ DpAll K H xs ds := by
  obtain ⟨s, xs, G, e1, e2, e3, e4, e5⟩ := p
  exact ⟨s, xs, e1, by rw [← e]; exact DpAll.same e4 e5⟩
end
/-- the data of a map, of a filter and a map, so far -/
def rsM {α : Type} (l : List α) (g : α → PyData) (i : Nat) : List PyData := (l.take i).map g
theorem rsM_0 {α : Type} {l : List α} {g : α → PyData} : rsM l g 0 = [] := by simp [rsM]
theorem rsM_s {α : Type} {l : List α} {g : α → PyData} {i : Nat} {x : α} (h : l[i]? = some x) : rsM l g (i + 1) = rsM l g i ++ [g x] := by
  unfold rsM; rw [take_more h, List.map_append]; rfl
theorem rsM_all {α : Type} {l : List α} {g : α → PyData} {n : Nat} (h : n = l.length) : rsM l g n = l.map g := by subst h; simp [rsM]
theorem rsM_len {α : Type} {l : List α} {g : α → PyData} {i : Nat} (h : l.length ≤ 100000) : (rsM l g i).length < sizeLine := by
  have : (rsM l g i).length ≤ l.length := by simp [rsM]; omega
  rw [sizeLine_eq]; omega
def rsF {α : Type} (l : List α) (p : α → Bool) (g : α → PyData) (i : Nat) : List PyData := ((l.take i).filter p).map g
theorem rsF_0 {α : Type} {l : List α} {p : α → Bool} {g : α → PyData} : rsF l p g 0 = [] := by simp [rsF]
theorem rsF_y {α : Type} {l : List α} {p : α → Bool} {g : α → PyData} {i : Nat} {x : α} (h : l[i]? = some x) (c : p x = true) : rsF l p g (i + 1) = rsF l p g i ++ [g x] := by
  unfold rsF; rw [take_more h, List.filter_append, List.map_append]; simp [c]
theorem rsF_n {α : Type} {l : List α} {p : α → Bool} {g : α → PyData} {i : Nat} {x : α} (h : l[i]? = some x) (c : p x = false) : rsF l p g (i + 1) = rsF l p g i := by
  unfold rsF; rw [take_more h, List.filter_append, List.map_append]; simp [c]
theorem rsF_all {α : Type} {l : List α} {p : α → Bool} {g : α → PyData} {n : Nat} (h : n = l.length) : rsF l p g n = (l.filter p).map g := by subst h; simp [rsF]
theorem rsF_len {α : Type} {l : List α} {p : α → Bool} {g : α → PyData} {i : Nat} (h : l.length ≤ 100000) : (rsF l p g i).length < sizeLine := by
  have h1 : (rsF l p g i).length ≤ (l.take i).length := by unfold rsF; rw [List.length_map]; exact List.length_filter_le _ _
  have h2 : (l.take i).length ≤ l.length := by simp; omega
  rw [sizeLine_eq]; omega
/-! ### rated words -/
abbrev RW := Str × Int
def dP (e : RW) : PyData := .tuple [.str e.1, .int e.2]
def dRated (l : List RW) : PyData := .list (l.map dP)
theorem dP_inv {K : PySem.W.Frag} {H : Hp} {x : V} {e : RW} (h : Dp K H x (dP e)) : ∃ t, x = .ref t ∧ SqT K H t [.str e.1, .int e.2] := by
  unfold dP at h
  cases h with
  | tup s a =>
    cases a with
    | cons h1 t =>
      cases t with
      | cons h2 t =>
        cases t
        cases h1
        cases h2
        exact ⟨_, rfl, s⟩
theorem dRated_inv {K : PySem.W.Frag} {H : Hp} {x : V} {l : List RW} (h : Dp K H x (dRated l)) : ∃ p xs, x = .ref p ∧ SqL K H p xs ∧ DpAll K H xs (l.map dP) := by
  unfold dRated at h
  cases h with
  | lst s a => exact ⟨_, _, rfl, s, a⟩
theorem mapdP_get {K : PySem.W.Frag} {H : Hp} {xs : List V} {l : List RW} {i : Nat} {x : V} (h : DpAll K H xs (l.map dP)) (hi : xs[i]? = some x) : ∃ e t, l[i]? = some e ∧ x = .ref t ∧ SqT K H t [.str e.1, .int e.2] := by
  obtain ⟨d, h1, h2⟩ := DpAll.get h hi
  obtain ⟨e, he, rfl⟩ := map_get h1
  obtain ⟨t, rfl, ht⟩ := dP_inv h2
  exact ⟨e, t, he, rfl, ht⟩
/-- a comes no later than b: the greater worth, then the lesser word -/
def leR (a b : RW) : Bool := decide (b.2 < a.2) || (decide (a.2 = b.2) && !decide (tl b.1 < tl a.1))
def encR (e : RW) : PyData := .tuple [.int (0 - e.2), .str e.1]

theorem encR_inv {K : PySem.W.Frag} {H : Hp} {x : V} {e : RW} (h : Dp K H x (encR e)) : ∃ t, x = .ref t ∧ SqT K H t [.int (0 - e.2), .str e.1] := by
  unfold encR at h
  cases h with
  | tup s a =>
    cases a with
    | cons h1 t =>
      cases t with
      | cons h2 t =>
        cases t
        cases h1
        cases h2
        exact ⟨_, rfl, s⟩
theorem sortable_encR (l : List RW) : PySem.W.Sortable (l.map encR) := PySem.W.Sortable.tuples fun b => ⟨_, _, rfl⟩
theorem alike_encR (l : List RW) : PySem.W.AllAlike (l.map encR) := PySem.W.AllAlike.of fun a b => by simp [encR, PySem.W.alike, PySem.W.alikeAll]
theorem dataLt_is (i j : Int) (x y : Str) : PySem.W.dataLt (.tuple [.int i, .str x]) (.tuple [.int j, .str y]) = (decide (i < j) || (decide (i = j) && decide (tl x < tl y))) := by
  rw [PySem.W.dataLt_tuple]
  by_cases h : i = j
  · subst h
    rw [PySem.W.dataLt_all_yes (by simp [PySem.W.alike]) (by simp [PyData.eqv])]
    by_cases h2 : x = y
    · subst h2
      rw [PySem.W.dataLt_all_yes (by simp [PySem.W.alike]) (by simp [PyData.eqv])]
      have e1 : ¬ (tl x < tl x) := List.lt_irrefl _
      simp [e1, PySem.W.keyToksAll]
      rfl
    · rw [PySem.W.dataLt_all_no (by simp [PySem.W.alike]) (by simp [PyData.eqv, h2]), PySem.W.dataLt_str]
      simp
  · rw [PySem.W.dataLt_all_no (by simp [PySem.W.alike]) (by simp [PyData.eqv, h]), PySem.W.dataLt_int]
    simp [h]
theorem dataLe_R : PySem.W.dataLe false encR = leR := by
  funext a b
  show (!PySem.W.dataLt (encR b) (encR a)) = leR a b
  unfold encR leR
  rw [dataLt_is]
  have h1 : decide (0 - b.2 < 0 - a.2) = decide (a.2 < b.2) := decide_eq_decide.mpr (by omega)
  have h2 : decide (0 - b.2 = 0 - a.2) = decide (a.2 = b.2) := decide_eq_decide.mpr (by omega)
  rw [h1, h2]
  by_cases c1 : a.2 < b.2
  · have c2 : ¬ a.2 = b.2 := by omega
    have c3 : ¬ b.2 < a.2 := by omega
    simp [c1, c2, c3]
  · by_cases c2 : a.2 = b.2
    · have c3 : ¬ b.2 < a.2 := by omega
      simp [c1, c2]
    · have c3 : b.2 < a.2 := by omega
      simp [c1, c2, c3]
def bestOf (l : List RW) (many : Int) : List RW := (l.mergeSort leR).take many.toNat
/-- best_of -/
def spBest (K : PySem.W.Frag) : Sp := fun vs H Q _ => ∃ (x : V) (l : List RW) (many : Int), vs = [x, .int many] ∧ Dp K H x (dRated l) ∧ l.length ≤ 10000 ∧ 0 ≤ many ∧
  ∀ (q : Addr) (H' : Hp) (xs : List V), Same H H' → H q = none → H' q = some (.lst xs) → DpAll K H' xs ((bestOf l many).map dP) → Q (.ref q) H'
/-- ahead_of -/
def aheadR (a b : RW) : Bool := if a.2 = b.2 then decide (tl a.1 < tl b.1) else decide (b.2 < a.2)
def spAhead (K : PySem.W.Frag) : Sp := fun vs H Q _ => ∃ (t u : Addr) (a b : RW), vs = [.ref t, .ref u] ∧ SqT K H t [.str a.1, .int a.2] ∧ SqT K H u [.str b.1, .int b.2] ∧ Q (.bl (aheadR a b)) H
theorem cutV_map {α : Type} (f : α → V) (l : List α) {n : Int} (h : 0 ≤ n) : cutV (l.map f) none (some n) = (l.take n.toNat).map f := by
  obtain ⟨k, rfl⟩ := Int.eq_ofNat_of_zero_le h
  unfold cutV
  rw [HT.sIx_none, List.drop_zero, HT.sIx_nat, Nat.sub_zero, List.length_map, Int.toNat_natCast, ← List.map_take]
  congr 1
  rw [List.take_eq_take_iff]; omega
theorem cutV_to (xs : List V) {n : Int} (h : 0 ≤ n) : cutV xs none (some n) = xs.take n.toNat := by
  have := cutV_map (fun x : V => x) xs h
  simpa using this
theorem DpAll.take {K : PySem.W.Frag} {H : Hp} : ∀ {xs : List V} {ds : List PyData} (n : Nat), DpAll K H xs ds → DpAll K H (xs.take n) (ds.take n)
  | _, _, 0, _ => by simpa using .nil
  | _, _, _ + 1, .nil => .nil
  | _, _, n + 1, .cons h t => .cons h (DpAll.take n t)
theorem cutV_from (xs : List V) {n : Int} (h : 0 ≤ n) : cutV xs (some n) none = xs.drop n.toNat := by
  obtain ⟨k, rfl⟩ := Int.eq_ofNat_of_zero_le h
  unfold cutV
  rw [HT.sIx_nat, HT.sIx_none, Int.toNat_natCast, List.take_of_length_le (by rw [List.length_drop]; exact Nat.le_refl _)]
  by_cases c : k ≤ xs.length
  · rw [Nat.min_eq_left c]
  · rw [Nat.min_eq_right (by omega), List.drop_of_length_le (Nat.le_refl _), List.drop_of_length_le (by omega)]
theorem DpAll.drop {K : PySem.W.Frag} {H : Hp} : ∀ {xs : List V} {ds : List PyData} (n : Nat), DpAll K H xs ds → DpAll K H (xs.drop n) (ds.drop n)
  | _, _, 0, h => by simpa using h
  | _, _, _ + 1, .nil => .nil
  | _, _, n + 1, .cons h t => DpAll.drop n t
/-! ### the order -/
theorem tl_inj {s t : Str} (h : tl s = tl t) : s = t := by
  cases s; cases t
  simp only [tl] at h
  rw [Str.mk.injEq]
  exact Array.toList_inj.mp h
theorem tl_tri (x y : Str) (h1 : ¬ tl x < tl y) (h2 : ¬ tl y < tl x) : x = y := tl_inj (List.le_antisymm (List.not_lt.mp h2) (List.not_lt.mp h1))
/-- a comes ahead of b -/
def ahead (a b : RW) : Bool := decide (b.2 < a.2) || (decide (a.2 = b.2) && decide (tl a.1 < tl b.1))
theorem ahead_is (a b : RW) : aheadR a b = ahead a b := by
  unfold aheadR ahead
  by_cases h : a.2 = b.2
  · rw [if_pos h]
    have : ¬ b.2 < a.2 := by omega
    simp [h]
  · rw [if_neg h]; simp [h]
theorem ahead_iff {a b : RW} : ahead a b = true ↔ b.2 < a.2 ∨ (a.2 = b.2 ∧ tl a.1 < tl b.1) := by
  unfold ahead; simp
theorem leR_is (a b : RW) : leR a b = !ahead b a := by
  unfold leR ahead
  by_cases h : b.2 < a.2
  · have h1 : ¬ a.2 < b.2 := by omega
    have h2 : ¬ b.2 = a.2 := by omega
    simp [h, h1, h2]
  · by_cases h1 : a.2 < b.2
    · have h2 : ¬ a.2 = b.2 := by omega
      simp [h1, h2, h]
    · have h2 : a.2 = b.2 := by omega
      simp [h2]
theorem leR_iff {a b : RW} : leR a b = true ↔ ¬ ahead b a = true := by rw [leR_is]; simp
theorem tl_lt_trans {x y z : List Nat} (h : x < y) (g : y < z) : x < z := List.lt_trans h g
theorem ahead_trans {a b c : RW} (h : ahead a b = true) (g : ahead b c = true) : ahead a c = true := by
  rw [ahead_iff] at *
  rcases h with h | ⟨h, h'⟩
  · rcases g with g | ⟨g, g'⟩
    · left; omega
    · left; omega
  · rcases g with g | ⟨g, g'⟩
    · left; omega
    · right; exact ⟨by omega, List.lt_trans h' g'⟩
theorem ahead_asymm {a b : RW} (h : ahead a b = true) : ¬ ahead b a = true := by
  rw [ahead_iff] at *
  rintro (g | ⟨g, g'⟩)
  · rcases h with h | ⟨h, h'⟩ <;> omega
  · rcases h with h | ⟨h, h'⟩
    · omega
    · exact List.lt_asymm h' g'
theorem ahead_tri {a b : RW} (h : ¬ ahead a b = true) (g : ¬ ahead b a = true) : a = b := by
  rw [ahead_iff] at *
  have e : a.2 = b.2 := by
    by_cases h1 : b.2 < a.2
    · exact absurd (.inl h1) h
    · by_cases h2 : a.2 < b.2
      · exact absurd (.inl h2) g
      · omega
  have w : a.1 = b.1 := tl_tri _ _ (fun z => h (.inr ⟨e, z⟩)) (fun z => g (.inr ⟨e.symm, z⟩))
  exact Prod.ext w e
theorem leR_trans (a b c : RW) (h : leR a b = true) (g : leR b c = true) : leR a c = true := by
  rw [leR_iff] at *
  intro z
  by_cases e : ahead b a = true
  · exact h e
  · by_cases e2 : ahead a b = true
    · exact g (ahead_trans z e2)
    · have := ahead_tri e e2
      subst this; exact g z
theorem leR_total (a b : RW) : (leR a b || leR b a) = true := by
  rw [Bool.or_eq_true, leR_iff, leR_iff]
  by_cases e : ahead b a = true
  · exact .inr (ahead_asymm e)
  · exact .inl e
theorem leR_anti {a b : RW} (h : leR a b = true) (g : leR b a = true) : a = b := by
  rw [leR_iff] at *
  exact ahead_tri g h
theorem leR_of_ahead {a b : RW} (h : ahead a b = true) : leR a b = true := leR_iff.mpr (ahead_asymm h)
/-- the sorted list is the one -/
theorem sorted_is {l m : List RW} (h : m.Perm l) (s : m.Pairwise fun a b => leR a b = true) : m = l.mergeSort leR :=
  List.Perm.eq_of_pairwise (le := fun a b => leR a b = true) (fun _ _ _ _ => leR_anti) s (List.pairwise_mergeSort leR_trans leR_total l) (h.trans (List.mergeSort_perm l leR).symm)
theorem mem_best {l : List RW} {e : RW} : e ∈ l.mergeSort leR ↔ e ∈ l := (List.mergeSort_perm l leR).mem_iff
/-- laid in at its place -/
theorem ins_sorted {L : List RW} {e : RW} {a : Nat} (s : L.Pairwise fun a b => leR a b = true) (h : ∀ x ∈ L.take a, ahead x e = true) (g : L.length ≤ a ∨ ∃ y, L[a]? = some y ∧ ahead y e = false) :
    (L.take a ++ e :: L.drop a).Pairwise fun a b => leR a b = true := by
  have s2 : (L.take a ++ L.drop a).Pairwise fun a b => leR a b = true := by rw [List.take_append_drop]; exact s
  rw [List.pairwise_append] at s2 ⊢
  obtain ⟨s3, s4, s5⟩ := s2
  have le : ∀ z ∈ L.drop a, leR e z = true := by
    intro z hz
    rcases g with g | ⟨y, hy, g⟩
    · rw [List.drop_of_length_le g] at hz; cases hz
    · obtain ⟨hl, hy2⟩ := List.getElem?_eq_some_iff.mp hy
      have ed : L.drop a = y :: L.drop (a + 1) := by rw [List.drop_eq_getElem_cons hl, hy2]
      have ey : leR e y = true := leR_iff.mpr (by rw [g]; decide)
      rw [ed] at hz s4
      rcases List.mem_cons.mp hz with rfl | hz
      · exact ey
      · exact leR_trans _ _ _ ey ((List.pairwise_cons.mp s4).1 z hz)
  refine ⟨s3, List.pairwise_cons.mpr ⟨le, s4⟩, fun x hx z hz => ?_⟩
  rcases List.mem_cons.mp hz with rfl | hz
  · exact leR_of_ahead (h x hx)
  · exact s5 x hx z hz
theorem ins_perm {L : List RW} {e : RW} {a : Nat} : (L.take a ++ e :: L.drop a).Perm (L ++ [e]) := by
  have h1 : (L.take a ++ e :: L.drop a).Perm (e :: (L.take a ++ L.drop a)) := List.perm_middle
  rw [List.take_append_drop] at h1
  exact h1.trans (List.perm_append_singleton e L).symm
theorem paired_of_dp {α : Type} {K : PySem.W.Frag} {H : Hp} {enc : α → PyData} : ∀ {xs : List V} {l : List α}, DpAll K H xs (l.map enc) → Paired (fun x e => Dp K H x (enc e)) xs l
  | [], [], _ => .nil
  | _ :: _, [], h => nomatch h
  | [], _ :: _, h => nomatch h
  | _ :: _, _ :: _, .cons h t => .cons h (paired_of_dp t)
theorem dp_of_paired {α : Type} {K : PySem.W.Frag} {H : Hp} {enc : α → PyData} : ∀ {xs : List V} {l : List α}, Paired (fun x e => Dp K H x (enc e)) xs l → DpAll K H xs (l.map enc)
  | [], [], _ => .nil
  | _ :: _, _ :: _, .cons h t => .cons h (dp_of_paired t)
/-- rank_of -/
def spRank (K : PySem.W.Frag) : Sp := fun vs H Q _ => ∃ (x : V) (l : List RW) (z : Str), vs = [x, .str z] ∧ Dp K H x (dRated l) ∧ l.length ≤ 10000 ∧ (∀ e ∈ l, PyData.strOk e.1 = true) ∧
  ((∀ e ∈ l, e.1 ≠ z) → ∀ H', Same H H' → Q .non H') ∧ (∀ e0 ∈ l, e0.1 = z → ∀ H', Same H H' → Q (.int (l.countP fun e => ahead e e0)) H')
/-! ### the laws' draws of words and counts -/
def spCount : Sp := fun vs H Q _ => ∃ b : Addr, vs = [.ref b] ∧ BoxAt H b ∧ ∀ (r : Int) (H' : Hp), 0 ≤ r → r ≤ 1000000000 → BoxAt H' b → But b H H' → Q (.int r) H'
/-- a word near the words told -/
def spNext (K : PySem.W.Frag) : Sp := fun vs H Q _ => ∃ (b a : Addr) (ss : List Str), vs = [.ref b, .ref a] ∧ BoxAt H b ∧ SqL K H a (ss.map V.str) ∧ a ≠ b ∧ ss.length ≤ 10000 ∧ (∀ s ∈ ss, isW s = true) ∧
  ∀ (s : Str) (H' : Hp), isW s = true → BoxAt H' b → But b H H' → Q (.str s) H'
/-- the values are tuples that stand in the heap -/
def RatedIn (H : Hp) : List V → List RW → Prop := Paired fun x e => ∃ t, x = .ref t ∧ H t = some (.tup [.str e.1, .int e.2])
theorem RatedIn.mono {H H' : Hp} {xs : List V} {l : List RW} (k : ∀ t zs, H t = some (.tup zs) → H' t = some (.tup zs)) (h : RatedIn H xs l) : RatedIn H' xs l := by
  induction h with
  | nil => exact .nil
  | cons h _ ih =>
    obtain ⟨t, rfl, e⟩ := h
    exact .cons ⟨t, rfl, k _ _ e⟩ ih
theorem RatedIn.but {H H' : Hp} {xs : List V} {l : List RW} {b : Addr} (h : RatedIn H xs l) (s : But b H H') (hb : BoxAt H b) : RatedIn H' xs l := h.mono fun t zs e => s _ _ (by
  rintro rfl
  obtain ⟨_, _, _, _, e2⟩ := hb
  rw [e2] at e; cases e) e
theorem RatedIn.new {H : Hp} {xs : List V} {l : List RW} {p : Addr} {o : HO} (h : RatedIn H xs l) (n : H p = none) : RatedIn (upd H p o) xs l := h.mono fun _ _ e => keepN e n
theorem RatedIn.upd {H : Hp} {xs : List V} {l : List RW} {p : Addr} {o o' : HO} (h : RatedIn H xs l) (e : H p = some o') (n : ∀ zs, o' ≠ .tup zs) : RatedIn (upd H p o) xs l := h.mono fun t zs e2 => by
  rw [upd_ne (by rintro rfl; rw [e] at e2; exact n _ (Option.some.inj e2))]; exact e2
theorem RatedIn.app {H : Hp} {xs : List V} {l : List RW} {t : Addr} {s : Str} {c : Int} (h : RatedIn H xs l) (e : H t = some (.tup [.str s, .int c])) : RatedIn H (xs ++ [.ref t]) (l ++ [(s, c)]) := by
  induction h with
  | nil => exact .cons ⟨t, rfl, e⟩ .nil
  | cons h _ ih => exact .cons h ih
theorem RatedIn.dp {K : PySem.W.Frag} {H : Hp} {xs : List V} {l : List RW} (h : RatedIn H xs l) : DpAll K H xs (l.map dP) := by
  induction h with
  | nil => exact .nil
  | cons h _ ih =>
    obtain ⟨t, rfl, e⟩ := h
    exact .cons (.tup (SqT.of e) (.cons (.str _) (.cons (.int _) .nil))) ih
theorem But.mut {b : Addr} {H1 H : Hp} {D : Addr} {o : HO} (s : But b H1 H) (hD : H1 D = none) : But b H1 (L2.upd H D o) := fun a u n e => by
  rw [upd_ne (ne_of_none e hD)]; exact s a u n e
/-- drawn rated words -/
def spRated (K : PySem.W.Frag) : Sp := fun vs H Q _ => ∃ b : Addr, vs = [.ref b] ∧ BoxAt H b ∧ ∀ (q : Addr) (H' : Hp) (xs : List V) (l : List RW), H' q = some (.lst xs) → DpAll K H' xs (l.map dP) → (l.map Prod.fst).Nodup → (∀ e ∈ l, isW e.1 = true) → l.length ≤ 100 →
  H q = none → BoxAt H' b → But b H H' → Q (.ref q) H'
theorem flat_strs (ss : List Str) : (ss.map V.str).all flatV = true := by
  rw [List.all_eq_true]
  intro x hx
  obtain ⟨s, _, rfl⟩ := List.mem_map.mp hx
  rfl
theorem inV_strs (s : Str) (ss : List Str) : inV (.str s) (ss.map V.str) = decide (s ∈ ss) := by
  unfold inV
  rw [Bool.eq_iff_iff, List.any_eq_true, decide_eq_true_eq]
  constructor
  · rintro ⟨y, hy, e⟩
    obtain ⟨z, hz, rfl⟩ := List.mem_map.mp hy
    have : z = s := by simpa [eqV] using e
    rw [← this]; exact hz
  · intro h
    exact ⟨.str s, List.mem_map.mpr ⟨s, h, rfl⟩, by simp [eqV]⟩
theorem BoxAt.some {H : Hp} {b : Addr} (h : BoxAt H b) : H b = Option.some (.lst [.int h.choose, .int h.choose_spec.choose, .int h.choose_spec.choose_spec.choose, .int h.choose_spec.choose_spec.choose_spec.choose]) := h.choose_spec.choose_spec.choose_spec.choose_spec
/-! ### the place of each -/
theorem nodup_of_map {l : List RW} (h : (l.map Prod.fst).Nodup) : l.Nodup := by
  induction l with
  | nil => exact .nil
  | cons a l ih =>
    rw [List.map_cons, List.nodup_cons] at h
    exact List.nodup_cons.mpr ⟨fun hm => h.1 (List.mem_map.mpr ⟨a, hm, rfl⟩), ih h.2⟩
theorem rank_is {l : List RW} {j : Nat} {e : RW} (hnd : (l.map Prod.fst).Nodup) (h : (l.mergeSort leR)[j]? = some e) : (l.countP fun x => ahead x e) = j := by
  have hp := List.mergeSort_perm l leR
  rw [← hp.countP_eq]
  have hs : (l.mergeSort leR).Pairwise fun a b => leR a b = true := List.pairwise_mergeSort leR_trans leR_total l
  have hn : (l.mergeSort leR).Nodup := hp.nodup_iff.mpr (nodup_of_map hnd)
  generalize l.mergeSort leR = m at h hs hn
  obtain ⟨hj, he⟩ := List.getElem?_eq_some_iff.mp h
  have ed : m = m.take j ++ e :: m.drop (j + 1) := by
    rw [← he, ← List.drop_eq_getElem_cons hj, List.take_append_drop]
  rw [ed, List.countP_append]
  rw [ed] at hs hn
  obtain ⟨s1, s2, s3⟩ := List.pairwise_append.mp hs
  have c1 : (m.take j).countP (fun x => ahead x e) = j := by
    have : (m.take j).countP (fun x => ahead x e) = (m.take j).length := List.countP_eq_length.mpr fun x hx => by
      have h1 := s3 x hx e (by simp)
      have h2 : x ≠ e := by
        rintro rfl
        exact (List.nodup_append.mp hn).2.2 x hx x (by simp) rfl
      by_cases c : ahead x e = true
      · exact c
      · exact absurd (ahead_tri c (leR_iff.mp h1)) h2
    rw [this, List.length_take]; omega
  have c2 : (e :: m.drop (j + 1)).countP (fun x => ahead x e) = 0 := List.countP_eq_zero.mpr fun x hx => by
    rcases List.mem_cons.mp hx with rfl | hx
    · intro z; exact ahead_asymm z z
    · exact leR_iff.mp ((List.pairwise_cons.mp s2).1 x hx)
  rw [c1, c2]; omega
theorem nodup_fst : ∀ {l : List RW} {a b : RW}, (l.map Prod.fst).Nodup → a ∈ l → b ∈ l → a.1 = b.1 → a = b
  | c :: l, a, b, h, ha, hb, e => by
    rw [List.map_cons, List.nodup_cons] at h
    rcases List.mem_cons.mp ha with ea | ha2
    · rcases List.mem_cons.mp hb with eb | hb2
      · exact ea.trans eb.symm
      · exact absurd (List.mem_map.mpr ⟨b, hb2, e.symm⟩) (ea ▸ h.1)
    · rcases List.mem_cons.mp hb with eb | hb2
      · exact absurd (List.mem_map.mpr ⟨a, ha2, e⟩) (eb ▸ h.1)
      · exact nodup_fst h.2 ha2 hb2 e
end Ah
set_option Elab.async false
set_option linter.all false
set_option maxRecDepth 100000
set_option maxHeartbeats 4000000
/-! objects: methods, classes made, fields; raising -/
namespace Ah
open PySem PySem.Spec PyProof.Rows L2 TL
/-- a method of the class at C stands as the text st says; dv: its defaults -/
structure MethAt (K : PySem.W.Frag) (C : Addr) (m qual : Str) (st : Stmt) (ps : List Str) (dv : List V) : Prop where
  ex : ∃ (f : Addr) (fd : FuncData), FunD K m qual (defArgs st) (defBody st) (defScope st) dv [] f fd ∧ Cls K C ∧ Meth K C m f ∧ Binds K fd ps [] ∧ ∃ us, Vals dv us ∧ Binds K fd ps us
/-- a method keeps the promise sp -/
structure FnM (P : Program) (w : World) (K : PySem.W.Frag) (mg : Str → Option Value) (base : Heap) (k : Nat) (C : Addr) (m : Str) (ps : List Str) (dv : List V) (sp : Sp) : Prop where
  ex : ∃ (f : Addr) (fd : FuncData), FnOk P w K mg base (L2.CX P w) k f fd ps sp ∧ Cls K C ∧ Meth K C m f ∧ Binds K fd ps [] ∧ ∃ us, Vals dv us ∧ Binds K fd ps us
/-- the class x at C is made by its __init__ -/
structure InitAt (K : PySem.W.Frag) (mg : Str → Option Value) (C : Addr) (x qual : Str) (st : Stmt) (ps : List Str) : Prop where
  ex : ∃ (f : Addr) (fd : FuncData), FunD K "__init__" qual (defArgs st) (defBody st) (defScope st) [] [] f fd ∧ Mk K C f ∧ mg x = some (.ref C) ∧ Binds K fd ps []
structure FnI (P : Program) (w : World) (K : PySem.W.Frag) (mg : Str → Option Value) (base : Heap) (k : Nat) (C : Addr) (x : Str) (ps : List Str) (sp : Sp) : Prop where
  ex : ∃ (f : Addr) (fd : FuncData), FnOk P w K mg base (L2.CX P w) k f fd ps sp ∧ Mk K C f ∧ mg x = some (.ref C) ∧ Binds K fd ps []
section
variable {P : Program} {w : World} {K : PySem.W.Frag} {mg : Str → Option Value} {base : Heap} {j k : Nat} {C : Addr} {m x qual : Str} {ps : List Str} {dv : List V} {sp : Sp} {st : Stmt} {N : List Str}
theorem MethAt.okX (D : MethAt K C m qual st ps dv) (S : FnScope N ps (defScope st)) (len : ∀ vs H Q E, sp vs H Q E → vs.length = ps.length)
    (hbody : ∀ (f : Addr) (cdv : Value) (A : Around) (outer : List Env) (s : Shared) (H : Hp) (vs : List V) (Q : VK) (E : XK), Room k (A.deeper (envOfC qual (defScope st) s.heap.objs.size f cdv)) → sp vs H Q E →
      ∃ t, PSs (cxOf (L2.CX P w) P w K mg base N qual (defScope st) f cdv A outer s H E) (defBody st) t ∧ t { nx := fun _ H' => Q .non H', rt := Q } (start N vs) H) : FnM P w K mg base (k + 1) C m ps dv sp := by
  obtain ⟨f, fd, F, r⟩ := D.ex
  exact ⟨f, fd, F.ok S len fun cdv A outer s H vs Q E hr h => hbody f cdv A outer s H vs Q E hr h, r⟩
theorem MethAt.ok (D : MethAt K C m qual st ps dv) (S : FnScope N ps (defScope st)) (len : ∀ vs H Q E, sp vs H Q E → vs.length = ps.length)
    (hbody : ∀ (f : Addr) (cdv : Value) (A : Around) (outer : List Env) (s : Shared) (H : Hp) (vs : List V) (Q : VK) (E : XK), Room k (A.deeper (envOfC qual (defScope st) s.heap.objs.size f cdv)) → sp vs H Q E →
      ∃ t, PSs (cxOf (L2.CX P w) P w K mg base N qual (defScope st) f cdv A outer s H E).nox (defBody st) t ∧ t { nx := fun _ H' => Q .non H', rt := Q } (start N vs) H) : FnM P w K mg base (k + 1) C m ps dv sp :=
  D.okX S len fun f cdv A outer s H vs Q E hr h => by
    obtain ⟨t, h1, h2⟩ := hbody f cdv A outer s H vs Q E hr h
    exact ⟨t, h1.nox, h2⟩
theorem InitAt.okX (D : InitAt K mg C x qual st ps) (S : FnScope N ps (defScope st)) (len : ∀ vs H Q E, sp vs H Q E → vs.length = ps.length)
    (hbody : ∀ (f : Addr) (cdv : Value) (A : Around) (outer : List Env) (s : Shared) (H : Hp) (vs : List V) (Q : VK) (E : XK), Room k (A.deeper (envOfC qual (defScope st) s.heap.objs.size f cdv)) → sp vs H Q E →
      ∃ t, PSs (cxOf (L2.CX P w) P w K mg base N qual (defScope st) f cdv A outer s H E) (defBody st) t ∧ t { nx := fun _ H' => Q .non H', rt := Q } (start N vs) H) : FnI P w K mg base (k + 1) C x ps sp := by
  obtain ⟨f, fd, F, r⟩ := D.ex
  exact ⟨f, fd, F.ok S len fun cdv A outer s H vs Q E hr h => hbody f cdv A outer s H vs Q E hr h, r⟩
theorem InitAt.ok (D : InitAt K mg C x qual st ps) (S : FnScope N ps (defScope st)) (len : ∀ vs H Q E, sp vs H Q E → vs.length = ps.length)
    (hbody : ∀ (f : Addr) (cdv : Value) (A : Around) (outer : List Env) (s : Shared) (H : Hp) (vs : List V) (Q : VK) (E : XK), Room k (A.deeper (envOfC qual (defScope st) s.heap.objs.size f cdv)) → sp vs H Q E →
      ∃ t, PSs (cxOf (L2.CX P w) P w K mg base N qual (defScope st) f cdv A outer s H E).nox (defBody st) t ∧ t { nx := fun _ H' => Q .non H', rt := Q } (start N vs) H) : FnI P w K mg base (k + 1) C x ps sp :=
  D.okX S len fun f cdv A outer s H vs Q E hr h => by
    obtain ⟨t, h1, h2⟩ := hbody f cdv A outer s H vs Q E hr h
    exact ⟨t, h1.nox, h2⟩
/-- a method without defaults -/
theorem meth_mk {f : Addr} {oc : Value} {od an : Option Addr} {osl : Array (Option Value)} {kV doc pm cdv ct : Value} (c : Cls K C) (a : PySem.W.findIn K (.ref C) m = some (some (.ref f))) (i : PySem.W.isFn K (.ref f) = true)
    (l : K.lookup f = some ⟨oc, od, .func (PySem.W.fnOf m qual (defArgs st) (defBody st) (defScope st) .none kV doc pm an cdv ct), osl⟩) (q : PySem.W.codeIn K cdv qual = true) (kp : PySem.W.keepIn K (.ref f) = true)
    (b : ∀ (kV doc pm : Value) (an : Option Addr) (cdv ct : Value) (us : List Value), us.length = ps.length → bindArgs (PySem.W.fnOf m qual (defArgs st) (defBody st) (defScope st) .none kV doc pm an cdv ct) ⟨us, []⟩ = pure (ps.zip us)) : MethAt K C m qual st ps [] := by
  have F : FunD K m qual (defArgs st) (defBody st) (defScope st) [] [] f (PySem.W.fnOf m qual (defArgs st) (defBody st) (defScope st) .none kV doc pm an cdv ct) := ⟨⟨oc, od, .none, kV, doc, pm, an, cdv, ct, osl, rfl, l, q, .inl ⟨rfl, rfl⟩, .inl rfl⟩, kp⟩
  exact ⟨f, _, F, c, ⟨a, i, kp⟩, F.bindsN b, [], .nil, F.bindsN b⟩
/-- a method whose last parameter has a default -/
theorem meth_mkD {f TD : Addr} {oc : Value} {od an : Option Addr} {osl : Array (Option Value)} {kV doc pm cdv ct u : Value} {oT : Obj} {nT : Nat} {v : V} (c : Cls K C) (a : PySem.W.findIn K (.ref C) m = some (some (.ref f))) (i : PySem.W.isFn K (.ref f) = true)
    (l : K.lookup f = some ⟨oc, od, .func (PySem.W.fnOf m qual (defArgs st) (defBody st) (defScope st) (.ref TD) kV doc pm an cdv ct), osl⟩) (q : PySem.W.codeIn K cdv qual = true) (kp : PySem.W.keepIn K (.ref f) = true)
    (lT : K.lookup TD = some oT) (dT : oT.data = .seq #[u] nT) (hv : RelV v u) (n : Nat) (hn : ps.length = n + 1)
    (b1 : ∀ (T : Addr) (kV doc pm : Value) (an : Option Addr) (cdv ct : Value) (us its : List Value), us.length = n + 1 → its.length = 1 →
      ∃ k, bindArgs (PySem.W.fnOf m qual (defArgs st) (defBody st) (defScope st) (.ref T) kV doc pm an cdv ct) ⟨us, []⟩ = seqItems? (.ref T) >>= k ∧ k (some its.toArray) = pure (ps.zip (us ++ its.drop 1)))
    (b2 : ∀ (T : Addr) (kV doc pm : Value) (an : Option Addr) (cdv ct : Value) (us its : List Value), us.length = n → its.length = 1 →
      ∃ k, bindArgs (PySem.W.fnOf m qual (defArgs st) (defBody st) (defScope st) (.ref T) kV doc pm an cdv ct) ⟨us, []⟩ = seqItems? (.ref T) >>= k ∧ k (some its.toArray) = pure (ps.zip (us ++ its.drop 0))) : MethAt K C m qual st ps [v] := by
  have F : FunD K m qual (defArgs st) (defBody st) (defScope st) [v] [] f (PySem.W.fnOf m qual (defArgs st) (defBody st) (defScope st) (.ref TD) kV doc pm an cdv ct) := ⟨⟨oc, od, .ref TD, kV, doc, pm, an, cdv, ct, osl, rfl, l, q, .inr ⟨by simp, TD, oT, [u], nT, rfl, lT, dT, .cons hv .nil⟩, .inl rfl⟩, kp⟩
  obtain ⟨d1, v1, B1⟩ := F.binds1 (ps := ps) (n + 1) 1 (by simp) (by simp [hn]) b1
  obtain ⟨d2, v2, B2⟩ := F.binds1 (ps := ps) n 0 (by simp) (by simp [hn]) b2
  have e1 : d1 = [] := by cases v1; rfl
  subst e1
  exact ⟨f, _, F, c, ⟨a, i, kp⟩, B1, d2, v2, B2⟩
theorem init_mk {f : Addr} {oc : Value} {od an : Option Addr} {osl : Array (Option Value)} {kV doc pm cdv ct : Value} (g : mg x = some (.ref C)) (mk : PySem.W.makesIn K C = true) (kc : PySem.W.keepIn K (.ref C) = true) (a : PySem.W.findIn K (.ref C) "__init__" = some (some (.ref f))) (i : PySem.W.isFn K (.ref f) = true)
    (l : K.lookup f = some ⟨oc, od, .func (PySem.W.fnOf "__init__" qual (defArgs st) (defBody st) (defScope st) .none kV doc pm an cdv ct), osl⟩) (q : PySem.W.codeIn K cdv qual = true) (kp : PySem.W.keepIn K (.ref f) = true)
    (b : ∀ (kV doc pm : Value) (an : Option Addr) (cdv ct : Value) (us : List Value), us.length = ps.length → bindArgs (PySem.W.fnOf "__init__" qual (defArgs st) (defBody st) (defScope st) .none kV doc pm an cdv ct) ⟨us, []⟩ = pure (ps.zip us)) : InitAt K mg C x qual st ps := by
  have F : FunD K "__init__" qual (defArgs st) (defBody st) (defScope st) [] [] f (PySem.W.fnOf "__init__" qual (defArgs st) (defBody st) (defScope st) .none kV doc pm an cdv ct) := ⟨⟨oc, od, .none, kV, doc, pm, an, cdv, ct, osl, rfl, l, q, .inl ⟨rfl, rfl⟩, .inl rfl⟩, kp⟩
  exact ⟨f, _, F, ⟨mk, a, i, kc⟩, g, F.bindsN b⟩
end
section
variable {X : Cx} {k : Nat} {C : Addr} {x m : Str} {ps : List Str} {dv : List V} {sp : Sp} {E : XK} {p pos apos : Pos} {e o : Expr} {es : List Expr} {ta : TE} {t : TA}
theorem pe_mth {pl : Sem Bool} (F : FnM X.prog X.w X.K X.mg X.base k C m ps dv sp) (hr : Room k X.A) (hx : Passes (L2.CX X.prog X.w) X E) (he : PE X o ta) (ha : PA X (e :: es) t)
    (hst : starEach (e :: es) X.env = (false, eval e X.env) :: starEach es X.env := by rfl) (hpl : (backTo pos (starEach es X.env)).any (·.1) = false := by rfl)
    (ht : eval (.Call (.Attribute o m apos) (e :: es) [] pos) X.env = (do
      let ov ← eval o X.env
      standAt apos.atName
      let (f, first) ← holding [ov] (getMethod ov m pl)
      callWith pos f first (backTo pos (starEach (e :: es) X.env)) (backToKw pos (keywordEach [] X.env))) := by rfl) :
    PE X (.Call (.Attribute o m apos) (e :: es) [] pos) (tMeth C m sp [] E ta t) := by
  obtain ⟨f, fd, a, c, me, b, _⟩ := F.ex
  exact pe_meth (pl := pl) he c me a hr b .nil hx ha hst hpl ht
theorem pe_mth0 {pl : Sem Bool} (F : FnM X.prog X.w X.K X.mg X.base k C m ps dv sp) (hr : Room k X.A) (hx : Passes (L2.CX X.prog X.w) X E) (he : PE X o ta)
    (ht : eval (.Call (.Attribute o m apos) [] [] pos) X.env = (do
      let ov ← eval o X.env
      standAt apos.atName
      let (f, first) ← holding [ov] (getMethod ov m pl)
      callWith pos f first (backTo pos (starEach [] X.env)) (backToKw pos (keywordEach [] X.env))) := by rfl) :
    PE X (.Call (.Attribute o m apos) [] [] pos) (tMeth C m sp [] E ta tNil) := by
  obtain ⟨f, fd, a, c, me, b, _⟩ := F.ex
  exact pe_meth0 (pl := pl) he c me a hr b .nil hx ht
/-- the last parameter by its default -/
theorem pe_mthD {pl : Sem Bool} (F : FnM X.prog X.w X.K X.mg X.base k C m ps dv sp) (hr : Room k X.A) (hx : Passes (L2.CX X.prog X.w) X E) (he : PE X o ta) (ha : PA X (e :: es) t)
    (hst : starEach (e :: es) X.env = (false, eval e X.env) :: starEach es X.env := by rfl) (hpl : (backTo pos (starEach es X.env)).any (·.1) = false := by rfl)
    (ht : eval (.Call (.Attribute o m apos) (e :: es) [] pos) X.env = (do
      let ov ← eval o X.env
      standAt apos.atName
      let (f, first) ← holding [ov] (getMethod ov m pl)
      callWith pos f first (backTo pos (starEach (e :: es) X.env)) (backToKw pos (keywordEach [] X.env))) := by rfl) :
    PE X (.Call (.Attribute o m apos) (e :: es) [] pos) (tMeth C m sp dv E ta t) := by
  obtain ⟨f, fd, a, c, me, _, us, v, b⟩ := F.ex
  exact pe_meth (pl := pl) he c me a hr b v hx ha hst hpl ht
theorem pe_mthD0 {pl : Sem Bool} (F : FnM X.prog X.w X.K X.mg X.base k C m ps dv sp) (hr : Room k X.A) (hx : Passes (L2.CX X.prog X.w) X E) (he : PE X o ta)
    (ht : eval (.Call (.Attribute o m apos) [] [] pos) X.env = (do
      let ov ← eval o X.env
      standAt apos.atName
      let (f, first) ← holding [ov] (getMethod ov m pl)
      callWith pos f first (backTo pos (starEach [] X.env)) (backToKw pos (keywordEach [] X.env))) := by rfl) :
    PE X (.Call (.Attribute o m apos) [] [] pos) (tMeth C m sp dv E ta tNil) := by
  obtain ⟨f, fd, a, c, me, _, us, v, b⟩ := F.ex
  exact pe_meth0 (pl := pl) he c me a hr b v hx ht
theorem pe_nw (F : FnI X.prog X.w X.K X.mg X.base k C x ps sp) (hr : Room (k + 1) X.A) (hx : Passes (L2.CX X.prog X.w) X E) (ha : PA X (e :: es) t) (hg : Gl X x := by rfl)
    (hdb : (x == ("__debug__" : Str)) = false := by decide) (he : starEach (e :: es) X.env = (false, eval e X.env) :: starEach es X.env := by rfl) (hpl : (backTo pos (starEach es X.env)).any (·.1) = false := by rfl) :
    PE X (.Call (.Name x p) (e :: es) [] pos) (tMake C sp [] E t) := by
  obtain ⟨f, fd, a, mk, g, b⟩ := F.ex
  exact pe_make mk a hr hg g b .nil hx ha hdb he hpl
theorem pe_nw0 (F : FnI X.prog X.w X.K X.mg X.base k C x ps sp) (hr : Room (k + 1) X.A) (hx : Passes (L2.CX X.prog X.w) X E) (hg : Gl X x := by rfl)
    (hdb : (x == ("__debug__" : Str)) = false := by decide) : PE X (.Call (.Name x p) [] [] pos) (tMake C sp [] E tNil) := by
  obtain ⟨f, fd, a, mk, g, b⟩ := F.ex
  exact pe_make0 mk a hr hg g b .nil hx hdb
end
/-! ### steps -/
section
variable {K : PySem.W.Frag} {H : Hp} {Q : VK} {σ : L2.St} {D : Ends} {a C dx : Addr} {fs : List (Str × V)} {f : Str} {v y : V} {ta tv : TE}
def rFld (K : PySem.W.Frag) (f : Str) : V → Hp → VK → Prop := fun x H1 Q => ∃ a C dx fs v, x = .ref a ∧ H1 a = some (.ins C dx fs) ∧ Cls K C ∧ NoAttr K C f ∧ fs.lookup f = some v ∧ Q v H1
theorem u_fld (k : ta σ H fun x H1 => rFld K f x H1 Q) : tFld K ta f σ H Q := k
theorem s_fld (h : H a = some (.ins C dx fs)) (c : Cls K C) (n : NoAttr K C f) (l : fs.lookup f = some v) (q : Q v H) : rFld K f (.ref a) H Q := ⟨a, C, dx, fs, v, rfl, h, c, n, l, q⟩
def rSFld (K : PySem.W.Frag) (f : Str) (y : V) (D : Ends) (σ : L2.St) : V → Hp → Prop := fun x H2 => ∃ a C dx fs, x = .ref a ∧ H2 a = some (.ins C dx fs) ∧ Cls K C ∧ NoAttr K C f ∧ fs.length < 1000 ∧ D.nx σ (upd H2 a (.ins C dx (putF f y fs)))
theorem u_sfld (k : tv σ H fun y H1 => ta σ H1 fun x H2 => rSFld K f y D σ x H2) : sFld K ta tv f D σ H := k
theorem s_sfld (h : H a = some (.ins C dx fs)) (c : Cls K C) (n : NoAttr K C f) (hl : fs.length < 1000) (q : D.nx σ (upd H a (.ins C dx (putF f y fs)))) : rSFld K f y D σ (.ref a) H := ⟨a, C, dx, fs, rfl, h, c, n, hl, q⟩
def rMeth (C : Addr) (m : Str) (sp : Sp) (dvs : List V) (E : XK) (t : TA) (σ : L2.St) (Q : VK) : V → Hp → Prop := fun x H1 => ∃ a dx fs, x = .ref a ∧ H1 a = some (.ins C dx fs) ∧ fs.lookup m = none ∧ t σ H1 fun vs H2 => sp (x :: (vs ++ dvs)) H2 Q E
theorem u_meth {m : Str} {sp : Sp} {dvs : List V} {E : XK} {t : TA} (k : ta σ H fun x H1 => rMeth C m sp dvs E t σ Q x H1) : tMeth C m sp dvs E ta t σ H Q := k
theorem s_meth {m : Str} {sp : Sp} {E : XK} {t : TA} (h : H a = some (.ins C dx fs)) (l : fs.lookup m = none) (q : t σ H fun vs H2 => sp (.ref a :: vs) H2 Q E) : rMeth C m sp [] E t σ Q (.ref a) H :=
  ⟨a, dx, fs, rfl, h, l, by simpa only [List.append_nil] using q⟩
theorem s_methD {m : Str} {sp : Sp} {E : XK} {t : TA} {d : V} {dvs : List V} (h : H a = some (.ins C dx fs)) (l : fs.lookup m = none) (q : t σ H fun vs H2 => sp (.ref a :: (vs ++ d :: dvs)) H2 Q E) : rMeth C m sp (d :: dvs) E t σ Q (.ref a) H :=
  ⟨a, dx, fs, rfl, h, l, q⟩
theorem u_make {sp : Sp} {E : XK} {t : TA} (k : t σ H fun vs H1 => ∀ x dx, H1 x = none → H1 dx = none → dx ≠ x → sp (.ref x :: vs) (upd (upd H1 dx (.own x)) x (.ins C dx [])) (fun v H2 => v = .non ∧ Q (.ref x) H2) E) : tMake C sp [] E t σ H Q := by
  show t σ H _
  simpa only [List.append_nil] using k
end
/-- a statement that is never reached -/
theorem ps_not {X : Cx} {s : Stmt} : PS X s (fun _ _ _ => False) := ⟨fun _ _ _ _ _ _ h => h.elim⟩
/-- what a callee lets out is let out -/
theorem passE {X : Cx} {E : XK} (tk : Takes X (fun cls d _ H => E cls d H)) : Passes (L2.CX X.prog X.w) X E := fun pins σ H s e s' I c => passAt tk σ pins H s e s' I c
/-- an exception's class of the program's own, without an __init__ -/
structure ExcAt (K : PySem.W.Frag) (mg : Str → Option Value) (x : Str) (C : Addr) : Prop where
  xc : PySem.W.excIn K C [.type "ValueError", .type "Exception", .type "BaseException", .type "object"] "ValueError.__new__" = true
  g : mg x = some (.ref C)
  kp : PySem.W.keepIn K (.ref C) = true
  sb : PySem.W.subIn K (.ref C) (.type "BaseException") = some true
  ty : PySem.W.typeIn K (.ref C) = some (.type "type")
theorem ps_rs {X : Cx} {W : WX} {x m : Str} {C : Addr} {j : Nat} {p p2 pos pos2 : Pos} (T : ExcAt X.K X.mg x C) (hc : X.calm = true) (tk : Takes X W) (hg : Gl X x := by rfl) (hdb : (x == ("__debug__" : Str)) = false := by decide) :
    PS X (.Raise (some (.Call (.Name x p) [.Constant (.str m) j p2] [] pos)) none pos2) (fun _ σ H => W (.ref C) none σ H) :=
  ps_raise hc tk (pmk_own PySem.F.excBase_ValueError T.xc T.g T.kp (raises_own T.sb T.ty) hg hdb)
end Ah
set_option Elab.async false
set_option linter.all false
set_option maxRecDepth 100000
set_option maxHeartbeats 4000000
/-! dicts with texts as keys -/
namespace Ah
open PySem PySem.Spec PyProof.Rows L2 TL
/-- at d stands a dict: its keys ks in their order, val tells its values -/
structure TD (H : Hp) (d : Addr) (val : Str → Option V) (ks : List Str) : Prop where
  ex : ∃ kvs : List (Key × V), H d = some (.dK kvs) ∧ kvs.map (·.1) = ks.map Sum.inr ∧ ks.Nodup ∧ ∀ w, valV kvs (Sum.inr w) = val w
def setv (val : Str → Option V) (w : Str) (v : V) : Str → Option V := fun x => if x = w then some v else val x
def delv (val : Str → Option V) (w : Str) : Str → Option V := fun x => if x = w then none else val x
def addK (ks : List Str) (w : Str) : List Str := if w ∈ ks then ks else ks ++ [w]
def remK (ks : List Str) (w : Str) : List Str := ks.filter fun k => decide (k ≠ w)
theorem addK_len (ks : List Str) (w : Str) : (addK ks w).length ≤ ks.length + 1 := by
  unfold addK; split <;> simp
theorem remK_len (ks : List Str) (w : Str) : (remK ks w).length ≤ ks.length := List.length_filter_le _ _
theorem mem_addK {ks : List Str} {w x : Str} : x ∈ addK ks w ↔ x ∈ ks ∨ x = w := by
  unfold addK
  split
  · rename_i h
    constructor
    · exact .inl
    · rintro (h1 | rfl)
      · exact h1
      · exact h
  · simp
theorem mem_remK {ks : List Str} {w x : Str} : x ∈ remK ks w ↔ x ∈ ks ∧ x ≠ w := by
  unfold remK
  rw [List.mem_filter, decide_eq_true_eq]
section
variable {κ : Type} [DecidableEq κ]
theorem valV_drop (k j : κ) : ∀ kvs : List (κ × V), valV (dropK kvs k) j = if j = k then none else valV kvs j
  | [] => by unfold dropK; simp [valV_nil]
  | p :: r => by
    have ih := valV_drop k j r
    by_cases e : p.1 = k
    · rw [dropK_pos e, ih]
      by_cases c : j = k
      · rw [if_pos c, if_pos c]
      · rw [if_neg c, if_neg c, valV_neg (by rw [e]; exact fun z => c z.symm)]
    · rw [dropK_neg e]
      by_cases c : p.1 = j
      · rw [valV_pos c, if_neg (by rw [← c]; exact e), valV_pos c]
      · rw [valV_neg c, ih, valV_neg c]
theorem keys_put (kvs : List (κ × V)) (k : κ) (v : V) : (putK kvs k v).map (·.1) = if k ∈ kvs.map (·.1) then kvs.map (·.1) else kvs.map (·.1) ++ [k] := by
  have h : (kvs.any fun kv => decide (kv.1 = k)) = true ↔ k ∈ kvs.map (·.1) := by
    rw [List.any_eq_true, List.mem_map]
    constructor
    · rintro ⟨p, hp, e⟩; exact ⟨p, hp, of_decide_eq_true e⟩
    · rintro ⟨p, hp, e⟩; exact ⟨p, hp, decide_eq_true e⟩
  unfold putK
  by_cases c : k ∈ kvs.map (·.1)
  · rw [if_pos (h.mpr c), if_pos c, List.map_map]
    apply List.map_congr_left
    intro p _
    show (if p.1 = k then (p.1, v) else p).1 = p.1
    split <;> rfl
  · rw [if_neg (fun z => c (h.mp z)), if_neg c, List.map_append]; rfl
theorem keys_drop (kvs : List (κ × V)) (k : κ) : (dropK kvs k).map (·.1) = (kvs.map (·.1)).filter fun j => decide (j ≠ k) := by
  unfold dropK
  rw [List.filter_map]; rfl
end
section
variable {H H' : Hp} {Q : VK} {σ : L2.St} {D : Ends} {d : Addr} {val : Str → Option V} {ks : List Str} {w : Str} {v : V}
theorem TD.keep (h : TD H d val ks) (e : H' d = H d) : TD H' d val ks := by
  obtain ⟨kvs, h1, r⟩ := h.ex
  exact ⟨kvs, e.trans h1, r⟩
theorem TD.there (h : TD H d val ks) : ∃ kvs, H d = some (.dK kvs) := by
  obtain ⟨kvs, h1, _⟩ := h.ex
  exact ⟨kvs, h1⟩
theorem TD.same (h : TD H d val ks) (s : Same H H') : TD H' d val ks := by
  obtain ⟨kvs, h1, r⟩ := h.ex
  exact ⟨kvs, s _ _ h1, r⟩
theorem TD.mem (h : TD H d val ks) : w ∈ ks ↔ (val w).isSome = true := by
  obtain ⟨kvs, h1, h2, h3, h4⟩ := h.ex
  rw [← h4 w, ← valV_any]
  have e : w ∈ ks ↔ (Sum.inr w : Key) ∈ kvs.map (·.1) := by
    rw [h2, List.mem_map]
    constructor
    · intro m; exact ⟨w, m, rfl⟩
    · rintro ⟨x, m, e⟩; injection e with e; subst e; exact m
  rw [e, List.any_eq_true, List.mem_map]
  constructor
  · rintro ⟨p, hp, e⟩; exact ⟨p, hp, decide_eq_true e⟩
  · rintro ⟨p, hp, e⟩; exact ⟨p, hp, of_decide_eq_true e⟩
theorem TD.nd (h : TD H d val ks) : ks.Nodup := by
  obtain ⟨kvs, h1, h2, h3, h4⟩ := h.ex
  exact h3
theorem TD.get (h : TD H d val ks) (w : Str) : DGet H d (.str w) (val w) := by
  obtain ⟨kvs, h1, h2, h3, h4⟩ := h.ex
  have := DGet.k (k := Sum.inr w) h1
  rw [h4] at this
  exact this
theorem TD.put (h : TD H d val ks) (w : Str) (v : V) (hl : ks.length < 10000000) : ∃ o, DPut H d (.str w) v (upd H d o) ∧ TD (upd H d o) d (setv val w v) (addK ks w) := by
  obtain ⟨kvs, h1, h2, h3, h4⟩ := h.ex
  have hlen : kvs.length = ks.length := by
    have := congrArg List.length h2
    rwa [List.length_map, List.length_map] at this
  refine ⟨_, DPut.k (k := Sum.inr w) h1 (by rw [hlen, sizeLine_eq]; omega), ⟨_, upd_same, ?_, ?_, fun x => ?_⟩⟩
  · rw [keys_put, h2]
    have e : ((Sum.inr w : Key) ∈ ks.map Sum.inr) ↔ w ∈ ks := by simp
    unfold addK
    by_cases c : w ∈ ks
    · rw [if_pos (e.mpr c), if_pos c]
    · rw [if_neg (fun z => c (e.mp z)), if_neg c, List.map_append]; rfl
  · unfold addK
    by_cases c : w ∈ ks
    · rw [if_pos c]; exact h3
    · rw [if_neg c]; exact nd_snoc h3 c
  · rw [valV_put, h4]
    unfold setv
    by_cases c : x = w
    · rw [if_pos c, if_pos (by rw [c])]
    · rw [if_neg c, if_neg (by simpa using c)]
theorem TD.drop (h : TD H d val ks) (w : Str) : ∃ kvs, H d = some (.dK kvs) ∧ valV kvs (Sum.inr w) = val w ∧ TD (upd H d (.dK (dropK kvs (Sum.inr w)))) d (delv val w) (remK ks w) := by
  obtain ⟨kvs, h1, h2, h3, h4⟩ := h.ex
  refine ⟨kvs, h1, h4 w, ⟨_, upd_same, ?_, h3.filter _, fun x => ?_⟩⟩
  · rw [keys_drop, h2]
    unfold remK
    rw [List.filter_map]
    congr 1
    apply List.filter_congr
    intro x _
    simp
  · rw [valV_drop, h4]
    unfold delv
    by_cases c : x = w
    · rw [if_pos c, if_pos (by rw [c])]
    · rw [if_neg c, if_neg (by simpa using c)]
theorem TD.new {p : Addr} : TD (upd H p (.dK [])) p (fun _ => none) [] := ⟨[], upd_same, rfl, .nil, fun _ => rfl⟩
theorem TD.len (h : TD H d val ks) : ∃ kvs, H d = some (.dK kvs) ∧ kvs.length = ks.length := by
  obtain ⟨kvs, h1, h2, h3, h4⟩ := h.ex
  refine ⟨kvs, h1, ?_⟩
  have := congrArg List.length h2
  rwa [List.length_map, List.length_map] at this
/-! ### steps -/
def rDIn : V → V → Hp → VK → Prop := fun y x H2 Q => ∃ a o, x = .ref a ∧ DGet H2 a y o ∧ Q (.bl o.isSome) H2
def rDNotIn : V → V → Hp → VK → Prop := fun y x H2 Q => ∃ a o, x = .ref a ∧ DGet H2 a y o ∧ Q (.bl (!o.isSome)) H2
def rDGet : V → V → Hp → VK → Prop := fun x y H2 Q => ∃ a v, x = .ref a ∧ DGet H2 a y (some v) ∧ Q v H2
def rDPut (v : V) (D : Ends) (σ : L2.St) : V → V → Hp → Prop := fun x y H3 => ∃ a H4, x = .ref a ∧ DPut H3 a y v H4 ∧ D.nx σ H4
theorem u_din {ty td : TE} (k : ty σ H fun y H1 => td σ H1 fun x H2 => rDIn y x H2 Q) : tDIn ty td σ H Q := k
theorem u_dnotin {ty td : TE} (k : ty σ H fun y H1 => td σ H1 fun x H2 => rDNotIn y x H2 Q) : tDNotIn ty td σ H Q := k
theorem u_dget {ty td : TE} (k : td σ H fun x H1 => ty σ H1 fun y H2 => rDGet x y H2 Q) : tDGet td ty σ H Q := k
theorem u_dput {ty td tv : TE} (k : tv σ H fun v H1 => td σ H1 fun x H2 => ty σ H2 fun y H3 => rDPut v D σ x y H3) : sDPut td ty tv D σ H := k
theorem u_dnew (k : ∀ p, H p = none → Q (.ref p) (upd H p (.dK []))) : tDNewK σ H Q := k
theorem s_din (h : TD H d val ks) (q : Q (.bl (val w).isSome) H) : rDIn (.str w) (.ref d) H Q := ⟨d, _, rfl, h.get w, q⟩
theorem s_dnotin (h : TD H d val ks) (q : Q (.bl (!(val w).isSome)) H) : rDNotIn (.str w) (.ref d) H Q := ⟨d, _, rfl, h.get w, q⟩
theorem s_dget (h : TD H d val ks) (e : val w = some v) (q : Q v H) : rDGet (.ref d) (.str w) H Q := ⟨d, v, rfl, e ▸ h.get w, q⟩
theorem s_dput (h : TD H d val ks) (hl : ks.length < 10000000) (q : ∀ o, TD (upd H d o) d (setv val w v) (addK ks w) → D.nx σ (upd H d o)) : rDPut v D σ (.ref d) (.str w) H := by
  obtain ⟨o, h1, h2⟩ := h.put w v hl
  exact ⟨d, _, rfl, h1, q o h2⟩
def rPop1 (ty : TE) (σ : L2.St) : V → Hp → VK → Prop := fun x H1 Q => ∃ a, x = .ref a ∧ IsD H1 a ∧ ty σ H1 fun y H2 => ∃ kvs k v, H2 a = some (.dK kvs) ∧ y = kV k ∧ valV kvs k = some v ∧ Q v (upd H2 a (.dK (dropK kvs k)))
theorem u_dpop1 {ty td : TE} (k : td σ H fun x H1 => rPop1 ty σ x H1 Q) : tDPop1 td ty σ H Q := k
/-- d.pop(w), w there -/
theorem s_dpop1 {ty : TE} (h : TD H d val ks) (ev : val w = some v) (k : ∀ R : VK, R (.str w) H → ty σ H R) (q : ∀ o, TD (upd H d o) d (delv val w) (remK ks w) → Q v (upd H d o)) : rPop1 ty σ (.ref d) H Q := by
  obtain ⟨kvs, h1, h2, h3⟩ := h.drop w
  exact ⟨d, rfl, .inl ⟨kvs, .inl h1⟩, k _ ⟨kvs, Sum.inr w, v, h1, rfl, h2.trans ev, q _ h3⟩⟩
def rPop2 (ty tx : TE) (σ : L2.St) : V → Hp → VK → Prop := fun x H1 Q => ∃ a, x = .ref a ∧ IsD H1 a ∧ ty σ H1 fun y H2 => tx σ H2 fun z H3 => ∃ kvs k, H3 a = some (.dK kvs) ∧ y = kV k ∧
  (∀ v, valV kvs k = some v → Q v (upd H3 a (.dK (dropK kvs k)))) ∧ (valV kvs k = none → Q z H3)
theorem u_dpop2 {ty td tx : TE} (k : td σ H fun x H1 => rPop2 ty tx σ x H1 Q) : tDPop2 td ty tx σ H Q := k
/-- d.pop(w, z), w there or not -/
theorem s_dpop2 {ty tx : TE} {z : V} (h : TD H d val ks) (k : ∀ R : VK, R (.str w) H → ty σ H R) (k2 : ∀ R : VK, R z H → tx σ H R)
    (q : ∀ v H', (H' = H ∨ ∃ o, H' = upd H d o) → TD H' d (delv val w) (remK ks w) → Q v H') : rPop2 ty tx σ (.ref d) H Q := by
  obtain ⟨kvs, h1, h2, h3⟩ := h.drop w
  refine ⟨d, rfl, .inl ⟨kvs, .inl h1⟩, k _ (k2 _ ⟨kvs, Sum.inr w, h1, rfl, fun v _ => q v _ (.inr ⟨_, rfl⟩) h3, fun e => q z H (.inl rfl) ?_⟩)⟩
  rw [h2] at e
  have hm : w ∉ ks := fun m => by
    have := h.mem.mp m
    rw [e] at this; cases this
  have e1 : delv val w = val := by
    funext x
    unfold delv
    split
    · rename_i c; rw [c, e]
    · rfl
  have e2 : remK ks w = ks := List.filter_eq_self.mpr fun x hx => decide_eq_true fun c => hm (c ▸ hx)
  rw [e1, e2]; exact h
/-- sorted(d) -/
theorem s_sortD (h : TD H d val ks) (q : ∀ p, H p = none → Q (.ref p) (upd H p (.lst ((ks.mergeSort (PySem.W.dataLe false PyData.str)).map V.str)))) : rSortDict [.ref d] H Q := by
  obtain ⟨kvs, h1, h2, h3, h4⟩ := h.ex
  exact ⟨d, kvs, ks, rfl, .inl h1, h2, q⟩
end
end Ah
set_option Elab.async false
set_option linter.all false
set_option maxRecDepth 100000
set_option maxHeartbeats 4000000
/-! woods -/
namespace Ah
open PySem PySem.Spec PyProof.Rows L2 TL
abbrev MarkM := Str → Option (Int × Int)
def setm (A : MarkM) (w : Str) (m : Int × Int) : MarkM := fun x => if x = w then some m else A x
def delm (A : MarkM) (w : Str) : MarkM := fun x => if x = w then none else A x
/-- the values are marks: tuples that stand in the heap -/
def MV (H : Hp) (val : Str → Option V) (A : MarkM) : Prop := ∀ w, (A w = none ∧ val w = none) ∨ ∃ (m : Int × Int) (t : Addr), A w = some m ∧ val w = some (.ref t) ∧ H t = some (.tup [.int m.1, .int m.2])
def wn (m : Int × Int) (n : Int) : Int := worth m.1 m.2 n
section
variable {H H' : Hp} {val : Str → Option V} {A B : MarkM} {w x : Str} {m : Int × Int} {n n' : Int}
theorem MV.mono (h : MV H val A) (k : ∀ t zs, H t = some (.tup zs) → H' t = some (.tup zs)) : MV H' val A := fun w => by
  rcases h w with h | ⟨m, t, h1, h2, h3⟩
  · exact .inl h
  · exact .inr ⟨m, t, h1, h2, k _ _ h3⟩
theorem MV.none_iff (h : MV H val A) : (val w).isSome = (A w).isSome := by
  rcases h w with ⟨h1, h2⟩ | ⟨m, t, h1, h2, h3⟩
  · rw [h1, h2]; rfl
  · rw [h1, h2]; rfl
theorem MV.some (h : MV H val A) (e : A w = some m) : ∃ t, val w = some (.ref t) ∧ H t = some (.tup [.int m.1, .int m.2]) := by
  rcases h w with ⟨h1, _⟩ | ⟨m', t, h1, h2, h3⟩
  · rw [h1] at e; cases e
  · rw [h1] at e; cases e
    exact ⟨t, h2, h3⟩
theorem MV.set (h : MV H val A) {t : Addr} (e : H t = Option.some (.tup [.int m.1, .int m.2])) : MV H (setv val w (.ref t)) (setm A w m) := fun x => by
  unfold setv setm
  by_cases c : x = w
  · rw [if_pos c, if_pos c]; exact .inr ⟨m, t, rfl, rfl, e⟩
  · rw [if_neg c, if_neg c]; exact h x
theorem MV.del (h : MV H val A) : MV H (delv val w) (delm A w) := fun x => by
  unfold delv delm
  by_cases c : x = w
  · rw [if_pos c, if_pos c]; exact .inl ⟨rfl, rfl⟩
  · rw [if_neg c, if_neg c]; exact h x
/-! ### tops -/
/-- the top at x is right: there where a word begins so, worth what the best of them is -/
def TopAt (A B : MarkM) (n : Int) (x : Str) : Prop := (B x = none ∧ ∀ w, A w ≠ none → ¬ tl x <+: tl w) ∨
  ∃ m, B x = some m ∧ 0 ≤ m.1 ∧ m.2 ≤ n ∧ (∃ w a, A w = some a ∧ tl x <+: tl w ∧ wn a n = wn m n) ∧ ∀ w a, A w = some a → tl x <+: tl w → wn a n ≤ wn m n
/-- the marks are words' -/
def MarksOk (A : MarkM) (n : Int) : Prop := ∀ w m, A w = some m → isW w = true ∧ 0 ≤ m.1 ∧ m.2 ≤ n
theorem wn_later (h1 : m.2 ≤ n) (h2 : n ≤ n') : wn m n' = worth (wn m n) n n' := (worth_worth h1 h2).symm
theorem TopAt.later (h : TopAt A B n x) (ok : MarksOk A n) (l : n ≤ n') : TopAt A B n' x := by
  rcases h with h | ⟨m, h1, h2, h3, ⟨w, a, h4, h5, h6⟩, h7⟩
  · exact .inl h
  · refine .inr ⟨m, h1, h2, by omega, ⟨w, a, h4, h5, ?_⟩, fun w' a' e p => ?_⟩
    · rw [wn_later (ok w a h4).2.2 l, wn_later h3 l, h6]
    · rw [wn_later (ok w' a' e).2.2 l, wn_later h3 l]
      exact worth_mono (h7 w' a' e p)
theorem MarksOk.later (ok : MarksOk A n) (l : n ≤ n') : MarksOk A n' := fun w m e => ⟨(ok w m e).1, (ok w m e).2.1, by have := (ok w m e).2.2; omega⟩
theorem TopAt.other (h : TopAt A B n x) {B' : MarkM} (e : B' x = B x) : TopAt A B' n x := by
  unfold TopAt at h ⊢
  rw [e]; exact h
/-- words behind x are the same -/
theorem TopAt.marks (h : TopAt A B n x) {A' : MarkM} (e : ∀ w, tl x <+: tl w → A' w = A w) : TopAt A' B n x := by
  rcases h with ⟨h, g⟩ | ⟨m, h1, h2, h3, ⟨w, a, h4, h5, h6⟩, h7⟩
  · refine .inl ⟨h, fun w hw p => ?_⟩
    rw [e w p] at hw
    exact g w hw p
  · refine .inr ⟨m, h1, h2, h3, ⟨w, a, by rw [e w h5]; exact h4, h5, h6⟩, fun w' a' e' p => ?_⟩
    rw [e w' p] at e'
    exact h7 w' a' e' p
def signsL : List Nat := 32 :: (List.range 26).map (· + 97)
theorem mem_signs {c : Nat} (h : low c = true ∨ c = 32) : c ∈ signsL := by
  unfold signsL
  rcases h with h | h
  · unfold low at h
    simp only [Bool.and_eq_true, decide_eq_true_eq] at h
    refine List.mem_cons.mpr (.inr (List.mem_map.mpr ⟨c - 97, List.mem_range.mpr (by omega), by omega⟩))
  · exact List.mem_cons.mpr (.inl h)
theorem tl_snoc (x : Str) (c : Nat) : tl (x ++ sgn c) = tl x ++ [c] := by rw [tl_append]; rfl
/-- what stands behind x: x itself, or behind a longer one -/
theorem behind_one {w : Str} (p : tl x <+: tl w) (hw : isW w = true) : w = x ∨ ∃ c ∈ signsL, tl (x ++ sgn c) <+: tl w := by
  obtain ⟨r, e⟩ := p
  cases r with
  | nil => exact .inl (tl_inj (by rw [← e]; simp))
  | cons c r =>
    refine .inr ⟨c, mem_signs (wordL_signs hw c (by rw [← e]; simp)), r, ?_⟩
    rw [tl_snoc, ← e]; simp
/-- a top renewed from the ones behind it -/
theorem top_new {bs : List (Int × Int)} (ok : MarksOk A n) (hc : ∀ c ∈ signsL, TopAt A B n (x ++ sgn c)) (hb : ∀ m, m ∈ bs ↔ ((∃ c ∈ signsL, B (x ++ sgn c) = some m) ∨ A x = some m)) :
    (bs = [] → TopAt A (delm B x) n x) ∧ ∀ g, (∃ m ∈ bs, g = wn m n) → (∀ m ∈ bs, wn m n ≤ g) → TopAt A (setm B x (g, n)) n x := by
  have up : ∀ w a, A w = some a → tl x <+: tl w → ∃ m ∈ bs, wn a n ≤ wn m n := fun w a e p => by
    rcases behind_one p (ok w a e).1 with rfl | ⟨c, hcm, pc⟩
    · exact ⟨a, (hb a).mpr (.inr e), Int.le_refl _⟩
    · rcases hc c hcm with ⟨_, g⟩ | ⟨m, h1, _, _, _, h7⟩
      · exact absurd pc (g w (by rw [e]; simp))
      · exact ⟨m, (hb m).mpr (.inl ⟨c, hcm, h1⟩), h7 w a e pc⟩
  have dn : ∀ m ∈ bs, ∃ w a, A w = some a ∧ tl x <+: tl w ∧ wn a n = wn m n ∧ 0 ≤ m.1 ∧ m.2 ≤ n := fun m hm => by
    rcases (hb m).mp hm with ⟨c, hcm, h⟩ | h
    · rcases hc c hcm with ⟨h', _⟩ | ⟨m', h1, h2, h3, ⟨w, a, h4, h5, h6⟩, _⟩
      · rw [h'] at h; cases h
      · rw [h1] at h; cases h
        refine ⟨w, a, h4, ?_, h6, h2, h3⟩
        rw [tl_snoc] at h5
        exact List.IsPrefix.trans ⟨[c], rfl⟩ h5
    · exact ⟨x, m, h, List.prefix_refl _, rfl, (ok x m h).2⟩
  refine ⟨fun e => .inl ⟨by unfold delm; rw [if_pos rfl], fun w hw p => ?_⟩, fun g ⟨m, hm, hg⟩ hge => ?_⟩
  · cases ea : A w with
    | none => exact hw ea
    | some a =>
      obtain ⟨m, hm, _⟩ := up w a ea p
      rw [e] at hm; cases hm
  · obtain ⟨w, a, h4, h5, h6, h7, h8⟩ := dn m hm
    have g0 : 0 ≤ g := by rw [hg]; exact worth_nonneg h7
    have gn : wn (g, n) n = g := worth_at_begin (Int.le_refl _)
    refine .inr ⟨(g, n), by unfold setm; rw [if_pos rfl], g0, Int.le_refl _, ⟨w, a, h4, h5, by rw [gn, h6, hg]⟩, fun w' a' e p => ?_⟩
    obtain ⟨m', hm', hle⟩ := up w' a' e p
    rw [gn]
    exact Int.le_trans hle (hge m' hm')
theorem MarksOk.set (ok : MarksOk A n) (hw : isW w = true) (h0 : 0 ≤ m.1) (h1 : m.2 ≤ n) : MarksOk (setm A w m) n := fun y a e => by
  unfold setm at e
  by_cases c : y = w
  · rw [if_pos c] at e; cases e; subst c; exact ⟨hw, h0, h1⟩
  · rw [if_neg c] at e; exact ok y a e
theorem MarksOk.del (ok : MarksOk A n) : MarksOk (delm A w) n := fun y a e => by
  unfold delm at e
  by_cases c : y = w
  · rw [if_pos c] at e; cases e
  · rw [if_neg c] at e; exact ok y a e
end
/-! ### the wood in the heap -/
theorem ne_mt : ¬ (("marks" : Str) = "tops") := by decide +kernel
theorem ne_mn : ¬ (("marks" : Str) = "now") := by decide +kernel
theorem ne_tn : ¬ (("tops" : Str) = "now") := by decide +kernel
def woodF (m t : Addr) (n : Int) : List (Str × V) := putF "now" (.int n) (putF "tops" (.ref t) (putF "marks" (.ref m) []))
section
variable {m t : Addr} {n y : Int}
theorem wf_marks : (woodF m t n).lookup ("marks" : Str) = some (.ref m) := by
  unfold woodF
  rw [lookup_putF, if_neg ne_mn, lookup_putF, if_neg ne_mt, lookup_putF, if_pos rfl]
theorem wf_tops : (woodF m t n).lookup ("tops" : Str) = some (.ref t) := by
  unfold woodF
  rw [lookup_putF, if_neg ne_tn, lookup_putF, if_pos rfl]
theorem wf_now : (woodF m t n).lookup ("now" : Str) = some (.int n) := by
  unfold woodF
  rw [lookup_putF, if_pos rfl]
theorem wf_no {f : Str} (h1 : ¬ f = ("marks" : Str)) (h2 : ¬ f = ("tops" : Str)) (h3 : ¬ f = ("now" : Str)) : (woodF m t n).lookup f = none := by
  unfold woodF
  rw [lookup_putF, if_neg h3, lookup_putF, if_neg h2, lookup_putF, if_neg h1]; rfl
theorem wf_eq : woodF m t n = ([("marks", V.ref m), ("tops", V.ref t), ("now", V.int n)] : List (Str × V)) := by
  unfold woodF
  show putF "now" (.int n) (if ("marks" : Str) = "tops" then _ else (("marks" : Str), V.ref m) :: putF "tops" (.ref t) []) = _
  rw [if_neg ne_mt]
  show (if ("marks" : Str) = "now" then _ else (("marks" : Str), V.ref m) :: (if ("tops" : Str) = "now" then _ else (("tops" : Str), V.ref t) :: putF "now" (.int n) [])) = _
  rw [if_neg ne_mn, if_neg ne_tn]; rfl
theorem wf_len : (woodF m t n).length < 1000 := by rw [wf_eq]; show 3 < 1000; decide
theorem wf_put : putF "now" (.int y) (woodF m t n) = woodF m t y := by
  rw [wf_eq, wf_eq]
  show (if ("marks" : Str) = "now" then _ else (("marks" : Str), V.ref m) :: (if ("tops" : Str) = "now" then _ else (("tops" : Str), V.ref t) :: (if ("now" : Str) = "now" then [(("now" : Str), V.int y)] else _))) = _
  rw [if_neg ne_mn, if_neg ne_tn, if_pos rfl]
end
/-- a wood, its tops left aside -/
structure WoodP (C : Addr) (H : Hp) (p dm dt : Addr) (A : MarkM) (ks : List Str) (B : MarkM) (n : Int) (N : Nat) : Prop where
  ob : ∃ dx, H p = some (.ins C dx (woodF dm dt n))
  ma : ∃ val, TD H dm val ks ∧ MV H val A
  tp : ∃ val ks', TD H dt val ks' ∧ ks'.length ≤ N ∧ MV H val B
  kl : ks.length ≤ N
  ne : dm ≠ dt
  ok : MarksOk A n
/-- a wood at p: its marks A (keys in the order ks), tops B, era n; at most N keys -/
structure WoodAt (C : Addr) (H : Hp) (p dm dt : Addr) (A : MarkM) (ks : List Str) (B : MarkM) (n : Int) (N : Nat) : Prop extends WoodP C H p dm dt A ks B n N where
  top : ∀ x, TopAt A B n x
/-- all but the wood's own three stays -/
def Off (p dm dt : Addr) (H H' : Hp) : Prop := ∀ a o, a ≠ p → a ≠ dm → a ≠ dt → H a = some o → H' a = some o
section
variable {C p dm dt b : Addr} {H H' H2 : Hp} {A B : MarkM} {ks : List Str} {n : Int} {N M : Nat}
theorem WoodP.keep (h : WoodP C H p dm dt A ks B n N) (hp : H' p = H p) (hm : H' dm = H dm) (ht : H' dt = H dt) (k : ∀ t zs, H t = some (.tup zs) → H' t = some (.tup zs)) : WoodP C H' p dm dt A ks B n N := by
  obtain ⟨⟨dx, h1⟩, ⟨v, h2, h3⟩, ⟨v2, ks', h4, h5, h6⟩, h7, h8, h9⟩ := h
  exact ⟨⟨dx, hp.trans h1⟩, ⟨v, h2.keep hm, h3.mono k⟩, ⟨v2, ks', h4.keep ht, h5, h6.mono k⟩, h7, h8, h9⟩
theorem WoodP.same (h : WoodP C H p dm dt A ks B n N) (s : Same H H') : WoodP C H' p dm dt A ks B n N := by
  obtain ⟨⟨dx, h1⟩, ⟨v, h2, h3⟩, ⟨v2, ks', h4, h5, h6⟩, h7, h8, h9⟩ := h
  exact ⟨⟨dx, s _ _ h1⟩, ⟨v, h2.same s, h3.mono fun _ _ e => s _ _ e⟩, ⟨v2, ks', h4.same s, h5, h6.mono fun _ _ e => s _ _ e⟩, h7, h8, h9⟩
theorem WoodAt.same (h : WoodAt C H p dm dt A ks B n N) (s : Same H H') : WoodAt C H' p dm dt A ks B n N := ⟨h.toWoodP.same s, h.top⟩
theorem WoodAt.keep (h : WoodAt C H p dm dt A ks B n N) (hp : H' p = H p) (hm : H' dm = H dm) (ht : H' dt = H dt) (k : ∀ t zs, H t = some (.tup zs) → H' t = some (.tup zs)) : WoodAt C H' p dm dt A ks B n N := ⟨h.toWoodP.keep hp hm ht k, h.top⟩
theorem WoodP.mono (h : WoodP C H p dm dt A ks B n N) (l : N ≤ M) : WoodP C H p dm dt A ks B n M := by
  obtain ⟨h1, h2, ⟨v2, ks', h4, h5, h6⟩, h7, h8, h9⟩ := h
  exact ⟨h1, h2, ⟨v2, ks', h4, by omega, h6⟩, by omega, h8, h9⟩
theorem WoodAt.mono (h : WoodAt C H p dm dt A ks B n N) (l : N ≤ M) : WoodAt C H p dm dt A ks B n M := ⟨h.toWoodP.mono l, h.top⟩
theorem WoodP.pm (h : WoodP C H p dm dt A ks B n N) : p ≠ dm := by
  obtain ⟨dx, h1⟩ := h.ob
  obtain ⟨v, h2, _⟩ := h.ma
  obtain ⟨kvs, h2⟩ := h2.there
  rintro rfl
  rw [h1] at h2; cases h2
theorem WoodP.pt (h : WoodP C H p dm dt A ks B n N) : p ≠ dt := by
  obtain ⟨dx, h1⟩ := h.ob
  obtain ⟨v, ks', h2, _⟩ := h.tp
  obtain ⟨kvs, h2⟩ := h2.there
  rintro rfl
  rw [h1] at h2; cases h2
/-- a box of draws changes -/
theorem WoodAt.but (h : WoodAt C H p dm dt A ks B n N) (s : But b H H') (hb : BoxAt H b) : WoodAt C H' p dm dt A ks B n N := by
  obtain ⟨⟨⟨dx, h1⟩, ⟨v, h2, h3⟩, ⟨v2, ks', h4, h5, h6⟩, h7, h8, h9⟩, h10⟩ := h
  obtain ⟨_, _, _, _, e⟩ := hb
  obtain ⟨kv1, g1⟩ := h2.there
  obtain ⟨kv2, g2⟩ := h4.there
  have n1 : p ≠ b := by rintro rfl; rw [e] at h1; cases h1
  have n2 : dm ≠ b := by rintro rfl; rw [e] at g1; cases g1
  have n3 : dt ≠ b := by rintro rfl; rw [e] at g2; cases g2
  have k : ∀ t zs, H t = some (.tup zs) → H' t = some (.tup zs) := fun t zs e2 => s _ _ (by rintro rfl; rw [e] at e2; cases e2) e2
  exact ⟨⟨⟨dx, s _ _ n1 h1⟩, ⟨v, h2.keep ((s _ _ n2 g1).trans g1.symm), h3.mono k⟩, ⟨v2, ks', h4.keep ((s _ _ n3 g2).trans g2.symm), h5, h6.mono k⟩, h7, h8, h9⟩, h10⟩
theorem Off.trans (x : Off p dm dt H H') (y : Off p dm dt H' H2) : Off p dm dt H H2 := fun a o h1 h2 h3 e => y a o h1 h2 h3 (x a o h1 h2 h3 e)
theorem Off.of (s : Same H H') : Off p dm dt H H' := fun a o _ _ _ e => s a o e
/-- the era goes on -/
theorem WoodAt.later {t : Int} (h : WoodAt C H p dm dt A ks B n N) (ht : 0 ≤ t) {dx : Addr} (e : H' p = some (.ins C dx (woodF dm dt (n + t)))) (k : ∀ a o, a ≠ p → H a = some o → H' a = some o) : WoodAt C H' p dm dt A ks B (n + t) N := by
  have pm := h.toWoodP.pm
  have pt := h.toWoodP.pt
  obtain ⟨⟨⟨dy, h1⟩, ⟨v, h2, h3⟩, ⟨v2, ks', h4, h5, h6⟩, h7, h8, h9⟩, h10⟩ := h
  obtain ⟨kv1, g1⟩ := h2.there
  obtain ⟨kv2, g2⟩ := h4.there
  have kt : ∀ t zs, H t = some (.tup zs) → H' t = some (.tup zs) := fun t zs e2 => k _ _ (by rintro rfl; rw [h1] at e2; cases e2) e2
  exact ⟨⟨⟨dx, e⟩, ⟨v, h2.keep ((k _ _ pm.symm g1).trans g1.symm), h3.mono kt⟩, ⟨v2, ks', h4.keep ((k _ _ pt.symm g2).trans g2.symm), h5, h6.mono kt⟩, h7, h8, h9.later (by omega)⟩, fun x => (h10 x).later h9 (by omega)⟩
end
/-! ### promises -/
def spWInit (C : Addr) : Sp := fun vs H Q _ => ∃ (p dx : Addr), vs = [.ref p] ∧ H p = some (.ins C dx []) ∧
  ∀ (dm dt : Addr) (H' : Hp), WoodAt C H' p dm dt (fun _ => none) [] (fun _ => none) 0 0 → H dm = none → H dt = none → (∀ b o, b ≠ p → H b = some o → H' b = some o) → Q .non H'
def spEra (C : Addr) : Sp := fun vs H Q _ => ∃ (p dm dt : Addr) (A : MarkM) (ks : List Str) (B : MarkM) (n : Int) (N : Nat), vs = [.ref p] ∧ WoodAt C H p dm dt A ks B n N ∧ Q (.int n) H
def spHas (C : Addr) : Sp := fun vs H Q _ => ∃ (p dm dt : Addr) (A : MarkM) (ks : List Str) (B : MarkM) (n : Int) (N : Nat) (w : Str), vs = [.ref p, .str w] ∧ WoodAt C H p dm dt A ks B n N ∧ Q (.bl (A w).isSome) H
def spFade (C : Addr) : Sp := fun vs H Q _ => ∃ (p dm dt : Addr) (A : MarkM) (ks : List Str) (B : MarkM) (n : Int) (N : Nat) (t : Int), vs = [.ref p, .int t] ∧ WoodAt C H p dm dt A ks B n N ∧ 0 ≤ t ∧
  ∀ H', WoodAt C H' p dm dt A ks B (n + t) N → (∀ a o, a ≠ p → H a = some o → H' a = some o) → Q .non H'
/-- the texts longer by one sign that have a top -/
def longer (B : MarkM) (x : Str) : List Str := (signsL.filter fun c => (B (x ++ sgn c)).isSome).map fun c => x ++ sgn c
def spLonger (C : Addr) : Sp := fun vs H Q _ => ∃ (p dm dt : Addr) (A : MarkM) (ks : List Str) (B : MarkM) (n : Int) (N : Nat) (x : Str), vs = [.ref p, .str x] ∧ WoodP C H p dm dt A ks B n N ∧ x.length ≤ 1000 ∧
  ∀ (q : Addr) (H' : Hp), H' q = some (.lst ((longer B x).map V.str)) → H q = none → Same H H' → Q (.ref q) H'
/-- the tops of all beginnings of w renewed -/
def spRenew (C : Addr) : Sp := fun vs H Q _ => ∃ (p dm dt : Addr) (A : MarkM) (ks : List Str) (B : MarkM) (n : Int) (N : Nat) (w : Str), vs = [.ref p, .str w] ∧ WoodP C H p dm dt A ks B n N ∧ N ≤ 1000000 ∧ isW w = true ∧
  (∀ x, ¬ tl x <+: tl w → TopAt A B n x) ∧ ∀ (B' : MarkM) (H' : Hp), WoodAt C H' p dm dt A ks B' n (N + 26) → Off p dm dt H H' → Q .non H'
theorem signs_text : (Str.ofString " abcdefghijklmnopqrstuvwxyz").cps.toList = signsL := by decide +kernel
theorem signs_size : (Str.ofString " abcdefghijklmnopqrstuvwxyz").cps.size = 27 := by decide +kernel
section
variable {C p dm dt b : Addr} {H H' H2 : Hp} {A B B2 : MarkM} {ks ks2 : List Str} {n : Int} {N M : Nat} {val val2 : Str → Option V} {o : HO} {x : Str}
theorem WoodP.tset (W : WoodP C H p dm dt A ks B n N) (h : TD (upd H dt o) dt val2 ks2) (hv : MV H val2 B2) (hl : ks2.length ≤ M) (l : N ≤ M) : WoodP C (upd H dt o) p dm dt A ks B2 n M := by
  have pt := W.pt
  obtain ⟨⟨dx, h1⟩, ⟨v, h2, h3⟩, ⟨v2, ks', h4, h5, h6⟩, h7, h8, h9⟩ := W
  obtain ⟨kv2, g2⟩ := h4.there
  have k : ∀ t zs, H t = some (.tup zs) → upd H dt o t = some (.tup zs) := fun t zs e => by
    rw [upd_ne (by rintro rfl; rw [g2] at e; cases e)]; exact e
  exact ⟨⟨dx, by rw [upd_ne pt]; exact h1⟩, ⟨v, h2.keep (by rw [upd_ne h8]), h3.mono k⟩, ⟨val2, ks2, h, hl, hv.mono k⟩, by omega, h8, h9⟩
theorem WoodP.mset (W : WoodP C H p dm dt A ks B n N) {A2 : MarkM} (h : TD (upd H dm o) dm val2 ks2) (hv : MV H val2 A2) (hl : ks2.length ≤ M) (l : N ≤ M) (ok : MarksOk A2 n) : WoodP C (upd H dm o) p dm dt A2 ks2 B n M := by
  have pm := W.pm
  obtain ⟨⟨dx, h1⟩, ⟨v, h2, h3⟩, ⟨v2, ks', h4, h5, h6⟩, h7, h8, h9⟩ := W
  obtain ⟨kv2, g2⟩ := h2.there
  have k : ∀ t zs, H t = some (.tup zs) → upd H dm o t = some (.tup zs) := fun t zs e => by
    rw [upd_ne (by rintro rfl; rw [g2] at e; cases e)]; exact e
  exact ⟨⟨dx, by rw [upd_ne pm]; exact h1⟩, ⟨val2, h, hv.mono k⟩, ⟨v2, ks', h4.keep (by rw [upd_ne (Ne.symm h8)]), by omega, h6.mono k⟩, hl, h8, ok⟩
theorem mem_longer {y : Str} : y ∈ longer B x ↔ ∃ c ∈ signsL, (B (x ++ sgn c)).isSome = true ∧ y = x ++ sgn c := by
  unfold longer
  rw [List.mem_map]
  constructor
  · rintro ⟨c, h, rfl⟩
    obtain ⟨h1, h2⟩ := List.mem_filter.mp h
    exact ⟨c, h1, h2, rfl⟩
  · rintro ⟨c, h1, h2, rfl⟩
    exact ⟨c, List.mem_filter.mpr ⟨h1, h2⟩, rfl⟩
theorem longer_len : (longer B x).length ≤ 27 := by
  unfold longer
  rw [List.length_map]
  exact Nat.le_trans (List.length_filter_le _ _) (by decide)
theorem marks_list (hM : MV H val B) : ∀ ys : List Str, (∀ y ∈ ys, (B y).isSome = true) → ∃ bs : List (Addr × Int × Int), ys.map (fun y => (val y).getD .non) = bs.map mref ∧ (∀ b ∈ bs, H b.1 = some (.tup [.int b.2.1, .int b.2.2])) ∧
    (∀ m, m ∈ bs.map (·.2) ↔ ∃ y ∈ ys, B y = some m) ∧ bs.length = ys.length
  | [], _ => ⟨[], rfl, (fun _ h => nomatch h), by simp, rfl⟩
  | y :: ys, h => by
    obtain ⟨bs, h1, h2, h3, h4⟩ := marks_list hM ys fun z hz => h z (by simp [hz])
    obtain ⟨m, hm⟩ := Option.isSome_iff_exists.mp (h y (by simp))
    obtain ⟨t, e1, e2⟩ := hM.some hm
    refine ⟨(t, m) :: bs, ?_, ?_, ?_, by simp [h4]⟩
    · rw [List.map_cons, List.map_cons, h1, e1]; rfl
    · intro b hb
      rcases List.mem_cons.mp hb with rfl | hb
      · exact e2
      · exact h2 b hb
    · intro m'
      rw [List.map_cons, List.mem_cons, h3]
      constructor
      · rintro (rfl | ⟨z, hz, e⟩)
        · exact ⟨y, by simp, hm⟩
        · exact ⟨z, by simp [hz], e⟩
      · rintro ⟨z, hz, e⟩
        rcases List.mem_cons.mp hz with rfl | hz
        · rw [hm] at e; exact .inl (Option.some.inj e).symm
        · exact .inr ⟨z, hz, e⟩
theorem behind_list (hM : MV H val B) : ∃ bs : List (Addr × Int × Int), (longer B x).map (fun y => (val y).getD .non) = bs.map mref ∧ (∀ b ∈ bs, H b.1 = some (.tup [.int b.2.1, .int b.2.2])) ∧
    (∀ m, m ∈ bs.map (·.2) ↔ ∃ c ∈ signsL, B (x ++ sgn c) = some m) ∧ bs.length ≤ 27 := by
  obtain ⟨bs, h1, h2, h3, h4⟩ := marks_list hM (longer B x) fun y hy => by
    obtain ⟨c, _, h, rfl⟩ := mem_longer.mp hy
    exact h
  refine ⟨bs, h1, h2, fun m => ?_, by rw [h4]; exact longer_len⟩
  rw [h3]
  constructor
  · rintro ⟨y, hy, e⟩
    obtain ⟨c, hc, _, rfl⟩ := mem_longer.mp hy
    exact ⟨c, hc, e⟩
  · rintro ⟨c, hc, e⟩
    exact ⟨x ++ sgn c, mem_longer.mpr ⟨c, hc, by rw [e]; rfl, rfl⟩, e⟩
theorem u_iRng3 {σ : L2.St} {ta : TA} {R : It → Hp → Prop} (k : ta σ H fun vs H1 => ∃ (i j c : Int) (n : Nat), vs = [.int i, .int j, .int c] ∧ RgC i j c n ∧ R (Itc i c n) H1) : iRng3 ta σ H R := k
/-- a beginning's own beginnings, the tops there -/
theorem child_top {w : Str} {i : Nat} {A B : MarkM} {n : Int} (hB : ∀ y, (tl y <+: tl w → (tl w).length < (tl y).length + i) → TopAt A B n y) (hx : tl x = (tl w).take ((tl w).length - i)) (hi : i ≤ (tl w).length) (c : Nat) : TopAt A B n (x ++ sgn c) :=
  hB _ fun _ => by
    rw [tl_snoc, List.length_append, hx, List.length_take]
    simp only [List.length_singleton]
    omega
/-- one more is right -/
theorem next_tops {w : Str} {i : Nat} {A B B2 : MarkM} {n : Int} (hB : ∀ y, (tl y <+: tl w → (tl w).length < (tl y).length + i) → TopAt A B n y) (hx : tl x = (tl w).take ((tl w).length - i)) (hi : i ≤ (tl w).length)
    (hn : TopAt A B2 n x) (he : ∀ y, y ≠ x → B2 y = B y) : ∀ y, (tl y <+: tl w → (tl w).length < (tl y).length + (i + 1)) → TopAt A B2 n y := fun y hy => by
  by_cases c : y = x
  · subst c; exact hn
  · refine (hB y fun p => ?_).other (he y c)
    have h1 := hy p
    have h2 : (tl y).length ≠ (tl w).length - i := fun e => c (tl_inj (by
      rw [hx, ← e]
      exact List.prefix_iff_eq_take.mp p))
    omega
end
/-! ### promises of the deeds -/
abbrev EX (C : Addr) (E : XK) (H : Hp) : Prop := E (.ref C) none H
def spAsk (C X : Addr) : Sp := fun vs H Q E => ∃ (p dm dt : Addr) (A : MarkM) (ks : List Str) (B : MarkM) (n : Int) (N : Nat) (w : Str), vs = [.ref p, .str w] ∧ WoodAt C H p dm dt A ks B n N ∧ (A w = none → EX X E H) ∧ (A w ≠ none → Q .non H)
def AnyT (K : PySem.W.Frag) (H : Hp) (x : V) : Prop := (∃ s : Str, x = .str s ∧ s.length ≤ 1000000 ∧ PyData.strOk s = true) ∨ (∃ t : String, TyX K H x (.type t) ∧ kitB t "str" = some false)
def spPut (K : PySem.W.Frag) (C XN XT : Addr) : Sp := fun vs H Q E => ∃ (p dm dt : Addr) (A : MarkM) (ks : List Str) (B : MarkM) (n : Int) (N : Nat) (x : V) (c : Int), vs = [.ref p, x, .int c] ∧ WoodAt C H p dm dt A ks B n N ∧ N ≤ 900000 ∧ 0 ≤ c ∧ AnyT K H x ∧
  ((∀ w, x = .str w → isW w = false) → ∀ H', Same H H' → EX XN E H') ∧ (∀ w, x = .str w → isW w = true → A w ≠ none → ∀ H', Same H H' → EX XT E H') ∧
  (∀ w, x = .str w → isW w = true → A w = none → ∀ (B' : MarkM) (H' : Hp), WoodAt C H' p dm dt (setm A w (c, n)) (addK ks w) B' n (N + 27) → Off p dm dt H H' → Q .non H')
def spUse (C XA : Addr) : Sp := fun vs H Q E => ∃ (p dm dt : Addr) (A : MarkM) (ks : List Str) (B : MarkM) (n : Int) (N : Nat) (w : Str) (t : Int), vs = [.ref p, .str w, .int t] ∧ WoodAt C H p dm dt A ks B n N ∧ N ≤ 900000 ∧ 0 ≤ t ∧
  (A w = none → EX XA E H) ∧ (∀ m, A w = some m → ∀ (B' : MarkM) (H' : Hp), WoodAt C H' p dm dt (setm A w (wn m n + t, n)) ks B' n (N + 27) → Off p dm dt H H' → Q .non H')
def spStrike (C XA : Addr) : Sp := fun vs H Q E => ∃ (p dm dt : Addr) (A : MarkM) (ks : List Str) (B : MarkM) (n : Int) (N : Nat) (w : Str), vs = [.ref p, .str w] ∧ WoodAt C H p dm dt A ks B n N ∧ N ≤ 900000 ∧
  (A w = none → EX XA E H) ∧ (∀ m, A w = some m → ∀ (B' : MarkM) (H' : Hp), WoodAt C H' p dm dt (delm A w) (remK ks w) B' n (N + 27) → Off p dm dt H H' → Q .non H')
def spWorthOf (C XA : Addr) : Sp := fun vs H Q E => ∃ (p dm dt : Addr) (A : MarkM) (ks : List Str) (B : MarkM) (n : Int) (N : Nat) (w : Str), vs = [.ref p, .str w] ∧ WoodAt C H p dm dt A ks B n N ∧
  (A w = none → EX XA E H) ∧ (∀ m, A w = some m → Q (.int (wn m n)) H)
/-- the words, rising, with what they are worth -/
def wordsOf (A : MarkM) (ks : List Str) (n : Int) : List RW := (ks.mergeSort (PySem.W.dataLe false PyData.str)).map fun w => (w, match A w with | some m => wn m n | none => 0)
def spWords (C : Addr) (K : PySem.W.Frag) : Sp := fun vs H Q _ => ∃ (p dm dt : Addr) (A : MarkM) (ks : List Str) (B : MarkM) (n : Int) (N : Nat), vs = [.ref p] ∧ WoodAt C H p dm dt A ks B n N ∧ N ≤ 90000 ∧
  ∀ (q : Addr) (H' : Hp) (xs : List V), H' q = some (.lst xs) → H q = none → DpAll K H' xs ((wordsOf A ks n).map dP) → Same H H' → Q (.ref q) H'
section
variable {C p dm dt : Addr} {H H' : Hp} {A B : MarkM} {ks : List Str} {n : Int} {N : Nat} {w x : Str} {m : Int × Int}
/-- tops where the word's mark has changed -/
theorem tops_put (h : ∀ y, TopAt A B n y) : ∀ y, ¬ tl y <+: tl w → TopAt (setm A w m) B n y := fun y hy => (h y).marks fun z hz => by
  unfold setm
  rw [if_neg (by rintro rfl; exact hy hz)]
theorem tops_del (h : ∀ y, TopAt A B n y) : ∀ y, ¬ tl y <+: tl w → TopAt (delm A w) B n y := fun y hy => (h y).marks fun z hz => by
  unfold delm
  rw [if_neg (by rintro rfl; exact hy hz)]
theorem WoodP.key (W : WoodP C H p dm dt A ks B n N) : w ∈ ks ↔ (A w).isSome = true := by
  obtain ⟨val, hT, hM⟩ := W.ma
  rw [hT.mem, hM.none_iff]
theorem addK_in (h : w ∈ ks) : addK ks w = ks := by unfold addK; rw [if_pos h]
end
/-! ### the laws' own helpers -/
def fit2L (l : List Nat) : Bool := decide (l.length ≤ 24) && (decide ((spA [] l).length ≤ 4) && (spA [] l).all fun p => decide (1 ≤ p.length) && decide (p.length ≤ 12))
def SG (y : Str) : Prop := ∀ c ∈ tl y, low c = true ∨ c = 32
theorem spA_no : ∀ (l acc : List Nat), 32 ∉ acc → ∀ p ∈ spA acc l, 32 ∉ p
  | [], acc, h, p, hp => by
    have : p = acc := by simpa [spA] using hp
    subst this; exact h
  | c :: r, acc, h, p, hp => by
    by_cases e : c = 32
    · subst e
      rw [show spA acc (32 :: r) = acc :: spA [] r by simp [spA]] at hp
      rcases List.mem_cons.mp hp with rfl | hp
      · exact h
      · exact spA_no r [] (by simp) p hp
    · rw [show spA acc (c :: r) = spA (acc ++ [c]) r by simp [spA, e]] at hp
      exact spA_no r _ (by simp [h, Ne.symm e]) p hp
theorem word_of_fit2 {s : Str} (hf : fit2L (tl s) = true) (hs : SG s) : isW s = true := by
  unfold fit2L at hf
  simp only [Bool.and_eq_true, decide_eq_true_eq, List.all_eq_true] at hf
  unfold isW wordL
  simp only [Bool.and_eq_true, decide_eq_true_eq, List.all_eq_true]
  refine ⟨⟨hf.1, hf.2.1⟩, fun p hp => ?_⟩
  have h1 := hf.2.2 p hp
  have h2 := spA_no (tl s) [] (by simp) p hp
  refine partL_of (fun c hc => ?_) h1.1 h1.2
  have h3 := (mem_join hp).2 c hc
  rw [join_spA] at h3
  rcases hs c (by simpa using h3) with h | h
  · exact h
  · subst h; exact absurd hc h2
theorem SG.word {s : Str} (h : isW s = true) : SG s := wordL_signs h
theorem SG.cut {s : Str} (h : SG s) (lo hi : Option Int) : SG (cutS s lo hi) := fun c hc => h c (mem_cutS hc)
theorem SG.app {s t : Str} (h : SG s) (g : SG t) : SG (s ++ t) := fun c hc => by
  rw [tl_append] at hc
  rcases List.mem_append.mp hc with hc | hc
  · exact h c hc
  · exact g c hc
def spFit2 : Sp := fun vs H Q _ => ∃ s : Str, vs = [.str s] ∧ s.length ≤ 1000 ∧ PyData.strOk s = true ∧ ∀ H', Same H H' → Q (.bl (fit2L (tl s))) H'
def spTimes : Sp := fun vs H Q _ => ∃ b : Addr, vs = [.ref b] ∧ BoxAt H b ∧ ∀ (r : Int) (H' : Hp), 1 ≤ r → r ≤ 1000000 → BoxAt H' b → But b H H' → Q (.int r) H'
/-! ### a wood and what the law keeps of it -/
structure Dad where
  p : Addr
  dm : Addr
  dt : Addr
  u : Addr
  d : Addr
def Dad.own (x : Dad) (a : Addr) : Prop := a = x.p ∨ a = x.dm ∨ a = x.dt ∨ a = x.u ∨ a = x.d
/-- the wood at x.p with the marks A; the law's list at x.u: the era, and the dict at x.d of the worths -/
structure DuoX (C : Addr) (H : Hp) (x : Dad) (n b : Int) (N : Nat) (A : MarkM) (ks ks2 : List Str) (B : MarkM) : Prop where
  w : WoodAt C H x.p x.dm x.dt A ks B n N
  l : H x.u = some (.lst [.int n, .ref x.d])
  t : TD H x.d (fun w => (A w).map fun m => V.int (wn m n)) ks2
  bd : ∀ w m, A w = some m → wn m n ≤ b
  n1 : x.d ≠ x.dm
  n2 : x.d ≠ x.dt
  kl : ks2.length ≤ N
def Duo (C : Addr) (H : Hp) (x : Dad) (n b : Int) (N : Nat) : Prop := ∃ (A : MarkM) (ks ks2 : List Str) (B : MarkM), DuoX C H x n b N A ks ks2 B
def Off5 (x : Dad) (H H' : Hp) : Prop := ∀ a o, ¬ x.own a → H a = some o → H' a = some o
section
variable {C : Addr} {H H' : Hp} {x : Dad} {n b b' : Int} {N M : Nat} {A B : MarkM} {ks ks2 : List Str} {c : Addr}
theorem Off5.refl : Off5 x H H := fun _ _ _ e => e
theorem Off5.trans {H2 : Hp} (f : Off5 x H H') (g : Off5 x H' H2) : Off5 x H H2 := fun a o n e => g a o n (f a o n e)
theorem Off5.of (s : Same H H') : Off5 x H H' := fun a o _ e => s a o e
theorem Off5.off (s : Off x.p x.dm x.dt H H') : Off5 x H H' := fun a o n e => s a o (fun z => n (.inl z)) (fun z => n (.inr (.inl z))) (fun z => n (.inr (.inr (.inl z)))) e
theorem DuoX.same (D : DuoX C H x n b N A ks ks2 B) (s : Same H H') : DuoX C H' x n b N A ks ks2 B := ⟨D.w.same s, s _ _ D.l, D.t.same s, D.bd, D.n1, D.n2, D.kl⟩
theorem DuoX.mono (D : DuoX C H x n b N A ks ks2 B) (h : b ≤ b') (l : N ≤ M) : DuoX C H x n b' M A ks ks2 B := ⟨D.w.mono l, D.l, D.t, fun w m e => by have := D.bd w m e; omega, D.n1, D.n2, by have := D.kl; omega⟩
theorem DuoX.pu (D : DuoX C H x n b N A ks ks2 B) : x.u ≠ x.p ∧ x.u ≠ x.dm ∧ x.u ≠ x.dt ∧ x.u ≠ x.d ∧ x.d ≠ x.p := by
  obtain ⟨dx, hp⟩ := D.w.ob
  obtain ⟨v, h2, _⟩ := D.w.ma
  obtain ⟨k1, h2⟩ := h2.there
  obtain ⟨v2, ks', h4, _⟩ := D.w.tp
  obtain ⟨k2, h4⟩ := h4.there
  obtain ⟨k3, h5⟩ := D.t.there
  have hl := D.l
  refine ⟨fun e => ?_, fun e => ?_, fun e => ?_, fun e => ?_, fun e => ?_⟩
  · rw [e, hp] at hl; cases hl
  · rw [e, h2] at hl; cases hl
  · rw [e, h4] at hl; cases hl
  · rw [e, h5] at hl; cases hl
  · rw [e, hp] at h5; cases h5
theorem DuoX.nb (D : DuoX C H x n b N A ks ks2 B) (hb : BoxAt H c) : ¬ x.own c := by
  obtain ⟨dx, hp⟩ := D.w.ob
  obtain ⟨v, h2, _⟩ := D.w.ma
  obtain ⟨k1, h2⟩ := h2.there
  obtain ⟨v2, ks', h4, _⟩ := D.w.tp
  obtain ⟨k2, h4⟩ := h4.there
  obtain ⟨k3, h5⟩ := D.t.there
  have hl := D.l
  obtain ⟨_, _, _, _, e⟩ := hb
  rintro (z | z | z | z | z)
  · rw [← z, e] at hp; cases hp
  · rw [← z, e] at h2; cases h2
  · rw [← z, e] at h4; cases h4
  · rw [← z, e] at hl; simp at hl
  · rw [← z, e] at h5; cases h5
theorem DuoX.but (D : DuoX C H x n b N A ks ks2 B) (s : But c H H') (hb : BoxAt H c) : DuoX C H' x n b N A ks ks2 B := by
  have hn := D.nb hb
  refine ⟨D.w.but s hb, s _ _ (fun z => hn (.inr (.inr (.inr (.inl z.symm))))) D.l, ?_, D.bd, D.n1, D.n2, D.kl⟩
  obtain ⟨k3, h5⟩ := D.t.there
  exact D.t.keep ((s _ _ (fun z => hn (.inr (.inr (.inr (.inr z.symm))))) h5).trans h5.symm)
/-- the law's dict changes -/
theorem DuoX.wood {o : HO} (D : DuoX C H x n b N A ks ks2 B) : WoodAt C (upd H x.d o) x.p x.dm x.dt A ks B n N := by
  obtain ⟨k3, h5⟩ := D.t.there
  exact D.w.keep (by rw [upd_ne D.pu.2.2.2.2.symm]) (by rw [upd_ne D.n1.symm]) (by rw [upd_ne D.n2.symm]) fun t zs e => by
    rw [upd_ne (by rintro rfl; rw [h5] at e; cases e)]; exact e
theorem TD.keys {d : Addr} {val : Str → Option V} (h : TD H d val ks) : ∃ kvs : List (Key × V), H d = some (.dK kvs) ∧ (kvs.map fun kv => kV kv.1) = ks.map V.str := by
  obtain ⟨kvs, h1, h2, h3, h4⟩ := h.ex
  refine ⟨kvs, h1, ?_⟩
  have := congrArg (List.map kV) h2
  rw [List.map_map, List.map_map] at this
  exact this
end
def halfN (c t : Int) : Int := c / 2 ^ (min t 60).toNat
def spFaded : Sp := fun vs H Q _ => ∃ (d : Addr) (g : Str → Option Int) (ks : List Str) (t : Int), vs = [.ref d, .int t] ∧ TD H d (fun w => (g w).map V.int) ks ∧ ks.length ≤ 100000 ∧ 0 ≤ t ∧
  ∀ H', TD H' d (fun w => (g w).map fun c => V.int (halfN c t)) ks → (∀ a o, a ≠ d → H a = some o → H' a = some o) → Q .non H'
theorem half_more (c : Int) (j : Nat) : c / 2 ^ j / 2 = c / 2 ^ (j + 1) := by
  rw [Int.ediv_ediv_of_nonneg (Int.le_of_lt (pow2_pos j)), Int.pow_succ]
theorem half_later {m : Int × Int} {n t : Int} (h0 : 0 ≤ m.1) (hm : m.2 ≤ n) (ht : 0 ≤ t) (hb : wn m n < 2 ^ 60) : halfN (wn m n) t = wn m (n + t) := by
  have e : wn m (n + t) = wn m n / 2 ^ t.toNat := by
    rw [wn_later hm (show n ≤ n + t by omega)]
    show worth (wn m n) n (n + t) = _
    unfold worth
    rw [show n + t - n = t by omega]
  rw [e]
  unfold halfN
  by_cases c : t ≤ 60
  · rw [show min t 60 = t by omega]
  · have h1 : (2 : Int) ^ 60 ≤ 2 ^ t.toNat := pow2_mono (by omega)
    have w0 : 0 ≤ wn m n := worth_nonneg h0
    rw [show (min t 60).toNat = 60 by omega, Int.ediv_eq_zero_of_lt w0 hb, Int.ediv_eq_zero_of_lt w0 (by omega)]
def spLPut (C : Addr) : Sp := fun vs H Q _ => ∃ (x : Dad) (n b : Int) (N : Nat) (A : MarkM) (ks ks2 : List Str) (B : MarkM) (w : Str) (c : Int), vs = [.ref x.p, .ref x.u, .str w, .int c] ∧ DuoX C H x n b N A ks ks2 B ∧ N ≤ 800000 ∧ isW w = true ∧ A w = none ∧ 0 ≤ c ∧ c ≤ b ∧
  ∀ (ks' ks2' : List Str) (B' : MarkM) (H' : Hp), DuoX C H' x n b (N + 27) (setm A w (c, n)) ks' ks2' B' → Off5 x H H' → Q (.bl true) H'
def spLUse (C : Addr) : Sp := fun vs H Q _ => ∃ (x : Dad) (n b : Int) (N : Nat) (A : MarkM) (ks ks2 : List Str) (B : MarkM) (w : Str) (e : Addr) (m : Int × Int), vs = [.ref e, .ref x.p, .ref x.u, .str w] ∧ BoxAt H e ∧ DuoX C H x n b N A ks ks2 B ∧ N ≤ 800000 ∧ A w = some m ∧
  ∀ H', Duo C H' x n (b + 1000000) (N + 27) → BoxAt H' e → (∀ a o, ¬ x.own a → a ≠ e → H a = some o → H' a = some o) → Q (.bl true) H'
def spLFade (C : Addr) : Sp := fun vs H Q _ => ∃ (x : Dad) (n b : Int) (N : Nat) (e : Addr), vs = [.ref e, .ref x.p, .ref x.u] ∧ BoxAt H e ∧ Duo C H x n b N ∧ N ≤ 90000 ∧ b ≤ 1000000000000 ∧
  ∀ (n' : Int) (H' : Hp), Duo C H' x n' b N → BoxAt H' e → (∀ a o, ¬ x.own a → a ≠ e → H a = some o → H' a = some o) → Q (.bl true) H'
/-- a list of words -/
structure WL (H : Hp) (l : Addr) (ss : List Str) : Prop where
  l : H l = some (.lst (ss.map V.str))
  w : ∀ s ∈ ss, isW s = true
section
variable {C : Addr} {H H' : Hp} {x : Dad} {n b : Int} {N : Nat} {A : MarkM} {ks ks2 : List Str} {B : MarkM} {l e : Addr} {ss : List Str}
theorem WL.nb (h : WL H l ss) (hb : BoxAt H e) : l ≠ e := by
  obtain ⟨_, _, _, _, z⟩ := hb
  rintro rfl
  have := h.l
  rw [z] at this
  cases ss <;> simp at this
theorem WL.no (h : WL H l ss) (D : DuoX C H x n b N A ks ks2 B) : ¬ x.own l := by
  obtain ⟨dx, hp⟩ := D.w.ob
  obtain ⟨v, h2, _⟩ := D.w.ma
  obtain ⟨k1, h2⟩ := h2.there
  obtain ⟨v2, ks', h4, _⟩ := D.w.tp
  obtain ⟨k2, h4⟩ := h4.there
  obtain ⟨k3, h5⟩ := D.t.there
  have hl := D.l
  have e := h.l
  rintro (z | z | z | z | z)
  · rw [← z, e] at hp; cases hp
  · rw [← z, e] at h2; cases h2
  · rw [← z, e] at h4; cases h4
  · rw [← z, e] at hl; cases ss <;> simp at hl
  · rw [← z, e] at h5; cases h5
theorem WL.keep (h : WL H l ss) (k : H' l = H l) : WL H' l ss := ⟨k.trans h.l, h.w⟩
theorem WL.but (h : WL H l ss) (s : But e H H') (hb : BoxAt H e) : WL H' l ss := ⟨s _ _ (h.nb hb) h.l, h.w⟩
/-- a list of words changes -/
theorem DuoX.list (D : DuoX C H x n b N A ks ks2 B) (h : WL H l ss) {o : HO} : DuoX C (L2.upd H l o) x n b N A ks ks2 B := by
  have hn := h.no D
  have he := h.l
  refine ⟨D.w.keep (by rw [upd_ne (fun z => hn (.inl z.symm))]) (by rw [upd_ne (fun z => hn (.inr (.inl z.symm)))]) (by rw [upd_ne (fun z => hn (.inr (.inr (.inl z.symm))))]) (fun t zs z => by
    rw [upd_ne (by rintro rfl; rw [he] at z; cases z)]; exact z), by rw [upd_ne (fun z => hn (.inr (.inr (.inr (.inl z.symm)))))]; exact D.l, D.t.keep (by rw [upd_ne (fun z => hn (.inr (.inr (.inr (.inr z.symm)))))]), D.bd, D.n1, D.n2, D.kl⟩
theorem BoxAt.list (h : BoxAt H e) (g : WL H l ss) {o : HO} : BoxAt (L2.upd H l o) e := by
  have n := g.nb h
  obtain ⟨x0, x1, x2, x3, z⟩ := h
  exact ⟨x0, x1, x2, x3, by rw [upd_ne n.symm]; exact z⟩
end
def spLDeed (C : Addr) : Sp := fun vs H Q _ => ∃ (x : Dad) (n b : Int) (N : Nat) (e l : Addr) (ss : List Str), vs = [.ref e, .ref x.p, .ref x.u, .ref l] ∧ BoxAt H e ∧ Duo C H x n b N ∧ N ≤ 80000 ∧ 1000000000 ≤ b ∧ b ≤ 900000000000 ∧ WL H l ss ∧ ss.length ≤ 5000 ∧
  ∀ (n' : Int) (ss' : List Str) (H' : Hp), Duo C H' x n' (b + 1000000) (N + 100) → WL H' l ss' → ss'.length ≤ ss.length + 1 → BoxAt H' e → (∀ a o, ¬ x.own a → a ≠ e → a ≠ l → H a = some o → H' a = some o) → Q (.bl true) H'
def spLStands (C : Addr) (K : PySem.W.Frag) : Sp := fun vs H Q _ => ∃ (x : Dad) (n b : Int) (N : Nat) (l : Addr) (ss : List Str), vs = [.ref x.p, .ref x.u, .ref l] ∧ Duo C H x n b N ∧ N ≤ 80000 ∧ SqL K H l (ss.map V.str) ∧ (∀ s ∈ ss, isW s = true) ∧ ∀ H', Same H H' → Q (.bl true) H'
theorem sort_same {ks ks2 : List Str} (h1 : ks.Nodup) (h2 : ks2.Nodup) (h : ∀ w, w ∈ ks ↔ w ∈ ks2) : ks.mergeSort (PySem.W.dataLe false PyData.str) = ks2.mergeSort (PySem.W.dataLe false PyData.str) := by
  have hp : ks.Perm ks2 := (List.perm_ext_iff_of_nodup h1 h2).mpr h
  have le : ∀ a b : Str, PySem.W.dataLe false PyData.str a b = !decide (tl b < tl a) := fun a b => by
    show (!PySem.W.dataLt (.str b) (.str a)) = _
    rw [PySem.W.dataLt_str]
  have tr : ∀ a b c : Str, PySem.W.dataLe false PyData.str a b = true → PySem.W.dataLe false PyData.str b c = true → PySem.W.dataLe false PyData.str a c = true := fun a b c h g => by
    rw [le] at *
    simp only [Bool.not_eq_true', decide_eq_false_iff_not] at *
    intro z
    by_cases e : tl a < tl b
    · exact g (List.lt_trans z e)
    · have := tl_tri a b e h
      subst this; exact g z
  have to : ∀ a b : Str, (PySem.W.dataLe false PyData.str a b || PySem.W.dataLe false PyData.str b a) = true := fun a b => by
    rw [le, le, Bool.or_eq_true]
    simp only [Bool.not_eq_true', decide_eq_false_iff_not]
    by_cases e : tl b < tl a
    · exact .inr (List.lt_asymm e)
    · exact .inl e
  refine List.Perm.eq_of_pairwise (le := fun a b => PySem.W.dataLe false PyData.str a b = true) (fun a b _ _ h g => ?_) (List.pairwise_mergeSort tr to ks) (List.pairwise_mergeSort tr to ks2) (((List.mergeSort_perm ks _).trans hp).trans (List.mergeSort_perm ks2 _).symm)
  rw [le] at h g
  simp only [Bool.not_eq_true', decide_eq_false_iff_not] at h g
  exact tl_tri a b g h
/-! ### two woods side by side -/
def Apart (x y : Dad) : Prop := ∀ a, x.own a → ¬ y.own a
section
variable {C : Addr} {H H' : Hp} {x y : Dad} {n b n2 b2 : Int} {N M : Nat} {A A2 : MarkM} {ks ks2 js js2 : List Str} {B B2 : MarkM} {l e q : Addr} {ss : List Str}
theorem Apart.symm (h : Apart x y) : Apart y x := fun a hy hx => h a hx hy
theorem DuoX.apart (D : DuoX C H x n b N A ks ks2 B) (E : DuoX C H y n2 b2 M A2 js js2 B2) (hp : x.p ≠ y.p)
    (h1 : x.dm ≠ y.dm) (h2 : x.dm ≠ y.dt) (h3 : x.dm ≠ y.d) (h4 : x.dt ≠ y.dm) (h5 : x.dt ≠ y.dt) (h6 : x.dt ≠ y.d) (h7 : x.d ≠ y.dm) (h8 : x.d ≠ y.dt) (h9 : x.d ≠ y.d) : Apart x y := by
  obtain ⟨dx, a1⟩ := D.w.ob
  obtain ⟨v, a2, _⟩ := D.w.ma
  obtain ⟨k1, a2⟩ := a2.there
  obtain ⟨v2, ks', a3, _⟩ := D.w.tp
  obtain ⟨k2, a3⟩ := a3.there
  obtain ⟨k3, a4⟩ := D.t.there
  have a5 := D.l
  obtain ⟨dy, c1⟩ := E.w.ob
  obtain ⟨u, c2, _⟩ := E.w.ma
  obtain ⟨j1, c2⟩ := c2.there
  obtain ⟨u2, js', c3, _⟩ := E.w.tp
  obtain ⟨j2, c3⟩ := c3.there
  obtain ⟨j3, c4⟩ := E.t.there
  have c5 := E.l
  have kk : ∀ {a : Addr} {o o' : HO}, H a = some o → H a = some o' → o = o' := fun h g => by rw [h] at g; exact Option.some.inj g
  rintro a (e | e | e | e | e) (f | f | f | f | f)
  · exact hp (e.symm.trans f)
  · rw [← e] at a1; rw [← f] at c2; cases kk a1 c2
  · rw [← e] at a1; rw [← f] at c3; cases kk a1 c3
  · rw [← e] at a1; rw [← f] at c5; cases kk a1 c5
  · rw [← e] at a1; rw [← f] at c4; cases kk a1 c4
  · rw [← e] at a2; rw [← f] at c1; cases kk a2 c1
  · exact h1 (e.symm.trans f)
  · exact h2 (e.symm.trans f)
  · rw [← e] at a2; rw [← f] at c5; cases kk a2 c5
  · exact h3 (e.symm.trans f)
  · rw [← e] at a3; rw [← f] at c1; cases kk a3 c1
  · exact h4 (e.symm.trans f)
  · exact h5 (e.symm.trans f)
  · rw [← e] at a3; rw [← f] at c5; cases kk a3 c5
  · exact h6 (e.symm.trans f)
  · rw [← e] at a5; rw [← f] at c1; cases kk a5 c1
  · rw [← e] at a5; rw [← f] at c2; cases kk a5 c2
  · rw [← e] at a5; rw [← f] at c3; cases kk a5 c3
  · rw [← e] at a5; rw [← f] at c5
    have := kk a5 c5
    injection this with this
    simp at this
    exact h9 this.2
  · rw [← e] at a5; rw [← f] at c4; cases kk a5 c4
  · rw [← e] at a4; rw [← f] at c1; cases kk a4 c1
  · exact h7 (e.symm.trans f)
  · exact h8 (e.symm.trans f)
  · rw [← e] at a4; rw [← f] at c5; cases kk a4 c5
  · exact h9 (e.symm.trans f)
/-- what is not its own may change, but for tuples -/
theorem DuoX.keep (D : DuoX C H x n b N A ks ks2 B) (k : ∀ a o, x.own a → H a = some o → H' a = some o) (kt : ∀ t zs, H t = some (.tup zs) → H' t = some (.tup zs)) : DuoX C H' x n b N A ks ks2 B := by
  obtain ⟨dx, a1⟩ := D.w.ob
  obtain ⟨v, a2, _⟩ := D.w.ma
  obtain ⟨k1, a2⟩ := a2.there
  obtain ⟨v2, ks', a3, _⟩ := D.w.tp
  obtain ⟨k2, a3⟩ := a3.there
  obtain ⟨k3, a4⟩ := D.t.there
  exact ⟨D.w.keep ((k _ _ (.inl rfl) a1).trans a1.symm) ((k _ _ (.inr (.inl rfl)) a2).trans a2.symm) ((k _ _ (.inr (.inr (.inl rfl))) a3).trans a3.symm) kt, k _ _ (.inr (.inr (.inr (.inl rfl)))) D.l, D.t.keep ((k _ _ (.inr (.inr (.inr (.inr rfl)))) a4).trans a4.symm), D.bd, D.n1, D.n2, D.kl⟩
/-- tuples are nobody's own -/
theorem DuoX.notup (D : DuoX C H x n b N A ks ks2 B) {t : Addr} {zs : List V} (h : H t = some (.tup zs)) : ¬ x.own t := by
  obtain ⟨dx, a1⟩ := D.w.ob
  obtain ⟨v, a2, _⟩ := D.w.ma
  obtain ⟨k1, a2⟩ := a2.there
  obtain ⟨v2, ks', a3, _⟩ := D.w.tp
  obtain ⟨k2, a3⟩ := a3.there
  obtain ⟨k3, a4⟩ := D.t.there
  have a5 := D.l
  rintro (z | z | z | z | z)
  · rw [← z, h] at a1; cases a1
  · rw [← z, h] at a2; cases a2
  · rw [← z, h] at a3; cases a3
  · rw [← z, h] at a5; cases a5
  · rw [← z, h] at a4; cases a4
/-- a list of two refs is nobody's own -/
theorem DuoX.noref (D : DuoX C H x n b N A ks ks2 B) {r1 r2 : Addr} (h : H q = some (.lst [.ref r1, .ref r2])) : ¬ x.own q := by
  obtain ⟨dx, a1⟩ := D.w.ob
  obtain ⟨v, a2, _⟩ := D.w.ma
  obtain ⟨k1, a2⟩ := a2.there
  obtain ⟨v2, ks', a3, _⟩ := D.w.tp
  obtain ⟨k2, a3⟩ := a3.there
  obtain ⟨k3, a4⟩ := D.t.there
  have a5 := D.l
  rintro (z | z | z | z | z)
  · rw [← z, h] at a1; cases a1
  · rw [← z, h] at a2; cases a2
  · rw [← z, h] at a3; cases a3
  · rw [← z, h] at a5; simp at a5
  · rw [← z, h] at a4; cases a4
theorem ref_ne_box {r1 r2 : Addr} (h : H q = some (.lst [.ref r1, .ref r2])) (hb : BoxAt H e) : q ≠ e := by
  obtain ⟨_, _, _, _, z⟩ := hb
  rintro rfl
  rw [h] at z; simp at z
theorem ref_ne_list {r1 r2 : Addr} (h : H q = some (.lst [.ref r1, .ref r2])) (hl : WL H l ss) : q ≠ l := by
  rintro rfl
  have := hl.l
  rw [h] at this
  cases ss <;> simp at this
end
/-- all that k06's law holds: two woods, their lists, the words -/
structure Two (C : Addr) (H : Hp) (x y : Dad) (pw pd l : Addr) (b : Int) (N : Nat) (ss : List Str) : Prop where
  d1 : ∃ n, Duo C H x n b N
  d2 : ∃ n, Duo C H y n b N
  pw : H pw = some (.lst [.ref x.p, .ref y.p])
  pd : H pd = some (.lst [.ref x.u, .ref y.u])
  l : WL H l ss
section
variable {C : Addr} {H H' : Hp} {x y : Dad} {b b' n : Int} {N M : Nat} {pw pd l e : Addr} {ss ss' : List Str}
theorem Two.but (T : Two C H x y pw pd l b N ss) (s : But e H H') (he : BoxAt H e) : Two C H' x y pw pd l b N ss := by
  obtain ⟨⟨n1, A1, k1, k2, B1, D1⟩, ⟨n2, A2, j1, j2, B2, D2⟩, h1, h2, h3⟩ := T
  exact ⟨⟨n1, A1, k1, k2, B1, D1.but s he⟩, ⟨n2, A2, j1, j2, B2, D2.but s he⟩, s _ _ (ref_ne_box h1 he) h1, s _ _ (ref_ne_box h2 he) h2, h3.but s he⟩
theorem Two.same (T : Two C H x y pw pd l b N ss) (s : Same H H') : Two C H' x y pw pd l b N ss := by
  obtain ⟨⟨n1, A1, k1, k2, B1, D1⟩, ⟨n2, A2, j1, j2, B2, D2⟩, h1, h2, h3⟩ := T
  exact ⟨⟨n1, A1, k1, k2, B1, D1.same s⟩, ⟨n2, A2, j1, j2, B2, D2.same s⟩, s _ _ h1, s _ _ h2, ⟨s _ _ h3.l, h3.w⟩⟩
/-- a deed on the first one -/
theorem Two.first (T : Two C H x y pw pd l b N ss) (ap : Apart x y) (he : BoxAt H e) (D : Duo C H' x n b' M) (L : WL H' l ss') (hb : b ≤ b') (hN : N ≤ M) (f : ∀ a o, ¬ x.own a → a ≠ e → a ≠ l → H a = some o → H' a = some o) : Two C H' x y pw pd l b' M ss' := by
  obtain ⟨⟨n1, A1, k1, k2, B1, D1⟩, ⟨n2, A2, j1, j2, B2, D2⟩, h1, h2, h3⟩ := T
  refine ⟨⟨n, D⟩, ⟨n2, A2, j1, j2, B2, (D2.keep (fun a o ho z => f a o (fun c => ap a c ho) (fun c => D2.nb he (c ▸ ho)) (fun c => h3.no D2 (c ▸ ho)) z) (fun t zs z => f t _ (D1.notup z) (by
    obtain ⟨_, _, _, _, w⟩ := he
    rintro rfl; rw [w] at z; cases z) (by
    rintro rfl
    have := h3.l
    rw [this] at z; cases z) z)).mono hb hN⟩, f _ _ (D1.noref h1) (ref_ne_box h1 he) (ref_ne_list h1 h3) h1, f _ _ (D1.noref h2) (ref_ne_box h2 he) (ref_ne_list h2 h3) h2, L⟩
theorem Two.second (T : Two C H x y pw pd l b N ss) (ap : Apart x y) (he : BoxAt H e) (D : Duo C H' y n b' M) (L : WL H' l ss') (hb : b ≤ b') (hN : N ≤ M) (f : ∀ a o, ¬ y.own a → a ≠ e → a ≠ l → H a = some o → H' a = some o) : Two C H' x y pw pd l b' M ss' := by
  obtain ⟨⟨n1, A1, k1, k2, B1, D1⟩, ⟨n2, A2, j1, j2, B2, D2⟩, h1, h2, h3⟩ := T
  refine ⟨⟨n1, A1, k1, k2, B1, (D1.keep (fun a o ho z => f a o (ap a ho) (fun c => D1.nb he (c ▸ ho)) (fun c => h3.no D1 (c ▸ ho)) z) (fun t zs z => f t _ (D2.notup z) (by
    obtain ⟨_, _, _, _, w⟩ := he
    rintro rfl; rw [w] at z; cases z) (by
    rintro rfl
    have := h3.l
    rw [this] at z; cases z) z)).mono hb hN⟩, ⟨n, D⟩, f _ _ (D2.noref h1) (ref_ne_box h1 he) (ref_ne_list h1 h3) h1, f _ _ (D2.noref h2) (ref_ne_box h2 he) (ref_ne_list h2 h3) h2, L⟩
end
section
variable {C : Addr} {H : Hp} {x : Dad} {n b : Int} {N : Nat} {A : MarkM} {ks ks2 : List Str} {B : MarkM} {q : Addr} {ms : List Int}
theorem DuoX.noint (D : DuoX C H x n b N A ks ks2 B) (h : H q = some (.lst (ms.map V.int))) : ¬ x.own q := by
  obtain ⟨dx, a1⟩ := D.w.ob
  obtain ⟨v, a2, _⟩ := D.w.ma
  obtain ⟨k1, a2⟩ := a2.there
  obtain ⟨v2, ks', a3, _⟩ := D.w.tp
  obtain ⟨k2, a3⟩ := a3.there
  obtain ⟨k3, a4⟩ := D.t.there
  have a5 := D.l
  rintro (z | z | z | z | z)
  · rw [← z, h] at a1; cases a1
  · rw [← z, h] at a2; cases a2
  · rw [← z, h] at a3; cases a3
  · rw [← z, h] at a5
    match ms, a5 with
    | [], a5 => simp at a5
    | [_], a5 => simp at a5
    | [_, _], a5 => simp at a5
    | _ :: _ :: _ :: _, a5 => simp at a5
  · rw [← z, h] at a4; cases a4
end
end Ah
namespace Ah
open PySem PySem.Spec PyProof.Rows L2
def top (i : Nat) : Stmt := PySem.Challenge.pw_aheadword_k06_wood_deeds.main.body.getD i (.Pass ⟨0, 0, 0, 0⟩)
abbrev s_is_part : Stmt := top 8
theorem sc_is_part : FnScope ["text", "sign"] ["text"] (defScope s_is_part) := ⟨rfl, rfl, rfl, by decide +kernel, rfl, by decide +kernel, by decide +kernel⟩
theorem bi_is_part : BindOk "is_part" s_is_part ["text"] := fun _ _ _ _ _ _ us hl => match us, hl with | [_], _ => rfl
abbrev s_is_word : Stmt := top 9
theorem sc_is_word : FnScope ["thing", "parts", "part"] ["thing"] (defScope s_is_word) := ⟨rfl, rfl, rfl, by decide +kernel, rfl, by decide +kernel, by decide +kernel⟩
theorem bi_is_word : BindOk "is_word" s_is_word ["thing"] := fun _ _ _ _ _ _ us hl => match us, hl with | [_], _ => rfl
abbrev s_worth_at : Stmt := top 10
theorem sc_worth_at : FnScope ["mark", "era", "count", "begun"] ["mark", "era"] (defScope s_worth_at) := ⟨rfl, rfl, rfl, by decide +kernel, rfl, by decide +kernel, by decide +kernel⟩
theorem bi_worth_at : BindOk "worth_at" s_worth_at ["mark", "era"] := fun _ _ _ _ _ _ us hl => match us, hl with | [_, _], _ => rfl
abbrev s_used_mark : Stmt := top 11
theorem sc_used_mark : FnScope ["mark", "era", "times"] ["mark", "era", "times"] (defScope s_used_mark) := ⟨rfl, rfl, rfl, by decide +kernel, rfl, by decide +kernel, by decide +kernel⟩
theorem bi_used_mark : BindOk "used_mark" s_used_mark ["mark", "era", "times"] := fun _ _ _ _ _ _ us hl => match us, hl with | [_, _, _], _ => rfl
abbrev s_greatest_at : Stmt := top 12
theorem sc_greatest_at : FnScope ["marks", "era", "mark"] ["marks", "era"] (defScope s_greatest_at) := ⟨rfl, rfl, rfl, by decide +kernel, rfl, by decide +kernel, by decide +kernel⟩
theorem bi_greatest_at : BindOk "greatest_at" s_greatest_at ["marks", "era"] := fun _ _ _ _ _ _ us hl => match us, hl with | [_, _], _ => rfl
abbrev s_Wood___init__ : Stmt := inClass (top 15) 0
theorem sc_Wood___init__ : FnScope ["self"] ["self"] (defScope s_Wood___init__) := ⟨rfl, rfl, rfl, by decide +kernel, rfl, by decide +kernel, by decide +kernel⟩
abbrev s_Wood_put : Stmt := inClass (top 15) 1
theorem sc_Wood_put : FnScope ["self", "word", "count"] ["self", "word", "count"] (defScope s_Wood_put) := ⟨rfl, rfl, rfl, by decide +kernel, rfl, by decide +kernel, by decide +kernel⟩
abbrev s_Wood_use : Stmt := inClass (top 15) 2
theorem sc_Wood_use : FnScope ["self", "word", "times"] ["self", "word", "times"] (defScope s_Wood_use) := ⟨rfl, rfl, rfl, by decide +kernel, rfl, by decide +kernel, by decide +kernel⟩
abbrev s_Wood_strike : Stmt := inClass (top 15) 3
theorem sc_Wood_strike : FnScope ["self", "word"] ["self", "word"] (defScope s_Wood_strike) := ⟨rfl, rfl, rfl, by decide +kernel, rfl, by decide +kernel, by decide +kernel⟩
abbrev s_Wood_fade : Stmt := inClass (top 15) 4
theorem sc_Wood_fade : FnScope ["self", "times"] ["self", "times"] (defScope s_Wood_fade) := ⟨rfl, rfl, rfl, by decide +kernel, rfl, by decide +kernel, by decide +kernel⟩
abbrev s_Wood_era : Stmt := inClass (top 15) 5
theorem sc_Wood_era : FnScope ["self"] ["self"] (defScope s_Wood_era) := ⟨rfl, rfl, rfl, by decide +kernel, rfl, by decide +kernel, by decide +kernel⟩
abbrev s_Wood_has : Stmt := inClass (top 15) 6
theorem sc_Wood_has : FnScope ["self", "word"] ["self", "word"] (defScope s_Wood_has) := ⟨rfl, rfl, rfl, by decide +kernel, rfl, by decide +kernel, by decide +kernel⟩
abbrev s_Wood_worth_of : Stmt := inClass (top 15) 7
theorem sc_Wood_worth_of : FnScope ["self", "word"] ["self", "word"] (defScope s_Wood_worth_of) := ⟨rfl, rfl, rfl, by decide +kernel, rfl, by decide +kernel, by decide +kernel⟩
abbrev s_Wood_words : Stmt := inClass (top 15) 8
theorem sc_Wood_words : FnScope ["self", "word"] ["self"] (defScope s_Wood_words) := ⟨rfl, rfl, rfl, by decide +kernel, rfl, by decide +kernel, by decide +kernel⟩
abbrev s_Wood_ask_there : Stmt := inClass (top 15) 12
theorem sc_Wood_ask_there : FnScope ["self", "word"] ["self", "word"] (defScope s_Wood_ask_there) := ⟨rfl, rfl, rfl, by decide +kernel, rfl, by decide +kernel, by decide +kernel⟩
abbrev s_Wood_longer_by_one : Stmt := inClass (top 15) 13
theorem sc_Wood_longer_by_one : FnScope ["self", "text", "sign"] ["self", "text"] (defScope s_Wood_longer_by_one) := ⟨rfl, rfl, rfl, by decide +kernel, rfl, by decide +kernel, by decide +kernel⟩
abbrev s_Wood_renew_tops : Stmt := inClass (top 15) 14
theorem sc_Wood_renew_tops : FnScope ["self", "word", "size", "text", "behind", "other"] ["self", "word"] (defScope s_Wood_renew_tops) := ⟨rfl, rfl, rfl, by decide +kernel, rfl, by decide +kernel, by decide +kernel⟩
abbrev s_law_cell_at : Stmt := top 17
theorem sc_law_cell_at : FnScope ["_law_script", "_law_k"] ["_law_script", "_law_k"] (defScope s_law_cell_at) := ⟨rfl, rfl, rfl, by decide +kernel, rfl, by decide +kernel, by decide +kernel⟩
theorem bi_law_cell_at : BindOk "_law_cell_at" s_law_cell_at ["_law_script", "_law_k"] := fun _ _ _ _ _ _ us hl => match us, hl with | [_, _], _ => rfl
abbrev s_law_box : Stmt := top 18
theorem sc_law_box : FnScope ["_law_cell"] ["_law_cell"] (defScope s_law_box) := ⟨rfl, rfl, rfl, by decide +kernel, rfl, by decide +kernel, by decide +kernel⟩
theorem bi_law_box : BindOk "_law_box" s_law_box ["_law_cell"] := fun _ _ _ _ _ _ us hl => match us, hl with | [_], _ => rfl
abbrev s_law_take : Stmt := top 19
theorem sc_law_take : FnScope ["_law_box_here", "_law_many", "_law_found"] ["_law_box_here", "_law_many"] (defScope s_law_take) := ⟨rfl, rfl, rfl, by decide +kernel, rfl, by decide +kernel, by decide +kernel⟩
theorem bi_law_take : BindOk "_law_take" s_law_take ["_law_box_here", "_law_many"] := fun _ _ _ _ _ _ us hl => match us, hl with | [_, _], _ => rfl
abbrev s_law_is_word : Stmt := top 20
theorem sc_law_is_word : FnScope ["_law_thing", "_law_parts", "_law_part"] ["_law_thing"] (defScope s_law_is_word) := ⟨rfl, rfl, rfl, by decide +kernel, rfl, by decide +kernel, by decide +kernel⟩
theorem bi_law_is_word : BindOk "_law_is_word" s_law_is_word ["_law_thing"] := fun _ _ _ _ _ _ us hl => match us, hl with | [_], _ => rfl
abbrev s_law_word : Stmt := top 21
theorem sc_law_word : FnScope ["_law_box_here", "_law_letters", "_law_parts", "_law_k", "_law_size", "_law_j"] ["_law_box_here"] (defScope s_law_word) := ⟨rfl, rfl, rfl, by decide +kernel, rfl, by decide +kernel, by decide +kernel⟩
theorem bi_law_word : BindOk "_law_word" s_law_word ["_law_box_here"] := fun _ _ _ _ _ _ us hl => match us, hl with | [_], _ => rfl
abbrev s_law_next_word : Stmt := top 22
theorem sc_law_next_word : FnScope ["_law_box_here", "_law_words", "_law_way", "_law_one", "_law_near"] ["_law_box_here", "_law_words"] (defScope s_law_next_word) := ⟨rfl, rfl, rfl, by decide +kernel, rfl, by decide +kernel, by decide +kernel⟩
theorem bi_law_next_word : BindOk "_law_next_word" s_law_next_word ["_law_box_here", "_law_words"] := fun _ _ _ _ _ _ us hl => match us, hl with | [_, _], _ => rfl
abbrev s_law_count : Stmt := top 23
theorem sc_law_count : FnScope ["_law_box_here", "_law_way"] ["_law_box_here"] (defScope s_law_count) := ⟨rfl, rfl, rfl, by decide +kernel, rfl, by decide +kernel, by decide +kernel⟩
theorem bi_law_count : BindOk "_law_count" s_law_count ["_law_box_here"] := fun _ _ _ _ _ _ us hl => match us, hl with | [_], _ => rfl
abbrev s_law_times : Stmt := top 24
theorem sc_law_times : FnScope ["_law_box_here"] ["_law_box_here"] (defScope s_law_times) := ⟨rfl, rfl, rfl, by decide +kernel, rfl, by decide +kernel, by decide +kernel⟩
theorem bi_law_times : BindOk "_law_times" s_law_times ["_law_box_here"] := fun _ _ _ _ _ _ us hl => match us, hl with | [_], _ => rfl
abbrev s_law_faded : Stmt := top 25
theorem sc_law_faded : FnScope ["_law_worths", "_law_times_here", "_law_word_here", "_law_k"] ["_law_worths", "_law_times_here"] (defScope s_law_faded) := ⟨rfl, rfl, rfl, by decide +kernel, rfl, by decide +kernel, by decide +kernel⟩
theorem bi_law_faded : BindOk "_law_faded" s_law_faded ["_law_worths", "_law_times_here"] := fun _ _ _ _ _ _ us hl => match us, hl with | [_, _], _ => rfl
abbrev s_law_put : Stmt := top 26
theorem sc_law_put : FnScope ["_law_wood", "_law_due", "_law_word_here", "_law_count_here"] ["_law_wood", "_law_due", "_law_word_here", "_law_count_here"] (defScope s_law_put) := ⟨rfl, rfl, rfl, by decide +kernel, rfl, by decide +kernel, by decide +kernel⟩
theorem bi_law_put : BindOk "_law_put" s_law_put ["_law_wood", "_law_due", "_law_word_here", "_law_count_here"] := fun _ _ _ _ _ _ us hl => match us, hl with | [_, _, _, _], _ => rfl
abbrev s_law_use : Stmt := top 27
theorem sc_law_use : FnScope ["_law_box_here", "_law_wood", "_law_due", "_law_word_here", "_law_times_here"] ["_law_box_here", "_law_wood", "_law_due", "_law_word_here"] (defScope s_law_use) := ⟨rfl, rfl, rfl, by decide +kernel, rfl, by decide +kernel, by decide +kernel⟩
theorem bi_law_use : BindOk "_law_use" s_law_use ["_law_box_here", "_law_wood", "_law_due", "_law_word_here"] := fun _ _ _ _ _ _ us hl => match us, hl with | [_, _, _, _], _ => rfl
abbrev s_law_fade : Stmt := top 28
theorem sc_law_fade : FnScope ["_law_box_here", "_law_wood", "_law_due", "_law_times_here"] ["_law_box_here", "_law_wood", "_law_due"] (defScope s_law_fade) := ⟨rfl, rfl, rfl, by decide +kernel, rfl, by decide +kernel, by decide +kernel⟩
theorem bi_law_fade : BindOk "_law_fade" s_law_fade ["_law_box_here", "_law_wood", "_law_due"] := fun _ _ _ _ _ _ us hl => match us, hl with | [_, _, _], _ => rfl
abbrev s_law_deed : Stmt := top 29
theorem sc_law_deed : FnScope ["_law_box_here", "_law_wood", "_law_due", "_law_words", "_law_way", "_law_word_here"] ["_law_box_here", "_law_wood", "_law_due", "_law_words"] (defScope s_law_deed) := ⟨rfl, rfl, rfl, by decide +kernel, rfl, by decide +kernel, by decide +kernel⟩
theorem bi_law_deed : BindOk "_law_deed" s_law_deed ["_law_box_here", "_law_wood", "_law_due", "_law_words"] := fun _ _ _ _ _ _ us hl => match us, hl with | [_, _, _, _], _ => rfl
abbrev s_law_stands : Stmt := top 30
theorem sc_law_stands : FnScope ["_law_wood", "_law_due", "_law_words", "_law_again", "_law_found", "_law_whole", "_law_word_here", "_law_one", "_law_text"] ["_law_wood", "_law_due", "_law_words"] (defScope s_law_stands) := ⟨rfl, rfl, rfl, by decide +kernel, rfl, by decide +kernel, by decide +kernel⟩
theorem bi_law_stands : BindOk "_law_stands" s_law_stands ["_law_wood", "_law_due", "_law_words"] := fun _ _ _ _ _ _ us hl => match us, hl with | [_, _, _], _ => rfl
abbrev s_law : Stmt := top 31
theorem sc_law : FnScope ["_law_script", "_law_woods", "_law_dues", "_law_words", "_law_box_here", "_law_k", "_law_word_here", "_law_cell", "_law_at"] ["_law_script"] (defScope s_law) := ⟨rfl, rfl, rfl, by decide +kernel, rfl, by decide +kernel, by decide +kernel⟩
theorem bi_law : BindOk "law" s_law ["_law_script"] := fun _ _ _ _ _ _ us hl => match us, hl with | [_], _ => rfl
structure Top (K : PySem.W.Frag) (mg : Str → Option Value) (C_Wood X_Absent X_NoWord X_Twice : Addr) : Prop where
  cl_Wood : Cls K C_Wood
  na_Wood_marks : NoAttr K C_Wood "marks"
  na_Wood_tops : NoAttr K C_Wood "tops"
  na_Wood_now : NoAttr K C_Wood "now"
  x_Absent : ExcAt K mg "Absent" X_Absent
  x_NoWord : ExcAt K mg "NoWord" X_NoWord
  x_Twice : ExcAt K mg "Twice" X_Twice
  in_Wood : InitAt K mg C_Wood "Wood" "Wood.__init__" s_Wood___init__ ["self"]
  me_Wood_put : MethAt K C_Wood "put" "Wood.put" s_Wood_put ["self", "word", "count"] []
  me_Wood_use : MethAt K C_Wood "use" "Wood.use" s_Wood_use ["self", "word", "times"] [V.int 1]
  me_Wood_strike : MethAt K C_Wood "strike" "Wood.strike" s_Wood_strike ["self", "word"] []
  me_Wood_fade : MethAt K C_Wood "fade" "Wood.fade" s_Wood_fade ["self", "times"] [V.int 1]
  me_Wood_era : MethAt K C_Wood "era" "Wood.era" s_Wood_era ["self"] []
  me_Wood_has : MethAt K C_Wood "has" "Wood.has" s_Wood_has ["self", "word"] []
  me_Wood_worth_of : MethAt K C_Wood "worth_of" "Wood.worth_of" s_Wood_worth_of ["self", "word"] []
  me_Wood_words : MethAt K C_Wood "words" "Wood.words" s_Wood_words ["self"] []
  me_Wood_ask_there : MethAt K C_Wood "ask_there" "Wood.ask_there" s_Wood_ask_there ["self", "word"] []
  me_Wood_longer_by_one : MethAt K C_Wood "longer_by_one" "Wood.longer_by_one" s_Wood_longer_by_one ["self", "text"] []
  me_Wood_renew_tops : MethAt K C_Wood "renew_tops" "Wood.renew_tops" s_Wood_renew_tops ["self", "word"] []
  n_bool : mg "bool" = none
  n_isinstance : mg "isinstance" = none
  n_len : mg "len" = none
  n_list : mg "list" = none
  n_max : mg "max" = none
  n_min : mg "min" = none
  n_range : mg "range" = none
  n_sorted : mg "sorted" = none
  n_str : mg "str" = none
  n_tuple : mg "tuple" = none
  c_LETTERS : ∃ t, mg "LETTERS" = some (.str "abcdefghijklmnopqrstuvwxyz" t)
  c_SIGNS : ∃ t, mg "SIGNS" = some (.str " abcdefghijklmnopqrstuvwxyz" t)
  d_is_part : DefAt K mg "is_part" s_is_part
  d_is_word : DefAt K mg "is_word" s_is_word
  d_worth_at : DefAt K mg "worth_at" s_worth_at
  d_used_mark : DefAt K mg "used_mark" s_used_mark
  d_greatest_at : DefAt K mg "greatest_at" s_greatest_at
  d_law_cell_at : DefAt K mg "_law_cell_at" s_law_cell_at
  d_law_box : DefAt K mg "_law_box" s_law_box
  d_law_take : DefAt K mg "_law_take" s_law_take
  d_law_is_word : DefAt K mg "_law_is_word" s_law_is_word
  d_law_word : DefAt K mg "_law_word" s_law_word
  d_law_next_word : DefAt K mg "_law_next_word" s_law_next_word
  d_law_count : DefAt K mg "_law_count" s_law_count
  d_law_times : DefAt K mg "_law_times" s_law_times
  d_law_faded : DefAt K mg "_law_faded" s_law_faded
  d_law_put : DefAt K mg "_law_put" s_law_put
  d_law_use : DefAt K mg "_law_use" s_law_use
  d_law_fade : DefAt K mg "_law_fade" s_law_fade
  d_law_deed : DefAt K mg "_law_deed" s_law_deed
  d_law_stands : DefAt K mg "_law_stands" s_law_stands
/-! ### short steps -/
local macro_rules | `(tactic| walk_at "ne") => `(tactic| first | assumption | (apply Ne.symm; assumption) | (exact ne_of_none (by assumption) (by assumption)) | (exact (ne_of_none (by assumption) (by assumption)).symm))
local macro_rules | `(tactic| walk_at "hp") => `(tactic| first | assumption | exact upd_same | (refine' (upd_ne ?n).trans ?h; (case n => walk_at "ne"); (case h => walk_at "hp")))
local macro_rules | `(tactic| walk_at "sq") => `(tactic| first | assumption | (refine' SqL.of ?h; (case h => walk_at "hp")))
local macro_rules | `(tactic| walk_at "st") => `(tactic| first | assumption | (refine' SqT.of ?h; (case h => walk_at "hp")))
local macro_rules | `(tactic| walk_at "sd") => `(tactic| first | assumption | decide | (constructor <;> decide) | omega | (constructor <;> omega) | (refine Or.inr ?_; constructor <;> decide) | (refine Or.inr ?_; constructor <;> omega))
local macro_rules | `(tactic| walk_at "kb") => `(tactic| first | exact kb_int_int | exact kb_int_bool | exact kb_int_str | exact kb_int_list | exact kb_int_tuple | exact kb_bool_int | exact kb_bool_bool | exact kb_bool_str | exact kb_bool_list | exact kb_bool_tuple | exact kb_str_int | exact kb_str_bool | exact kb_str_str | exact kb_str_list | exact kb_str_tuple | exact kb_NoneType_int | exact kb_NoneType_bool | exact kb_NoneType_str | exact kb_NoneType_list | exact kb_NoneType_tuple | exact kb_list_int | exact kb_list_bool | exact kb_list_str | exact kb_list_list | exact kb_list_tuple | exact kb_tuple_int | exact kb_tuple_bool | exact kb_tuple_str | exact kb_tuple_list | exact kb_tuple_tuple | exact kb_dict_int | exact kb_dict_bool | exact kb_dict_str | exact kb_dict_list | exact kb_dict_tuple)
local macro_rules | `(tactic| walk_at "ty") => `(tactic| first | exact .base (.int _) | exact .base (.bl _) | exact .base (.str _) | exact .base .non | (refine' .base (.tup ?h); (case h => walk_at "hp")) | (refine' .base (.lst ?h); (case h => walk_at "hp")))
local macro_rules | `(tactic| walk_at "u") => `(tactic| with_reducible first
  | refine u_seq ?_
  | refine u_asg ?_
  | refine u_drop ?_
  | refine u_ret ?_
  | refine u_retN ?_
  | refine u_next ?_
  | refine u_brk ?_
  | refine u_cont ?_
  | refine u_ifS ?_
  | refine u_op ?_
  | refine u_un ?_
  | refine u_c ?_
  | refine u_and ?_
  | refine u_or ?_
  | refine u_not ?_
  | refine u_andV ?_
  | refine u_orV ?_
  | refine u_notV ?_
  | refine u_if ?_
  | refine u_test ?_
  | refine u_B ?_
  | refine u_chain ?_
  | refine u_name ?_
  | refine u_sub ?_
  | refine u_nil ?_
  | refine u_cons ?_
  | refine u_call ?_
  | refine u_CB ?_
  | refine u_tup ?_
  | refine u_lst ?_
  | refine u_for ?_
  | refine u_iList ?_
  | refine u_iTup ?_
  | refine u_iRng1 ?_
  | refine u_iRng2 ?_
  | refine u_sl ?_
  | refine u_part ?_
  | refine u_nopart ?_
  | refine u_lc ?_
  | refine u_iStr ?_
  | refine u_M0 ?_
  | refine u_M1 ?_
  | refine u_bm ?_
  | refine u_bm0 ?_
  | refine u_yes ?_
  | refine u_gcons ?_
  | refine u_gnil ?_)
local macro_rules | `(tactic| walk_at "s") => `(tactic| first
  | ((with_reducible refine' s_var ?h ?q); (case h => rfl))
  | with_reducible refine s_ii ?_
  | ((with_reducible refine' s_eq ?h ?q); (case h => rfl))
  | ((with_reducible refine' s_ne ?h ?q); (case h => rfl))
  | with_reducible refine iteF ?_
  | with_reducible refine iteT ?_
  | with_reducible refine ntT ?_
  | with_reducible refine ntF ?_
  | (with_reducible refine Exists.intro _ (And.intro (show V.bl _ = V.bl _ from rfl) ?_))
  | (with_reducible refine s_isStr ?_)
  | (with_reducible refine Exists.intro _ (And.intro (show V.str _ = V.str _ from rfl) ?_))
  | (with_reducible refine Exists.intro _ (And.intro (show V.int _ = V.int _ from rfl) ?_))
  | (with_reducible refine Exists.intro _ (And.intro (show [V.int _] = [V.int _] from rfl) ?_))
  | (with_reducible refine Exists.intro _ (And.intro (show V.ref _ = V.ref _ from rfl) ?_))
  | with_reducible refine s_un ?_
  | ((with_reducible refine' s_ixL ?h ?a ?q); (case h => walk_at "sq"); (case a => rfl))
  | ((with_reducible refine' s_ixT ?h ?a ?q); (case h => walk_at "st"); (case a => rfl))
  | ((with_reducible refine' s_setL ?h ?a ?k); (case h => walk_at "hp"); (case a => rfl))
  | ((with_reducible refine' s_tyL ?h ?k); (case h => walk_at "sq"))
  | ((with_reducible refine' s_slL ?h ?q); (case h => walk_at "sq"))
  | ((with_reducible refine' s_isi ?t ?k ?q); (case t => walk_at "ty"); (case k => walk_at "kb"))
  | ((with_reducible refine' s_gtup ?h ?l ?k); (case h => walk_at "st"); (case l => rfl))
  | ((refine' ⟨_, _, rfl, Or.inl ?h, ?q⟩); (case h => walk_at "sq"))
  | ((refine' ⟨_, _, rfl, Or.inr ?h, ?q⟩); (case h => walk_at "st"))
  | ((with_reducible refine' s_iiC ?c ?q); (case c => walk_at "sd")))
local macro_rules | `(tactic| walk_at "go") => `(tactic| repeat first | walk_at "u" | walk_at "s")
/-! ### steps of objects -/
local macro_rules | `(tactic| walk_at "lk") => `(tactic| assumption)
local macro_rules | `(tactic| walk_at "no") => `(tactic| assumption)
local macro_rules | `(tactic| walk_at "wl") => `(tactic| assumption)
local macro_rules | `(tactic| walk_at "u") => `(tactic| with_reducible first
  | refine u_fld ?_
  | refine u_sfld ?_
  | refine u_meth ?_
  | refine u_make ?_)
local macro_rules | `(tactic| walk_at "s") => `(tactic| first
  | ((with_reducible refine' s_fld ?h ?c ?n ?l ?q); (case h => walk_at "hp"); (case c => assumption); (case n => assumption); (case l => walk_at "lk"))
  | ((with_reducible refine' s_sfld ?h ?c ?n ?l ?q); (case h => walk_at "hp"); (case c => assumption); (case n => assumption); (case l => walk_at "wl"))
  | ((with_reducible refine' s_meth ?h ?l ?q); (case h => walk_at "hp"); (case l => walk_at "no"))
  | ((with_reducible refine' s_methD ?h ?l ?q); (case h => walk_at "hp"); (case l => walk_at "no")))
/-! ### steps of dicts -/
local macro_rules | `(tactic| walk_at "u") => `(tactic| with_reducible first
  | refine u_din ?_
  | refine u_dnotin ?_
  | refine u_dget ?_
  | refine u_dput ?_
  | refine u_dpop1 ?_
  | refine u_dpop2 ?_
  | refine u_dnew ?_)
local macro_rules | `(tactic| walk_at "s") => `(tactic| first
  | ((with_reducible refine' s_din ?h ?q); (case h => assumption))
  | ((with_reducible refine' s_dnotin ?h ?q); (case h => assumption)))
/-! ### a wood's fields -/
local macro_rules | `(tactic| walk_at "lk") => `(tactic| first | exact wf_marks | exact wf_tops | exact wf_now)
local macro_rules | `(tactic| walk_at "no") => `(tactic| exact wf_no (by decide +kernel) (by decide +kernel) (by decide +kernel))
local macro_rules | `(tactic| walk_at "wl") => `(tactic| exact wf_len)
local macro_rules | `(tactic| walk_at "u") => `(tactic| with_reducible refine u_iRng3 ?_)
section
variable {P : Program} {w : World} {K : PySem.W.Frag} {mg : Str → Option Value} {base : Heap} {C_Wood X_Absent X_NoWord X_Twice : Addr}
theorem ok_law_box (T : Top K mg C_Wood X_Absent X_NoWord X_Twice)  : Fn P w K mg base 1 "_law_box" ["_law_cell"] spBox := by
  refine T.d_law_box.ok sc_law_box bi_law_box (fun vs H Q E h => ?_) (fun f cdv A outer s H vs Q E hr h => ?_)
  · obtain ⟨c, rfl, k⟩ := h; rfl
  · obtain ⟨c, rfl, k⟩ := h
    have cl_Wood := T.cl_Wood
    have na_Wood_marks := T.na_Wood_marks
    have na_Wood_tops := T.na_Wood_tops
    have na_Wood_now := T.na_Wood_now
    refine ⟨_, (pss_one (ps_ret (pe_lst (pa_cons (pe_op op_fdiv (pv 0) (pe_int)) (pa_cons (pe_op op_mod (pv 0) (pe_int)) (pa_cons (pe_int) (pa_cons (pv 0) pa_nil))))))), ?_⟩
    walk_at "go"
    exact ⟨sz (by simp), fun p hp => k p _ hp (Same.new (Same.refl _) hp) ⟨_, _, _, _, upd_same⟩⟩
theorem ok_Wood___init__ (T : Top K mg C_Wood X_Absent X_NoWord X_Twice)  : FnI P w K mg base 1 C_Wood "Wood" ["self"] (spWInit C_Wood) := by
  refine T.in_Wood.ok sc_Wood___init__ (fun vs H Q E h => ?_) (fun f cdv A outer s H vs Q E hr h => ?_)
  · obtain ⟨p, dx, rfl, hp, k⟩ := h; rfl
  · obtain ⟨p, dx, rfl, hp, k⟩ := h
    have cl_Wood := T.cl_Wood
    have na_Wood_marks := T.na_Wood_marks
    have na_Wood_tops := T.na_Wood_tops
    have na_Wood_now := T.na_Wood_now
    refine ⟨_, (pss_cons (ps_fld (pv 0) (pe_dnewK) rfl)
    (pss_cons (ps_fld (pv 0) (pe_dnewK) rfl)
    (pss_one (ps_fld (pv 0) (pe_int) rfl)))), ?_⟩
    walk_at "go"
    intro dm hdm
    walk_at "go"
    refine s_sfld (keepN hp hdm) cl_Wood na_Wood_marks (by decide) ?_
    walk_at "go"
    intro dt hdt
    walk_at "go"
    have n1 : p ≠ dt := ne_of_none (upd_same : upd (upd H dm (.dK [])) p _ p = _) hdt
    have n0 : p ≠ dm := ne_of_none hp hdm
    have nn : dm ≠ dt := ne_of_none (show upd (upd H dm (.dK [])) p _ dm = some (.dK []) by rw [upd_ne n0.symm, upd_same]) hdt
    refine s_sfld (keepN upd_same hdt) cl_Wood na_Wood_tops (by show 1 < 1000; decide) ?_
    walk_at "go"
    refine s_sfld upd_same cl_Wood na_Wood_now (by
      have := length_putF "tops" (V.ref dt) (putF "marks" (V.ref dm) [])
      have := length_putF "marks" (V.ref dm) []
      simp at *
      omega) ?_
    have hdt0 : H dt = none := by
      have := hdt
      rw [upd_ne n1.symm, upd_ne nn.symm] at this
      exact this
    refine k dm dt _ ⟨⟨⟨dx, upd_same⟩, ⟨_, TD.keep (TD.new (H := H) (p := dm)) ?_, fun _ => .inl ⟨rfl, rfl⟩⟩, ⟨_, [], TD.keep (TD.new (H := H) (p := dt)) ?_, Nat.le_refl _, fun _ => .inl ⟨rfl, rfl⟩⟩, Nat.le_refl _, nn, fun w m e => nomatch e⟩, fun x => .inl ⟨rfl, fun w hw => absurd rfl hw⟩⟩ hdm hdt0 ?_
    · rw [upd_ne n0.symm, upd_ne n0.symm, upd_ne nn, upd_ne n0.symm, upd_same]
    · rw [upd_ne n1.symm, upd_ne n1.symm, upd_same, upd_same]
    · intro b o nb e
      rw [upd_ne nb, upd_ne nb, upd_ne (ne_of_none e hdt0), upd_ne nb, upd_ne (ne_of_none e hdm)]
      exact e
theorem ok_law_cell_at (T : Top K mg C_Wood X_Absent X_NoWord X_Twice)  : Fn P w K mg base 1 "_law_cell_at" ["_law_script", "_law_k"] (spCell K) := by
  refine T.d_law_cell_at.ok sc_law_cell_at bi_law_cell_at (fun vs H Q E h => ?_) (fun f cdv A outer s H vs Q E hr h => ?_)
  · obtain ⟨a, ns, i, rfl, hS, h0, k⟩ := h; rfl
  · obtain ⟨a, ns, i, rfl, hS, h0, k⟩ := h
    have cl_Wood := T.cl_Wood
    have na_Wood_marks := T.na_Wood_marks
    have na_Wood_tops := T.na_Wood_tops
    have na_Wood_now := T.na_Wood_now
    refine ⟨_, (pss_cons (ps_if (pt_cmpR op_lt (pv 1) (pe_callB call_len_seq rfl T.n_len (by decide +kernel) (pa_cons (pv 0) pa_nil)) (nomark _)) (pss_one (ps_ret (pe_ix ix_list (pv 0) (pv 1) (fun _ _ => rfl)))) pss_nil)
    (pss_one (ps_ret (pe_int)))), ?_⟩
    walk_at "go"
    refine dT (fun hc => ?_) (fun hc => ?_)
    · walk_at "go"
      rw [List.length_map] at hc
      obtain ⟨j, rfl⟩ : ∃ j : Nat, i = (j : Int) := ⟨i.toNat, by omega⟩
      have hj : j < ns.length := by omega
      exact ⟨a, ns.map V.int, j, .int ns[j], rfl, rfl, hS, atI_nat (by simp [hj]), k _⟩
    · walk_at "go"
      exact k _
theorem ok_law_take (T : Top K mg C_Wood X_Absent X_NoWord X_Twice)  : Fn P w K mg base 1 "_law_take" ["_law_box_here", "_law_many"] spTake := by
  refine T.d_law_take.ok sc_law_take bi_law_take (fun vs H Q E h => ?_) (fun f cdv A outer s H vs Q E hr h => ?_)
  · obtain ⟨b, m, rfl, ⟨x0, x1, x2, x3, hb⟩, hm, hl, k⟩ := h; rfl
  · obtain ⟨b, m, rfl, ⟨x0, x1, x2, x3, hb⟩, hm, hl, k⟩ := h
    have cl_Wood := T.cl_Wood
    have na_Wood_marks := T.na_Wood_marks
    have na_Wood_tops := T.na_Wood_tops
    have na_Wood_now := T.na_Wood_now
    refine ⟨_, (pss_cons (ps_asg (pe_op op_add (pe_ix ix_list (pv 0) (pe_int) (fun _ _ => rfl)) (pe_int)) (pg_sub (pv 0) (pe_int) set_list))
    (Evl.pss_cut (ps_if (PW.pt (pw_and (pt_cmpR op_eq (pe_ix ix_list (pv 0) (pe_int) (fun _ _ => rfl)) (pe_int) (nomark _)) (pw_and1 (pt_chain op_le op_le (pe_un un_neg (pe_int)) (pe_ix ix_list (pv 0) (pe_int) (fun _ _ => rfl)) (pe_int))))) (pss_cons (ps_asg (pe_ix ix_list (pv 0) (pe_int) (fun _ _ => rfl)) (pg_sub (pv 0) (pe_int) set_list))
    (pss_one (ps_asg (pe_int) (pg_sub (pv 0) (pe_int) set_list)))) pss_nil)
    (pss_cons (ps_if (pt_cmpR op_eq (pe_ix ix_list (pv 0) (pe_int) (fun _ _ => rfl)) (pe_int) (nomark _)) (pss_cons (ps_set (i := 2) sc_law_take.nd rfl (Or.inl rfl) (pe_op op_mod (pe_ix ix_list (pv 0) (pe_int) (fun _ _ => rfl)) (pv 1)))
    (pss_cons (ps_asg (pe_op op_fdivW (pe_ix ix_list (pv 0) (pe_int) (fun _ _ => rfl)) (pv 1)) (pg_sub (pv 0) (pe_int) set_list))
    (pss_one (ps_ret (pv 2))))) pss_nil)
    (pss_cons (ps_asg (pe_op op_mod (pe_op op_add (pe_op op_add (pe_op op_mul (pe_op op_mod (pe_ix ix_list (pv 0) (pe_int) (fun _ _ => rfl)) (pe_int)) (pe_int)) (pe_op op_mul (pe_int) (pe_ix ix_list (pv 0) (pe_int) (fun _ _ => rfl)))) (pe_int)) (pe_int)) (pg_sub (pv 0) (pe_int) set_list))
    (pss_one (ps_ret (pe_op op_mod (pe_op op_fdiv (pe_op op_mod (pe_op op_mul (pe_ix ix_list (pv 0) (pe_int) (fun _ _ => rfl)) (pe_int)) (pe_int)) (pe_int)) (pv 1)))))))), ?_⟩
    walk_at "go"
    refine u_cut (M := fun σ H' => σ = [some (.ref b), some (.int m), none] ∧ BoxAt H' b ∧ But b H H') ?_ ?_
    · walk_at "go"
      refine bT (fun hc => ?_) (fun hc => ?_)
      · walk_at "go"
        refine bT (fun hc => ?_) (fun hc => ?_)
        · walk_at "go"
          refine bT (fun hc => ?_) (fun hc => ?_)
          · walk_at "go"
            exact ⟨rfl, ⟨_, _, _, _, upd_same⟩, ((But.refl.upd).upd).upd⟩
          · walk_at "go"
            exact ⟨rfl, ⟨_, _, _, _, upd_same⟩, But.refl.upd⟩
        · walk_at "go"
          exact ⟨rfl, ⟨_, _, _, _, upd_same⟩, But.refl.upd⟩
      · walk_at "go"
        exact ⟨rfl, ⟨_, _, _, _, upd_same⟩, But.refl.upd⟩
    · rintro σ' H' ⟨rfl, ⟨y0, y1, y2, y3, hb'⟩, hs⟩
      have hd : CDivW y0 m := divW hm hl
      walk_at "go"
      refine bT (fun hc => ?_) (fun hc => ?_)
      · walk_at "go"
        exact k _ _ (Int.emod_nonneg _ (by omega)) (Int.emod_lt_of_pos _ hm) ⟨_, _, _, _, upd_same⟩ hs.upd
      · walk_at "go"
        exact k _ _ (Int.emod_nonneg _ (by omega)) (Int.emod_lt_of_pos _ hm) ⟨_, _, _, _, upd_same⟩ hs.upd
theorem ok_law_is_word (T : Top K mg C_Wood X_Absent X_NoWord X_Twice)  : Fn P w K mg base 1 "_law_is_word" ["_law_thing"] spFit2 := by
  refine T.d_law_is_word.ok sc_law_is_word bi_law_is_word (fun vs H Q E h => ?_) (fun f cdv A outer s H vs Q E hr h => ?_)
  · obtain ⟨s, rfl, hs, ho, k⟩ := h; rfl
  · obtain ⟨s, rfl, hs, ho, k⟩ := h
    have cl_Wood := T.cl_Wood
    have na_Wood_marks := T.na_Wood_marks
    have na_Wood_tops := T.na_Wood_tops
    have na_Wood_now := T.na_Wood_now
    refine ⟨_, (pss_cons (ps_set (i := 1) sc_law_is_word.nd rfl (Or.inl rfl) (pe_split (pv 0) (pe_str)))
    (pss_cons (ps_if (PW.pt (pw_or (pt_cmpR op_gt (pe_callB call_len_str rfl T.n_len (by decide +kernel) (pa_cons (pv 0) pa_nil)) (pe_int) (nomark _)) (pw_or1 (pt_cmpR op_gt (pe_callB call_len_seq rfl T.n_len (by decide +kernel) (pa_cons (pv 1) pa_nil)) (pe_int) (nomark _))))) (pss_one (ps_ret (pe_bl))) pss_nil)
    (pss_one (ps_ret (pe_cmpR (op_eqD hr.units) (pe_lc (own := [("_law_part", 2)]) (by rfl) sc_law_is_word.nd (pi_list (pv 1)) (blkOk_by (own := [("_law_part", 2)]) (N := ["_law_thing", "_law_parts", "_law_part"]) (sc := defScope s_law_is_word) (by decide +kernel)) (fun _ _ _ _ _ => (pg_name (i := 2) sc_law_is_word.nd rfl (Or.inl rfl))) (fun _ _ _ _ _ => (pts_one (PW.pt (pw_or (pt_cmpR op_lt (pe_callB call_len_str rfl T.n_len (by decide +kernel) (pa_cons (pv 2) pa_nil)) (pe_int) (nomark _)) (pw_or1 (pt_cmpR op_gt (pe_callB call_len_str rfl T.n_len (by decide +kernel) (pa_cons (pv 2) pa_nil)) (pe_int) (nomark _))))))) (fun _ _ _ _ _ => (pv 2))) (pe_lst pa_nil) (nomark _)))))), ?_⟩
    have hz : s.length ≤ sizeLine := sz hs
    walk_at "go"
    refine ⟨s, _, rfl, rfl, by decide +kernel, by rw [sizeLine_eq]; omega, fun p hp => ?_⟩
    walk_at "go"
    generalize hys : Txt.split s (Str.ofString " ") = ys
    have e := split_blank s
    rw [hys] at e
    have hL : (upd H p (.lst (ys.map V.str))) p = some (.lst (ys.map V.str)) := upd_same
    have sq : Same H (upd H p (.lst (ys.map V.str))) := Same.new (Same.refl H) hp
    generalize (upd H p (.lst (ys.map V.str))) = G at hL sq ⊢
    have hf : fit2L (TL.tl s) = (decide (s.length ≤ 24) && (decide (ys.length ≤ 4) && ys.all fun y => decide (1 ≤ y.length) && decide (y.length ≤ 12))) := by
      unfold fit2L
      rw [← e, List.length_map, List.all_map, TL.len_tl]
      congr 2
    have hmem : ∀ y ∈ ys, y.length ≤ sizeLine ∧ PyData.strOk y = true := fun y hy => by
      obtain ⟨a, b⟩ := split_mem (s := s) (by rw [hys]; exact hy)
      refine ⟨?_, strOk_iff.mpr fun c hc => strOk_iff.mp ho c (b c hc)⟩
      rw [← TL.len_tl, ← TL.len_tl] at a
      omega
    refine ⟨s, rfl, hz, ?_⟩
    walk_at "go"
    refine dT (fun h1 => ?_) (fun h1 => ?_)
    · walk_at "go"
      rw [decide_eq_false (show ¬ s.length ≤ 24 by omega), Bool.false_and] at hf
      rw [← hf]
      exact k _ sq
    walk_at "go"
    rw [List.length_map]
    refine dT (fun h2 => ?_) (fun h2 => ?_)
    · walk_at "go"
      rw [decide_eq_false (show ¬ ys.length ≤ 4 by omega), Bool.false_and, Bool.and_false] at hf
      rw [← hf]
      exact k _ sq
    rw [decide_eq_true (show s.length ≤ 24 by omega), decide_eq_true (show ys.length ≤ 4 by omega), Bool.true_and, Bool.true_and] at hf
    walk_at "go"
    refine ⟨⟨_, SqL.of hL⟩, fun D hD => ?_⟩
    have yl : ys.length ≤ 100000 := by omega
    refine lc_list (xs := ys.map V.str) (PvV (resF ys (fun y => !(decide (1 ≤ y.length) && decide (y.length ≤ 12))) V.str) _ D) (lc_begin hD resF_0) (fun i H' _ p => p.1.seq (SqL.of hL)) ?_ ?_
    · intro i x H' hi pv
      obtain ⟨y, hy, rfl⟩ := map_get hi
      have hm := hmem y (List.mem_of_getElem? hy)
      walk_at "go"
      refine ⟨rfl, ?_⟩
      walk_at "go"
      refine ⟨y, rfl, hm.1, ?_⟩
      walk_at "go"
      refine dT (fun h3 => ?_) (fun h3 => ?_)
      · walk_at "go"
        exact lc_put pv hD (Same.refl _) (resF_y hy (by rw [decide_eq_false (show ¬ 1 ≤ y.length by omega)]; rfl)) (resF_len yl)
      walk_at "go"
      refine ⟨y, rfl, hm.1, ?_⟩
      walk_at "go"
      refine bT (fun h4 => ?_) (fun h4 => ?_)
      · walk_at "go"
        have h5 := of_decide_eq_true h4
        exact lc_put pv hD (Same.refl _) (resF_y hy (by rw [decide_eq_false (show ¬ y.length ≤ 12 by omega)]; simp)) (resF_len yl)
      · have h5 := of_decide_eq_false h4
        exact lc_skip pv (Same.refl _) (resF_n hy (by rw [decide_eq_true (show 1 ≤ y.length by omega), decide_eq_true (show y.length ≤ 12 by omega)]; rfl))
    · intro H' pv
      rw [List.length_map] at pv
      have hF : H' D = some (.lst ((ys.filter (fun y => !(decide (1 ≤ y.length) && decide (y.length ≤ 12)))).map V.str)) := by rw [pv.2, resF_all rfl]
      walk_at "go"
      refine ⟨sz (by simp), fun em nem => ?_⟩
      refine s_eqD (d := .list ((ys.filter (fun y => !(decide (1 ≤ y.length) && decide (y.length ≤ 12)))).map .str)) (.lst (SqL.of (by rw [upd_ne (ne_of_none hF nem)]; exact hF)) (DpAll.of_map fun y _ => .str y)) (.lst (SqL.of upd_same) .nil)
        (shaped_of (ok_strs fun y hy => (hmem y (List.mem_filter.mp hy).1).2)) rfl ?_
      rw [eqv_strs_nil]
      have : (ys.filter (fun y => !(decide (1 ≤ y.length) && decide (y.length ≤ 12)))).isEmpty = fit2L (TL.tl s) := by
        rw [hf, Bool.eq_iff_iff, List.isEmpty_iff, List.filter_eq_nil_iff, List.all_eq_true]
        constructor
        · intro h y hy
          have h3 := h y hy
          cases hX : (decide (1 ≤ y.length) && decide (y.length ≤ 12)) with
          | true => rfl
          | false => exact absurd (by rw [hX]; rfl) h3
        · intro h y hy
          have h3 := h y hy
          rw [h3]; decide
      rw [this]
      exact k _ (Same.new (sq.trans pv.1) nem)
theorem ok_law_word (T : Top K mg C_Wood X_Absent X_NoWord X_Twice) (F_law_take : Fn P w K mg base 1 "_law_take" ["_law_box_here", "_law_many"] spTake) : Fn P w K mg base 2 "_law_word" ["_law_box_here"] spWord := by
  refine T.d_law_word.ok sc_law_word bi_law_word (fun vs H Q E h => ?_) (fun f cdv A outer s H vs Q E hr h => ?_)
  · obtain ⟨b, rfl, hb, k⟩ := h; rfl
  · obtain ⟨b, rfl, hb, k⟩ := h
    have cl_Wood := T.cl_Wood
    have na_Wood_marks := T.na_Wood_marks
    have na_Wood_tops := T.na_Wood_tops
    have na_Wood_now := T.na_Wood_now
    refine ⟨_, (pss_cons (ps_set (i := 1) sc_law_word.nd rfl (Or.inr rfl) (pe_ix ix_list (pe_lst (pa_cons (pe_str) (pa_cons (pe_str) (pa_cons (pe_str) pa_nil)))) (pe_fn F_law_take (hr.mono (by decide)) passL (pa_cons (pv 0) (pa_cons (pe_int) pa_nil))) (fun _ _ => rfl)))
    (pss_cons (ps_set (i := 2) sc_law_word.nd rfl (Or.inl rfl) (pe_lst pa_nil))
    (pss_cons (ps_for PassesOwn.never rfl (pi_range1 rfl T.n_range (pa_cons (pe_ix ix_list (pe_lst (pa_cons (pe_int) (pa_cons (pe_int) (pa_cons (pe_int) (pa_cons (pe_int) pa_nil))))) (pe_fn F_law_take (hr.mono (by decide)) passL (pa_cons (pv 0) (pa_cons (pe_int) pa_nil))) (fun _ _ => rfl)) pa_nil)) (pg_name (i := 3) sc_law_word.nd rfl (Or.inl rfl)) (pss_cons (ps_set (i := 4) sc_law_word.nd rfl (Or.inl rfl) (pe_op op_add (pe_int) (pe_fn F_law_take (hr.mono (by decide)) passL (pa_cons (pv 0) (pa_cons (pe_ix ix_list (pe_lst (pa_cons (pe_int) (pa_cons (pe_int) (pa_cons (pe_int) (pa_cons (pe_int) pa_nil))))) (pe_fn F_law_take (hr.mono (by decide)) passL (pa_cons (pv 0) (pa_cons (pe_int) pa_nil))) (fun _ _ => rfl)) pa_nil)))))
    (pss_one (ps_expr (pe_bm PySem.F.plainAttrs_list PySem.F.slot_list_append PySem.F.type_list_append mt_append (pv 2) (pa_cons (pe_join (pe_str) (pe_lc (own := [("_law_j", 5)]) (by rfl) sc_law_word.nd (pi_range1 rfl T.n_range (pa_cons (pv 4) pa_nil)) (blkOk_by (own := [("_law_j", 5)]) (N := ["_law_box_here", "_law_letters", "_law_parts", "_law_k", "_law_size", "_law_j"]) (sc := defScope s_law_word) (by decide +kernel)) (fun _ _ _ _ _ => (pg_name (i := 5) sc_law_word.nd rfl (Or.inl rfl))) (fun _ _ _ _ _ => pts_nil) (fun _ _ _ _ _ => (pe_ix ix_str (pv 1) (pe_fn F_law_take (hr.mono (by decide)) passL (pa_cons (pv 0) (pa_cons (pe_callB call_len_str rfl T.n_len (by decide +kernel) (pa_cons (pv 1) pa_nil)) pa_nil))) (fun _ _ => rfl))))) pa_nil))))))
    (pss_one (ps_ret (pe_bm PySem.F.plainAttrs_str PySem.F.slot_str_strip PySem.F.type_str_strip mt_stripChars (pe_slice sl_str (pe_join (pe_str) (pv 2)) po_none (po_some (pe_int))) (pa_cons (pe_str) pa_nil))))))), ?_⟩
    walk_at "go"
    refine ⟨sz (by simp), fun p hp => ?_⟩
    walk_at "go"
    refine use_take (hb.new hp) (by decide) (by decide) fun r1 H1 r10 r11 b1 s1 => ?_
    have f1 : But b H H1 := (But.refl.new hp).trans s1
    obtain ⟨z, hz, hlet⟩ := isLets.pick r10 r11
    refine s_ixL (SqL.of (s1 _ _ (hb.ne hp).symm upd_same)) hz ?_
    obtain ⟨zl1, zl2⟩ := hlet.len
    have hzl : z.length ≤ sizeLine := sz (by rw [TL.len_tl]; omega)
    walk_at "go"
    refine ⟨sz (by simp), fun l hl => ?_⟩
    walk_at "go"
    have nlb := (b1.ne hl).symm
    have hlH : H l = none := by
      obtain ⟨_, _, _, _, e⟩ := b1
      exact f1.free e hl
    refine ⟨sz (by simp), fun l2 hl2 => ?_⟩
    walk_at "go"
    refine use_take ((b1.new hl).new hl2) (by decide) (by decide) fun r2 H2 r20 r21 b2 s2 => ?_
    have hl2b : l2 ≠ b := ((b1.new hl).ne hl2).symm
    obtain ⟨n, hn, n0, n4⟩ := pick4 (a := 1) (b := 1) (c := 2) (d := 4) (P := fun c => 1 ≤ c ∧ c ≤ 4) r20 r21 (by decide) (by decide) (by decide) (by decide)
    refine s_ixL (SqL.of (s2 _ _ hl2b upd_same)) hn ?_
    have f2 : But b H H2 := ((f1.new hl).new hl2).trans s2
    have hL2 : H2 l = some (.lst []) := s2 _ _ nlb (by rw [upd_ne (ne_of_none (upd_same : upd H1 l _ l = _) hl2)]; exact upd_same)
    walk_at "go"
    refine ⟨by omega, by omega, for_range (lo := 0) (n := n.toNat) (fun i σ' H' => ∃ (v1 v2 v3 : Option V) (ps : List Str), σ' = [some (.ref b), some (.str z), some (.ref l), v1, v2, v3] ∧ H' l = some (.lst (ps.map V.str)) ∧ ps.length = i ∧ (∀ p ∈ ps, partL (TL.tl p) = true) ∧ BoxAt H' b ∧ But b H H') ⟨none, none, none, [], rfl, hL2, rfl, (fun _ h => nomatch h), b2, f2⟩ ?_ ?_⟩
    · rintro i σ' H' hi ⟨v1, v2, v3, ps, rfl, hL, hlen, hpl, bx, fr⟩
      walk_at "go"
      refine ⟨sz (by simp), fun q hq => ?_⟩
      walk_at "go"
      refine use_take (bx.new hq) (by decide) (by decide) fun d1 G1 d10 d11 c1 t1 => ?_
      obtain ⟨m, hm, m0, m1⟩ := pick4 (a := 3) (b := 3) (c := 3) (d := 12) (P := fun c => 0 < c ∧ c ≤ 12) d10 d11 (by decide) (by decide) (by decide) (by decide)
      refine s_ixL (SqL.of (t1 _ _ (bx.ne hq).symm upd_same)) hm ?_
      walk_at "go"
      refine use_take c1 m0 (by omega) fun d2 G2 d20 d21 c2 t2 => ?_
      have g2 : But b H' G2 := ((But.refl.new hq).trans t1).trans t2
      have hLg := g2 _ _ nlb hL
      walk_at "go"
      refine ⟨by omega, by omega, fun D hD => ?_⟩
      have nDb := (c2.ne hD).symm
      have nDl : D ≠ l := (ne_of_none hLg hD).symm
      refine lc_range (lo := 0) (n := (1 + d2).toNat) (fun j H5 => ∃ cs : List Nat, H5 D = some (.lst ((cs.map sgn).map V.str)) ∧ cs.length = j ∧ (∀ c ∈ cs, low c = true) ∧ BoxAt H5 b ∧ But b G2 H5) ⟨[], upd_same, rfl, (fun _ h => nomatch h), c2.new hD, But.refl.new hD⟩ ?_ ?_
      · rintro j H5 hj ⟨cs, e1, e2, e3, e4, e5⟩
        walk_at "go"
        refine ⟨rfl, ?_⟩
        walk_at "go"
        refine ⟨z, rfl, hzl, ?_⟩
        walk_at "go"
        refine use_take e4 (by rw [TL.len_tl]; omega) (by rw [TL.len_tl]; omega) fun r H6 r0 r1 e6 e7 => ?_
        rw [TL.len_tl] at r1
        obtain ⟨c, hc, hcm⟩ := atI_get' r0 r1
        refine s_ixS hzl hc ?_
        have e8 := e7 _ _ nDb e1
        refine ⟨_, e8, by rw [List.length_map, List.length_map, sizeLine_eq]; omega, cs ++ [c], by rw [upd_same]; simp [sgn], by simp [e2], ?_, ?_, ?_⟩
        · intro x hx
          rcases List.mem_append.mp hx with hx | hx
          · exact e3 x hx
          · have : x = c := by simpa using hx
            subst this; exact hlet.low _ hcm
        · obtain ⟨x0, x1, x2, x3, e⟩ := e6
          exact ⟨x0, x1, x2, x3, by rw [upd_ne nDb.symm]; exact e⟩
        · intro a o na e
          have naD : a ≠ D := fun z => by rw [z, hD] at e; cases e
          rw [upd_ne naD]
          exact e7 _ _ na (e5 _ _ na e)
      · rintro H5 ⟨cs, e1, e2, e3, e4, e5⟩
        walk_at "go"
        have hjl : ((cs.map sgn).map (·.length)).sum ≤ (cs.map sgn).length * 1 := sum_len_le fun y hy => by
          obtain ⟨c, _, rfl⟩ := List.mem_map.mp hy
          exact Nat.le_refl _
        rw [List.length_map] at hjl
        have hL5 := e5 _ _ nlb hLg
        refine ⟨_, D, cs.map sgn, rfl, rfl, .inl (SqL.of e1), by rw [TL.len_tl (Str.ofString ""), tl_empty]; simp only [List.length_nil, Nat.mul_zero]; omega, ?_⟩
        walk_at "go"
        refine s_app hL5 (by rw [List.length_map, sizeLine_eq]; omega) ?_
        refine ⟨_, _, _, ps ++ [Txt.join (Str.ofString "") (cs.map sgn)], rfl, by rw [upd_same]; simp, by simp [hlen], ?_, ?_, ?_⟩
        · intro x hx
          rcases List.mem_append.mp hx with hx | hx
          · exact hpl x hx
          · have : x = Txt.join (Str.ofString "") (cs.map sgn) := by simpa using hx
            subst this
            rw [tl_join_nil]
            exact partL_of e3 (by omega) (by omega)
        · obtain ⟨x0, x1, x2, x3, e⟩ := e4
          exact ⟨x0, x1, x2, x3, by rw [upd_ne nlb.symm]; exact e⟩
        · intro a o na e
          have nal : a ≠ l := fun z => by rw [z, hlH] at e; cases e
          rw [upd_ne nal]
          exact e5 _ _ na (g2 _ _ na (fr _ _ na e))
    · rintro σ' H' ⟨v1, v2, v3, ps, rfl, hL, hlen, hpl, bx, fr⟩
      walk_at "go"
      have hps : ∀ p ∈ ps, p.length ≤ 12 := fun p hp => by
        have := hpl p hp
        unfold partL at this
        simp only [Bool.and_eq_true, decide_eq_true_eq] at this
        rw [TL.len_tl]; exact this.1.2
      have hjl : (ps.map (·.length)).sum ≤ ps.length * 12 := sum_len_le hps
      have h4 : ps.length ≤ 4 := by omega
      have hne : ps ≠ [] := by rintro rfl; simp at hlen; omega
      have hlj : (Txt.join (Str.ofString " ") ps).length ≤ 1000 := by
        have := PySem.StrLaws.join_length_le (Str.ofString " ") ps
        rw [← TL.join_eq, TL.len_tl (Str.ofString " "), tl_blank] at this
        simp only [List.length_singleton] at this
        omega
      refine ⟨_, l, ps, rfl, rfl, .inl (SqL.of hL), ?_, ?_⟩
      · rw [TL.len_tl (Str.ofString " "), tl_blank]
        simp only [List.length_singleton]; omega
      walk_at "go"
      refine s_slS (sz hlj) ?_
      refine ⟨rfl, ?_⟩
      walk_at "go"
      refine ⟨_, _, rfl, rfl, ?_, ?_⟩
      · exact Nat.le_trans (cutS_length _ _ _) (sz hlj)
      · exact k _ _ (word_cut (tl_join_blank ps) (by simpa using hne) (by simpa using h4) (by
          intro q hq
          obtain ⟨p, hp, rfl⟩ := List.mem_map.mp hq
          exact hpl p hp) (by decide) (.inl (by decide))) bx fr
theorem ok_law_next_word (T : Top K mg C_Wood X_Absent X_NoWord X_Twice) (F_law_is_word : Fn P w K mg base 1 "_law_is_word" ["_law_thing"] spFit2) (F_law_take : Fn P w K mg base 1 "_law_take" ["_law_box_here", "_law_many"] spTake) (F_law_word : Fn P w K mg base 2 "_law_word" ["_law_box_here"] spWord) : Fn P w K mg base 3 "_law_next_word" ["_law_box_here", "_law_words"] (spNext K) := by
  refine T.d_law_next_word.ok sc_law_next_word bi_law_next_word (fun vs H Q E h => ?_) (fun f cdv A outer s H vs Q E hr h => ?_)
  · obtain ⟨b, a, ss, rfl, hb, hS, hab, hl, hw, k⟩ := h; rfl
  · obtain ⟨b, a, ss, rfl, hb, hS, hab, hl, hw, k⟩ := h
    have cl_Wood := T.cl_Wood
    have na_Wood_marks := T.na_Wood_marks
    have na_Wood_tops := T.na_Wood_tops
    have na_Wood_now := T.na_Wood_now
    refine ⟨_, (pss_cons (ps_set (i := 2) sc_law_next_word.nd rfl (Or.inl rfl) (pe_fn F_law_take (hr.mono (by decide)) passL (pa_cons (pv 0) (pa_cons (pe_int) pa_nil))))
    (pss_cons (ps_if (PW.pt (pw_or (pt_cmpR (op_eqD hr.units) (pv 1) (pe_lst pa_nil) (nomark _)) (pw_or1 (pt_cmpR op_lt (pv 2) (pe_int) (nomark _))))) (pss_one (ps_ret (pe_fn F_law_word (hr.mono (by decide)) passL (pa_cons (pv 0) pa_nil)))) pss_nil)
    (pss_cons (ps_set (i := 3) sc_law_next_word.nd rfl (Or.inl rfl) (pe_ix ix_list (pv 1) (pe_fn F_law_take (hr.mono (by decide)) passL (pa_cons (pv 0) (pa_cons (pe_callB call_len_seq rfl T.n_len (by decide +kernel) (pa_cons (pv 1) pa_nil)) pa_nil))) (fun _ _ => rfl)))
    (pss_cons (ps_set (i := 4) sc_law_next_word.nd rfl (Or.inl rfl) (pv 3))
    (Evl.pss_cut (ps_if (pt_cmpR op_eq (pv 2) (pe_int) (nomark _)) (pss_one (ps_set (i := 4) sc_law_next_word.nd rfl (Or.inl rfl) (pe_bm PySem.F.plainAttrs_str PySem.F.slot_str_strip PySem.F.type_str_strip mt_stripChars (pe_slice sl_str (pv 3) po_none (po_some (pe_op op_add (pe_int) (pe_fn F_law_take (hr.mono (by decide)) passL (pa_cons (pv 0) (pa_cons (pe_callB call_len_str rfl T.n_len (by decide +kernel) (pa_cons (pv 3) pa_nil)) pa_nil)))))) (pa_cons (pe_str) pa_nil)))) pss_nil)
    (Evl.pss_cut (ps_if (pt_cmpR op_eq (pv 2) (pe_int) (nomark _)) (pss_one (ps_set (i := 4) sc_law_next_word.nd rfl (Or.inl rfl) (pe_op op_add_str (pv 3) (pe_ix ix_list (pe_lst (pa_cons (pe_str) (pa_cons (pe_str) (pa_cons (pe_str) (pa_cons (pe_str) (pa_cons (pe_str) pa_nil)))))) (pe_fn F_law_take (hr.mono (by decide)) passL (pa_cons (pv 0) (pa_cons (pe_int) pa_nil))) (fun _ _ => rfl))))) pss_nil)
    (Evl.pss_cut (ps_if (pt_cmpR op_eq (pv 2) (pe_int) (nomark _)) (pss_one (ps_set (i := 4) sc_law_next_word.nd rfl (Or.inl rfl) (pe_op op_add_str (pe_slice sl_str (pv 3) po_none (po_some (pe_un un_neg (pe_int)))) (pe_ix ix_str (pe_str) (pe_fn F_law_take (hr.mono (by decide)) passL (pa_cons (pv 0) (pa_cons (pe_int) pa_nil))) (fun _ _ => rfl))))) pss_nil)
    (pss_cons (ps_if (pt_val (pe_fn F_law_is_word (hr.mono (by decide)) passL (pa_cons (pv 4) pa_nil))) (pss_one (ps_ret (pv 4))) pss_nil)
    (pss_one (ps_ret (pv 3))))))))))), ?_⟩
    walk_at "go"
    refine use_take hb (by decide) (by decide) fun way H1 w0 w1 b1 s1 => ?_
    have hS1 := s1.sql hab hS
    walk_at "go"
    refine ⟨sz (by simp), fun p hp => ?_⟩
    have b2 := b1.new (o := .lst []) hp
    have s2 := s1.new (o := .lst []) hp
    have hS2 := sql_new (o := .lst []) hS1 hp
    have hnil : upd H1 p (.lst []) p = some (.lst []) := upd_same
    generalize upd H1 p (.lst []) = G at b2 s2 hS2 hnil ⊢
    walk_at "go"
    refine s_eqD (d := .list (ss.map .str)) (.lst hS2 (DpAll.of_map fun s _ => .str s)) (.lst (SqL.of hnil) .nil) (shaped_of (ok_strs fun s hs => (Tx.word (hw s hs)).ok)) rfl ?_
    rw [eqv_strs_nil]
    walk_at "go"
    refine bT (fun hc => ?_) (fun hc => ?_)
    · walk_at "go"
      exact ⟨b, rfl, b2, fun s H2 h1 h2 h3 => k s H2 h1 h2 (s2.trans h3)⟩
    walk_at "go"
    refine dT (fun hd => ?_) (fun hd => ?_)
    · walk_at "go"
      exact ⟨b, rfl, b2, fun s H2 h1 h2 h3 => k s H2 h1 h2 (s2.trans h3)⟩
    have hpos : 0 < ss.length := by
      cases ss with
      | nil => cases hc
      | cons _ _ => simp
    walk_at "go"
    rw [List.length_map]
    refine use_take b2 (by omega) (by omega) fun r H3 r0 r1 b3 s3 => ?_
    obtain ⟨j, rfl⟩ := Int.eq_ofNat_of_zero_le r0
    have hj : j < ss.length := by omega
    have hone : isW ss[j] = true := hw _ (List.getElem_mem hj)
    refine s_ixL (s3.sql hab hS2) (atI_nat (j := j) (v := .str ss[j]) (by simp [hj])) ?_
    have s4 := s2.trans s3
    generalize ss[j] = z at hone ⊢
    have T := Tx.word hone
    have hz := isW_len hone
    have hzl : z.length ≤ sizeLine := sz (by omega)
    have hSG := SG.word hone
    walk_at "go"
    refine u_cut (M := fun σ H' => ∃ y : Str, σ = [some (.ref b), some (.ref a), some (.int way), some (.str z), some (.str y)] ∧ Tx 26 y ∧ SG y ∧ BoxAt H' b ∧ But b H H') ?_ ?_
    · walk_at "go"
      refine bT (fun h3 => ?_) (fun h3 => ?_)
      · walk_at "go"
        refine ⟨z, rfl, hzl, ?_⟩
        walk_at "go"
        refine use_take b3 (by omega) (by omega) fun r H4 r0 r1 b4 s5 => ?_
        walk_at "go"
        refine s_slS hzl ?_
        walk_at "go"
        refine ⟨rfl, ?_⟩
        walk_at "go"
        refine ⟨_, _, rfl, rfl, Nat.le_trans (cutS_length _ _ _) hzl, ?_⟩
        have hn : isW (Txt.stripChars (cutS z none (some (1 + r))) (Str.ofString " ")) = true := word_cut_word hone (by omega)
        walk_at "go"
        exact ⟨_, rfl, (Tx.word hn).mono (by decide), SG.word hn, b4, s4.trans s5⟩
      · walk_at "go"
        exact ⟨z, rfl, T.mono (by decide), hSG, b3, s4⟩
    rintro σ1 H4 ⟨y1, rfl, Ty1, Sy1, b4, s5⟩
    walk_at "go"
    refine u_cut (M := fun σ H' => ∃ y : Str, σ = [some (.ref b), some (.ref a), some (.int way), some (.str z), some (.str y)] ∧ Tx 26 y ∧ SG y ∧ BoxAt H' b ∧ But b H H') ?_ ?_
    · walk_at "go"
      refine bT (fun h4 => ?_) (fun h4 => ?_)
      · walk_at "go"
        refine ⟨sz (by simp), fun q hq => ?_⟩
        walk_at "go"
        refine use_take (b4.new hq) (by decide) (by decide) fun r H5 r0 r1 b5 s6 => ?_
        have hq4 := s6 _ _ (b4.ne hq).symm upd_same
        obtain ⟨t, ht, Tt, St⟩ : ∃ t, atI [V.str (Str.ofString "a"), V.str (Str.ofString "b"), V.str (Str.ofString " a"), V.str (Str.ofString " b"), V.str (Str.ofString "z")] r = some (.str t) ∧ Tx 2 t ∧ SG t := by
          have : r = 0 ∨ r = 1 ∨ r = 2 ∨ r = 3 ∨ r = 4 := by omega
          rcases this with rfl | rfl | rfl | rfl | rfl <;> exact ⟨_, rfl, ⟨by decide +kernel, by decide +kernel⟩, by unfold SG; rw [TL.tl_ofString]; decide +kernel⟩
        refine s_ixL (SqL.of hq4) ht ?_
        have a2 := T.app Tt
        refine ⟨_, _, rfl, rfl, sz (by have := T.len; have := Tt.len; omega), ?_⟩
        walk_at "go"
        exact ⟨_, rfl, a2, hSG.app St, b5, ((s5.new hq).trans s6)⟩
      · walk_at "go"
        exact ⟨y1, rfl, Ty1, Sy1, b4, s5⟩
    rintro σ2 H5 ⟨y2, rfl, Ty2, Sy2, b5, s6⟩
    walk_at "go"
    refine u_cut (M := fun σ H' => ∃ y : Str, σ = [some (.ref b), some (.ref a), some (.int way), some (.str z), some (.str y)] ∧ Tx 26 y ∧ SG y ∧ BoxAt H' b ∧ But b H H') ?_ ?_
    · walk_at "go"
      refine bT (fun h4 => ?_) (fun h4 => ?_)
      · walk_at "go"
        refine s_slS hzl ?_
        walk_at "go"
        refine use_take b5 (by decide) (by decide) fun r H6 r0 r1 b6 s7 => ?_
        obtain ⟨c, hcc, hcm⟩ := atI_get' (l := (Str.ofString "abcz").cps.toList) r0 (by
          rw [show (Str.ofString "abcz").cps.toList.length = 4 by decide +kernel]; exact r1)
        refine s_ixS (sz (by decide +kernel)) hcc ?_
        have Tc : Tx 1 ⟨#[c]⟩ := ⟨Nat.le_refl _, strOk_iff.mpr fun d hd => by
          have e : d = c := by simpa [TL.tl] using hd
          subst e
          exact strOk_iff.mp (by decide +kernel : PyData.strOk (Str.ofString "abcz") = true) d hcm⟩
        have Sc : SG ⟨#[c]⟩ := fun d hd => by
          have e : d = c := by simpa [TL.tl] using hd
          subst e
          have : ∀ x ∈ (Str.ofString "abcz").cps.toList, low x = true := by decide +kernel
          exact .inl (this d hcm)
        have a2 := (T.cut none (some (-1))).app Tc
        refine ⟨_, _, rfl, rfl, sz (by have := (T.cut none (some (-1))).len; have := Tc.len; omega), ?_⟩
        walk_at "go"
        exact ⟨_, rfl, a2.mono (by decide), (hSG.cut _ _).app Sc, b6, s6.trans s7⟩
      · walk_at "go"
        exact ⟨y2, rfl, Ty2, Sy2, b5, s6⟩
    rintro σ3 H6 ⟨y3, rfl, Ty3, Sy3, b6, s7⟩
    walk_at "go"
    refine ⟨_, rfl, Nat.le_trans Ty3.len (by decide), Ty3.ok, fun H7 s8 => ?_⟩
    have b7 : BoxAt H7 b := by
      obtain ⟨_, _, _, _, e⟩ := b6
      exact ⟨_, _, _, _, s8 _ _ e⟩
    walk_at "go"
    refine bT (fun h => ?_) (fun h => ?_)
    · walk_at "go"
      exact k y3 H7 (word_of_fit2 h Sy3) b7 (s7.trans (But.of s8))
    · walk_at "go"
      exact k z H7 hone b7 (s7.trans (But.of s8))
theorem ok_worth_at (T : Top K mg C_Wood X_Absent X_NoWord X_Twice)  : Fn P w K mg base 1 "worth_at" ["mark", "era"] (spWorth K) := by
  refine T.d_worth_at.ok sc_worth_at bi_worth_at (fun vs H Q E h => ?_) (fun f cdv A outer s H vs Q E hr h => ?_)
  · obtain ⟨t, c, e, n, rfl, ht, h0, k⟩ := h; rfl
  · obtain ⟨t, c, e, n, rfl, ht, h0, k⟩ := h
    have cl_Wood := T.cl_Wood
    have na_Wood_marks := T.na_Wood_marks
    have na_Wood_tops := T.na_Wood_tops
    have na_Wood_now := T.na_Wood_now
    refine ⟨_, (pss_cons (ps_asg (pv 0) (pg_tup rfl (pgs_cons (pg_name (i := 2) sc_worth_at.nd rfl (Or.inl rfl)) (pgs_cons (pg_name (i := 3) sc_worth_at.nd rfl (Or.inl rfl)) pgs_nil))))
    (pss_cons (ps_while PassesOwn.never (PW.pt (pw_and (pt_cmpR op_lt (pv 3) (pv 1) (nomark _)) (pw_and1 (pt_cmpR op_gt (pv 2) (pe_int) (nomark _))))) (pss_cons (ps_set (i := 2) sc_worth_at.nd rfl (Or.inl rfl) (pe_op op_fdiv (pv 2) (pe_int)))
    (pss_one (ps_set (i := 3) sc_worth_at.nd rfl (Or.inl rfl) (pe_op op_add (pv 3) (pe_int))))))
    (pss_one (ps_ret (pv 2))))), ?_⟩
    walk_at "go"
    refine w_while (W := fun m σ' H' => ∃ c' e' : Int, σ' = [some (.ref t), some (.int n), some (.int c'), some (.int e')] ∧ H' = H ∧ 0 ≤ c' ∧ worth c e n = worth c' e' n ∧ m = (n - e').toNat) (n - e).toNat ⟨c, e, rfl, rfl, h0, rfl, rfl⟩ ?_
    rintro m σ' H' ⟨c', e', rfl, rfl, h1, h2, rfl⟩
    walk_at "go"
    refine dT (fun hc => ?_) (fun hc => ?_)
    · walk_at "go"
      refine dT (fun hd => ?_) (fun hd => ?_)
      · walk_at "go"
        refine w_turn ?_
        walk_at "go"
        exact ⟨_, by omega, _, _, rfl, rfl, by omega, by rw [h2, worth_step hc], rfl⟩
      · walk_at "go"
        have : c' = 0 := by omega
        subst this
        rw [worth_zero] at h2
        rw [h2] at k; exact k
    · walk_at "go"
      rw [worth_at_begin (show n ≤ e' by omega)] at h2
      rw [h2] at k; exact k
theorem ok_Wood_words (T : Top K mg C_Wood X_Absent X_NoWord X_Twice) (F_worth_at : Fn P w K mg base 1 "worth_at" ["mark", "era"] (spWorth K)) : FnM P w K mg base 2 C_Wood "words" ["self"] [] (spWords C_Wood K) := by
  refine T.me_Wood_words.ok sc_Wood_words (fun vs H Q E h => ?_) (fun f cdv A outer s H vs Q E hr h => ?_)
  · obtain ⟨p, dm, dt, A, ks, B, n, N, rfl, W, hN, k⟩ := h; rfl
  · obtain ⟨p, dm, dt, A, ks, B, n, N, rfl, W, hN, k⟩ := h
    have cl_Wood := T.cl_Wood
    have na_Wood_marks := T.na_Wood_marks
    have na_Wood_tops := T.na_Wood_tops
    have na_Wood_now := T.na_Wood_now
    refine ⟨_, (pss_one (ps_ret (pe_lc (own := [("word", 1)]) (by rfl) sc_Wood_words.nd (pi_list (pe_callB (call_sortDict rfl hr.units) rfl T.n_sorted (by decide +kernel) (pa_cons (pe_fld (pv 0) rfl) pa_nil))) (blkOk_by (own := [("word", 1)]) (N := ["self", "word"]) (sc := defScope s_Wood_words) (by decide +kernel)) (fun _ _ _ _ _ => (pg_name (i := 1) sc_Wood_words.nd rfl (Or.inl rfl))) (fun _ _ _ _ _ => pts_nil) (fun _ _ _ _ _ => (pe_tup (pa_cons (pv 1) (pa_cons (pe_fn F_worth_at (hr.mono (by decide)) passL (pa_cons (pe_dget (hu_of hr) (pe_fldK (K := K) rfl (pv 0) rfl) (pv 1) (fun _ _ => rfl)) (pa_cons (pe_fldK (K := K) rfl (pv 0) rfl) pa_nil))) pa_nil))))))), ?_⟩
    obtain ⟨dx, hp⟩ := W.ob
    obtain ⟨val, hT, hM⟩ := W.ma
    have hkl := W.kl
    walk_at "go"
    refine s_sortD hT fun q hq => ?_
    have s1 : Same H (upd H q (.lst ((ks.mergeSort (PySem.W.dataLe false PyData.str)).map V.str))) := Same.new (Same.refl _) hq
    have hq1 : upd H q (.lst ((ks.mergeSort (PySem.W.dataLe false PyData.str)).map V.str)) q = some (.lst ((ks.mergeSort (PySem.W.dataLe false PyData.str)).map V.str)) := upd_same
    generalize upd H q (.lst ((ks.mergeSort (PySem.W.dataLe false PyData.str)).map V.str)) = H1 at s1 hq1 ⊢
    have hT1 := hT.same s1
    have hM1 : MV H1 val A := hM.mono fun _ _ e => s1 _ _ e
    have hp1 := s1 _ _ hp
    have hsl : (ks.mergeSort (PySem.W.dataLe false PyData.str)).length = ks.length := List.length_mergeSort _
    walk_at "go"
    refine ⟨⟨_, SqL.of hq1⟩, fun D hD => ?_⟩
    refine lc_list (xs := (ks.mergeSort (PySem.W.dataLe false PyData.str)).map V.str) (PvD K (rsM (ks.mergeSort (PySem.W.dataLe false PyData.str)) fun w => dP (w, match A w with | some m => wn m n | none => 0)) H1 D) (lcD_begin hD rsM_0) (fun i H' _ p => p.1.seq (SqL.of hq1)) ?_ ?_
    · intro i v H' hi pv
      obtain ⟨w, hw, rfl⟩ := map_get hi
      have hin : w ∈ ks := (List.mergeSort_perm _ _).mem_iff.mp (List.mem_of_getElem? hw)
      obtain ⟨m, hm⟩ := Option.isSome_iff_exists.mp (W.toWoodP.key.mp hin)
      obtain ⟨t, e1, e2⟩ := hM1.some hm
      have hT' := hT1.same pv.1
      have hp' := pv.1 _ _ hp1
      have ht' := pv.1 _ _ e2
      walk_at "go"
      refine ⟨rfl, ?_⟩
      walk_at "go"
      refine s_dget hT' e1 ?_
      walk_at "go"
      refine ⟨t, m.1, m.2, n, rfl, SqT.of ht', (W.ok _ _ hm).2.1, ?_⟩
      walk_at "go"
      refine ⟨sz (by simp), fun u hu => ?_⟩
      exact lcD_putT pv hD hu (fun G => .cons (.str _) (.cons (.int _) .nil)) (by rw [rsM_s hw, hm]; rfl) (rsM_len (by omega))
    · intro H' pv
      rw [List.length_map] at pv
      obtain ⟨s2, xs, hx, dx⟩ := lcD_end pv (rsM_all rfl)
      walk_at "go"
      refine k D H' xs hx (s1.free hD) ?_ (s1.trans s2)
      unfold wordsOf
      rw [List.map_map]; exact dx
theorem ok_Wood_era (T : Top K mg C_Wood X_Absent X_NoWord X_Twice)  : FnM P w K mg base 1 C_Wood "era" ["self"] [] (spEra C_Wood) := by
  refine T.me_Wood_era.ok sc_Wood_era (fun vs H Q E h => ?_) (fun f cdv A outer s H vs Q E hr h => ?_)
  · obtain ⟨p, dm, dt, A, ks, B, n, N, rfl, W, k⟩ := h; rfl
  · obtain ⟨p, dm, dt, A, ks, B, n, N, rfl, W, k⟩ := h
    have cl_Wood := T.cl_Wood
    have na_Wood_marks := T.na_Wood_marks
    have na_Wood_tops := T.na_Wood_tops
    have na_Wood_now := T.na_Wood_now
    refine ⟨_, (pss_one (ps_ret (pe_fld (pv 0) rfl))), ?_⟩
    obtain ⟨dx, hp⟩ := W.ob
    walk_at "go"
    exact k
theorem ok_Wood_ask_there (T : Top K mg C_Wood X_Absent X_NoWord X_Twice)  : FnM P w K mg base 1 C_Wood "ask_there" ["self", "word"] [] (spAsk C_Wood X_Absent) := by
  refine T.me_Wood_ask_there.okX sc_Wood_ask_there (fun vs H Q E h => ?_) (fun f cdv A outer s H vs Q E hr h => ?_)
  · obtain ⟨p, dm, dt, A, ks, B, n, N, w, rfl, W, kE, kQ⟩ := h; rfl
  · obtain ⟨p, dm, dt, A, ks, B, n, N, w, rfl, W, kE, kQ⟩ := h
    have cl_Wood := T.cl_Wood
    have na_Wood_marks := T.na_Wood_marks
    have na_Wood_tops := T.na_Wood_tops
    have na_Wood_now := T.na_Wood_now
    refine ⟨_, (pss_one (ps_if (pt_cmp (pc_dnotin (hu_of hr) (pv 1) (pe_fld (pv 0) rfl))) (pss_one (ps_rs T.x_Absent rfl (takes_of rfl rfl rfl rfl))) pss_nil)), ?_⟩
    obtain ⟨dx, hp⟩ := W.ob
    obtain ⟨val, hT, hM⟩ := W.ma
    walk_at "go"
    rw [hM.none_iff]
    cases hA : A w with
    | none =>
      rw [show (none : Option (Int × Int)).isSome = false from rfl]
      walk_at "go"
      exact kE hA
    | some m =>
      rw [show (some m : Option (Int × Int)).isSome = true from rfl]
      walk_at "go"
      exact kQ (by rw [hA]; simp)
theorem ok_Wood_worth_of (T : Top K mg C_Wood X_Absent X_NoWord X_Twice) (F_Wood_ask_there : FnM P w K mg base 1 C_Wood "ask_there" ["self", "word"] [] (spAsk C_Wood X_Absent)) (F_worth_at : Fn P w K mg base 1 "worth_at" ["mark", "era"] (spWorth K)) : FnM P w K mg base 2 C_Wood "worth_of" ["self", "word"] [] (spWorthOf C_Wood X_Absent) := by
  refine T.me_Wood_worth_of.okX sc_Wood_worth_of (fun vs H Q E h => ?_) (fun f cdv A outer s H vs Q E hr h => ?_)
  · obtain ⟨p, dm, dt, A, ks, B, n, N, w, rfl, W, kE, kQ⟩ := h; rfl
  · obtain ⟨p, dm, dt, A, ks, B, n, N, w, rfl, W, kE, kQ⟩ := h
    have cl_Wood := T.cl_Wood
    have na_Wood_marks := T.na_Wood_marks
    have na_Wood_tops := T.na_Wood_tops
    have na_Wood_now := T.na_Wood_now
    refine ⟨_, (pss_cons (ps_expr (pe_mth F_Wood_ask_there (hr.mono (by decide)) (passE (takes_of rfl rfl rfl rfl)) (pv 0) (pa_cons (pv 1) pa_nil)))
    (pss_one (ps_ret (pe_fn F_worth_at (hr.mono (by decide)) (passE (takes_of rfl rfl rfl rfl)) (pa_cons (pe_dget (hu_of hr) (pe_fld (pv 0) rfl) (pv 1) (fun _ _ => rfl)) (pa_cons (pe_fld (pv 0) rfl) pa_nil)))))), ?_⟩
    obtain ⟨dx, hp⟩ := W.ob
    obtain ⟨val, hT, hM⟩ := W.ma
    walk_at "go"
    refine ⟨p, dm, dt, A, ks, B, n, N, w, rfl, W, fun h => kE h, fun h => ?_⟩
    cases hA : A w with
    | none => exact absurd hA h
    | some m =>
      obtain ⟨a, e1, e2⟩ := hM.some hA
      walk_at "go"
      refine s_dget hT e1 ?_
      walk_at "go"
      exact ⟨a, m.1, m.2, n, rfl, SqT.of e2, (W.ok _ _ hA).2.1, kQ m hA⟩
theorem ok_Wood_has (T : Top K mg C_Wood X_Absent X_NoWord X_Twice)  : FnM P w K mg base 1 C_Wood "has" ["self", "word"] [] (spHas C_Wood) := by
  refine T.me_Wood_has.ok sc_Wood_has (fun vs H Q E h => ?_) (fun f cdv A outer s H vs Q E hr h => ?_)
  · obtain ⟨p, dm, dt, A, ks, B, n, N, w, rfl, W, k⟩ := h; rfl
  · obtain ⟨p, dm, dt, A, ks, B, n, N, w, rfl, W, k⟩ := h
    have cl_Wood := T.cl_Wood
    have na_Wood_marks := T.na_Wood_marks
    have na_Wood_tops := T.na_Wood_tops
    have na_Wood_now := T.na_Wood_now
    refine ⟨_, (pss_one (ps_ret (pe_cmp (pc_din (hu_of hr) (pv 1) (pe_fld (pv 0) rfl))))), ?_⟩
    obtain ⟨dx, hp⟩ := W.ob
    obtain ⟨val, hT, hM⟩ := W.ma
    walk_at "go"
    rw [hM.none_iff]
    exact k
theorem ok_law_stands (T : Top K mg C_Wood X_Absent X_NoWord X_Twice) (F_Wood_era : FnM P w K mg base 1 C_Wood "era" ["self"] [] (spEra C_Wood)) (F_Wood_has : FnM P w K mg base 1 C_Wood "has" ["self", "word"] [] (spHas C_Wood)) (F_Wood_words : FnM P w K mg base 2 C_Wood "words" ["self"] [] (spWords C_Wood K)) (F_Wood_worth_of : FnM P w K mg base 2 C_Wood "worth_of" ["self", "word"] [] (spWorthOf C_Wood X_Absent)) : Fn P w K mg base 3 "_law_stands" ["_law_wood", "_law_due", "_law_words"] (spLStands C_Wood K) := by
  refine T.d_law_stands.ok sc_law_stands bi_law_stands (fun vs H Q E h => ?_) (fun f cdv A outer s H vs Q E hr h => ?_)
  · obtain ⟨x, n, b, N, l, ss, rfl, ⟨A, ks, ks2, B, D⟩, hN, hS, hws, k⟩ := h; rfl
  · obtain ⟨x, n, b, N, l, ss, rfl, ⟨A, ks, ks2, B, D⟩, hN, hS, hws, k⟩ := h
    have cl_Wood := T.cl_Wood
    have na_Wood_marks := T.na_Wood_marks
    have na_Wood_tops := T.na_Wood_tops
    have na_Wood_now := T.na_Wood_now
    refine ⟨_, (pss_cons (ps_if (PW.pt (pw_or (pt_cmpR op_ne (pe_mth0 F_Wood_era (hr.mono (by decide)) passL (pv 0)) (pe_ix ix_list (pv 1) (pe_int) (fun _ _ => rfl)) (nomark _)) (pw_or1 (pt_val (pe_callB call_isi rfl T.n_isinstance (by decide +kernel) (pa_cons (pe_mth0 F_Wood_era (hr.mono (by decide)) passL (pv 0)) (pa_cons (pe_ty "bool" rfl T.n_bool (by decide +kernel)) pa_nil))))))) (pss_one (ps_ret (pe_bl))) pss_nil)
    (pss_cons (ps_for PassesOwn.never rfl (pi_range1 rfl T.n_range (pa_cons (pe_int) pa_nil)) (pg_name (i := 3) sc_law_stands.nd rfl (Or.inl rfl)) (pss_cons (ps_set (i := 4) sc_law_stands.nd rfl (Or.inl rfl) (pe_mth0 F_Wood_words (hr.mono (by decide)) passL (pv 0)))
    (pss_cons (ps_setLc (i := 5) (own := [("_law_word_here", 6)]) (by rfl) sc_law_stands.nd rfl rfl (sw_true rfl rfl rfl (by decide +kernel)) (pi_list (pe_callB (call_sortDict rfl hr.units) rfl T.n_sorted (by decide +kernel) (pa_cons (pe_ix ix_list (pv 1) (pe_int) (fun _ _ => rfl)) pa_nil))) (blkOk_by (own := [("_law_word_here", 6)]) (N := ["_law_wood", "_law_due", "_law_words", "_law_again", "_law_found", "_law_whole", "_law_word_here", "_law_one", "_law_text"]) (sc := defScope s_law_stands) (by decide +kernel)) (fun _ _ _ _ _ => (pg_name (i := 6) sc_law_stands.nd rfl (Or.inl rfl))) (fun _ _ _ _ _ => pts_nil) (fun _ _ _ _ _ => (pe_tup (pa_cons (pv 6) (pa_cons (pe_dget (hu_of hr) (pe_ix (ix_listK (K := K) rfl) (pv 1) (pe_int) (fun _ _ => rfl)) (pv 6) (fun _ _ => rfl)) pa_nil)))))
    (pss_cons (ps_if (PW.pt (pw_or (pt_not (pt_val (pe_callB call_isi rfl T.n_isinstance (by decide +kernel) (pa_cons (pv 4) (pa_cons (pe_ty "list" rfl T.n_list (by decide +kernel)) pa_nil))))) (pw_or1 (pt_cmpR (op_neD hr.units) (pv 4) (pv 5) (nomark _))))) (pss_one (ps_ret (pe_bl))) pss_nil)
    (pss_cons (ps_for PassesOwn.never rfl (pi_list (pv 4)) (pg_name (i := 7) sc_law_stands.nd rfl (Or.inl rfl)) (pss_one (ps_if (PW.pt (pw_or (pt_not (pt_val (pe_callB call_isi rfl T.n_isinstance (by decide +kernel) (pa_cons (pv 7) (pa_cons (pe_ty "tuple" rfl T.n_tuple (by decide +kernel)) pa_nil))))) (pw_or1 (pt_val (pe_callB call_isi rfl T.n_isinstance (by decide +kernel) (pa_cons (pe_ix ix_tup (pv 7) (pe_int) (fun _ _ => rfl)) (pa_cons (pe_ty "bool" rfl T.n_bool (by decide +kernel)) pa_nil))))))) (pss_one (ps_ret (pe_bl))) pss_nil)))
    (pss_cons (ps_expr (pe_bm PySem.F.plainAttrs_list PySem.F.slot_list_append PySem.F.type_list_append mt_append (pv 4) (pa_cons (pe_tup (pa_cons (pe_str) (pa_cons (pe_int) pa_nil))) pa_nil)))
    (pss_one (ps_expr (pe_bm0 PySem.F.plainAttrs_list PySem.F.slot_list_reverse PySem.F.type_list_reverse mt_reverse (pv 4))))))))))
    (pss_cons (ps_for PassesOwn.never rfl (pi_list (pv 2)) (pg_name (i := 6) sc_law_stands.nd rfl (Or.inl rfl)) (pss_cons (ps_for PassesOwn.never rfl (pi_list (pe_lst (pa_cons (pv 6) (pa_cons (pe_op op_add_str (pv 6) (pe_str)) pa_nil)))) (pg_name (i := 8) sc_law_stands.nd rfl (Or.inl rfl)) (pss_one (ps_if (PW.pt (pw_or (pt_not (pt_val (pe_callB call_isi rfl T.n_isinstance (by decide +kernel) (pa_cons (pe_mth F_Wood_has (hr.mono (by decide)) passL (pv 0) (pa_cons (pv 8) pa_nil)) (pa_cons (pe_ty "bool" rfl T.n_bool (by decide +kernel)) pa_nil))))) (pw_or1 (pt_cmpR op_ne (pe_mth F_Wood_has (hr.mono (by decide)) passL (pv 0) (pa_cons (pv 8) pa_nil)) (pe_cmp (pc_din (hu_of hr) (pv 8) (pe_ix ix_list (pv 1) (pe_int) (fun _ _ => rfl)))) (nomark _))))) (pss_one (ps_ret (pe_bl))) pss_nil)))
    (pss_one (ps_if (PW.pt (pw_and (pt_cmp (pc_din (hu_of hr) (pv 6) (pe_ix ix_list (pv 1) (pe_int) (fun _ _ => rfl)))) (pw_and1 (pt_cmpR op_ne (pe_mth F_Wood_worth_of (hr.mono (by decide)) passL (pv 0) (pa_cons (pv 6) pa_nil)) (pe_dget (hu_of hr) (pe_ix ix_list (pv 1) (pe_int) (fun _ _ => rfl)) (pv 6) (fun _ _ => rfl)) (nomark _))))) (pss_one (ps_ret (pe_bl))) pss_nil))))
    (pss_one (ps_ret (pe_bl)))))), ?_⟩
    obtain ⟨dx, hp⟩ := D.w.ob
    have hl := D.l
    walk_at "go"
    refine ⟨x.p, x.dm, x.dt, A, ks, B, n, N, rfl, D.w, ?_⟩
    walk_at "go"
    rw [show (!decide (V.int n = V.int n)) = false by simp]
    walk_at "go"
    refine ⟨x.p, x.dm, x.dt, A, ks, B, n, N, rfl, D.w, ?_⟩
    walk_at "go"
    have okR : SeqAt.shaped (dRated (wordsOf A ks n)) = true := shaped_of (n := 2) (by
      unfold dRated; simp only [okD]
      exact okDs_map fun e he => by
        unfold wordsOf at he
        obtain ⟨w, hw, rfl⟩ := List.mem_map.mp he
        have hin : w ∈ ks := (List.mergeSort_perm _ _).mem_iff.mp hw
        obtain ⟨m, hm⟩ := Option.isSome_iff_exists.mp (D.w.toWoodP.key.mp hin)
        simp [dP, okD, okDs, (Tx.word (D.w.ok _ _ hm).1).ok])
    have hkk : ∀ w, w ∈ ks ↔ w ∈ ks2 := fun w => by
      rw [D.w.toWoodP.key, D.t.mem]
      cases A w <;> rfl
    have ess : ks.mergeSort (PySem.W.dataLe false PyData.str) = ks2.mergeSort (PySem.W.dataLe false PyData.str) := by
      obtain ⟨val, hT, _⟩ := D.w.ma
      exact sort_same hT.nd D.t.nd hkk
    refine ⟨by decide, by decide, for_range (lo := 0) (n := Int.toNat 2) (fun i σ' H' => ∃ (v3 v4 v5 v6 v7 v8 : Option V), σ' = [some (.ref x.p), some (.ref x.u), some (.ref l), v3, v4, v5, v6, v7, v8] ∧ Same H H') ⟨_, _, _, _, _, _, rfl, Same.refl _⟩ ?_ ?_⟩
    · rintro i σ' H0 hi ⟨v3, v4, v5, v6, v7, v8, rfl, s0⟩
      have D0 := D.same s0
      have hp0 := s0 _ _ hp
      walk_at "go"
      refine ⟨x.p, x.dm, x.dt, A, ks, B, n, N, rfl, D0.w, by omega, fun q H1 xs hq hqn hx s1 => ?_⟩
      have D1 := D0.same s1
      have hl1 := D1.l
      walk_at "go"
      refine s_sortD D1.t fun q2 hq2 => ?_
      have s2 : Same H1 (upd H1 q2 (.lst ((ks2.mergeSort (PySem.W.dataLe false PyData.str)).map V.str))) := Same.new (Same.refl _) hq2
      have hq22 : upd H1 q2 (.lst ((ks2.mergeSort (PySem.W.dataLe false PyData.str)).map V.str)) q2 = some (.lst ((ks2.mergeSort (PySem.W.dataLe false PyData.str)).map V.str)) := upd_same
      generalize upd H1 q2 (.lst ((ks2.mergeSort (PySem.W.dataLe false PyData.str)).map V.str)) = H2 at s2 hq22 ⊢
      have D2 := D1.same s2
      have hl2 := D2.l
      have hsl : (ks2.mergeSort (PySem.W.dataLe false PyData.str)).length = ks2.length := List.length_mergeSort _
      have hkl := D2.kl
      walk_at "go"
      refine ⟨⟨_, SqL.of hq22⟩, fun E0' hE => ?_⟩
      refine lc_list (xs := (ks2.mergeSort (PySem.W.dataLe false PyData.str)).map V.str) (PvD K (rsM (ks2.mergeSort (PySem.W.dataLe false PyData.str)) fun w => dP (w, match A w with | some m => wn m n | none => 0)) H2 E0') (lcD_begin hE rsM_0) (fun i H' _ p => p.1.seq (SqL.of hq22)) ?_ ?_
      · intro j v H' hj pv
        obtain ⟨w, hw, rfl⟩ := map_get hj
        have hin : w ∈ ks2 := (List.mergeSort_perm _ _).mem_iff.mp (List.mem_of_getElem? hw)
        obtain ⟨m, hm⟩ : ∃ m, A w = some m := Option.isSome_iff_exists.mp (D.w.toWoodP.key.mp ((hkk w).mpr hin))
        have hl' := pv.1 _ _ hl2
        have hT' := D2.t.same pv.1
        walk_at "go"
        refine ⟨rfl, ?_⟩
        walk_at "go"
        refine s_dget (v := .int (wn m n)) hT' (by rw [hm]; rfl) ?_
        walk_at "go"
        refine ⟨sz (by simp), fun u hu => ?_⟩
        exact lcD_putT pv hE hu (fun G => .cons (.str _) (.cons (.int _) .nil)) (by rw [rsM_s hw, hm]; rfl) (rsM_len (by omega))
      intro H3 pv
      rw [List.length_map] at pv
      obtain ⟨s3, ys, hy, dy⟩ := lcD_end pv (rsM_all rfl)
      have s13 : Same H1 H3 := s2.trans s3
      have hq3 := s13 _ _ hq
      have hx3 := DpAll.same s13 hx
      have hyR : Dp K H3 (.ref E0') (dRated (wordsOf A ks n)) := by
        refine .lst (SqL.of hy) ?_
        unfold wordsOf
        rw [List.map_map, ess]; exact dy
      have hxR : Dp K H3 (.ref q) (dRated (wordsOf A ks n)) := .lst (SqL.of hq3) hx3
      walk_at "go"
      refine s_neD hxR hyR okR okR ?_
      rw [SeqAt.eqv_refl _ (by unfold SeqAt.shaped at okR; simp only [Bool.and_eq_true] at okR; exact okR.1)]
      walk_at "go"
      have f3 : Same H H3 := (s0.trans s1).trans s13
      have hqH : H0 q = none := hqn
      refine ⟨⟨_, SqL.of hq3⟩, for_list (xs := xs) (fun _ σ' H' => ∃ v7, σ' = [some (.ref x.p), some (.ref x.u), some (.ref l), some (.int (0 + (i : Int))), some (.ref q), some (.ref E0'), v6, v7, v8] ∧ H' = H3) ⟨_, rfl, rfl⟩ (fun i σ' H' _ h => by obtain ⟨_, _, rfl⟩ := h; exact SqL.of hq3) ?_ ?_⟩
      · rintro j y σ' H' hj ⟨v7, rfl, rfl⟩
        obtain ⟨e, t, he, rfl, ht⟩ := mapdP_get hx3 hj
        walk_at "go"
        refine s_isi (tyX_tup ht) kb_tuple_tuple ?_
        walk_at "go"
        exact ⟨_, rfl, rfl⟩
      · rintro σ' H' ⟨v7, rfl, rfl⟩
        walk_at "go"
        refine ⟨sz (by simp), fun t ht => ?_⟩
        have hq4 := keepN (u := .tup [.str "x", .int 1]) hq3 ht
        have f4 := Same.new (o := .tup [.str "x", .int 1]) f3 ht
        generalize upd H' t (.tup [.str "x", .int 1]) = H4 at hq4 f4 ⊢
        walk_at "go"
        refine s_app hq4 (by
          have := DpAll.length hx
          rw [this, List.length_map]
          unfold wordsOf
          rw [List.length_map, List.length_mergeSort, sizeLine_eq]
          have := D.w.kl
          omega) ?_
        have f5 : Same H (upd H4 q (.lst (xs ++ [.ref t]))) := Same.mut f4 (s0.free hqH)
        walk_at "go"
        refine ⟨q, _, rfl, rfl, upd_same, ?_⟩
        walk_at "go"
        exact ⟨_, _, _, _, _, _, rfl, Same.mut f5 (s0.free hqH)⟩
    · rintro σ' H0 ⟨v3, v4, v5, v6, v7, v8, rfl, s0⟩
      have hS0 := s0.seq hS
      walk_at "go"
      refine ⟨⟨_, hS0⟩, for_list (xs := ss.map V.str) (fun i σ' H' => ∃ (v6 v8 : Option V), σ' = [some (.ref x.p), some (.ref x.u), some (.ref l), v3, v4, v5, v6, v7, v8] ∧ Same H H') ⟨_, _, rfl, s0⟩ (fun i σ' H' _ h => by obtain ⟨_, _, _, s⟩ := h; exact s.seq hS) ?_ ?_⟩
      · rintro j y σ' H1 hj ⟨v6, v8, rfl, s1⟩
        obtain ⟨w, hw, rfl⟩ := map_get hj
        have hww := hws w (List.mem_of_getElem? hw)
        have hwl := isW_len hww
        walk_at "go"
        refine ⟨_, _, rfl, rfl, by
          rw [show (Str.ofString "q").length = 1 by decide +kernel, sizeLine_eq]; omega, ?_⟩
        walk_at "go"
        refine ⟨sz (by simp), fun p2 hp2 => ?_⟩
        have s2 := Same.new (o := .lst [.str w, .str (w ++ Str.ofString "q")]) s1 hp2
        have hp22 : upd H1 p2 (.lst [.str w, .str (w ++ Str.ofString "q")]) p2 = some (.lst (([w, w ++ Str.ofString "q"] : List Str).map V.str)) := upd_same
        generalize upd H1 p2 (.lst [.str w, .str (w ++ Str.ofString "q")]) = H2 at s2 hp22 ⊢
        have D2 := D.same s2
        obtain ⟨dx2, hpx⟩ := D2.w.ob
        have hl2 := D2.l
        have hT2 := D2.t
        walk_at "go"
        refine ⟨⟨_, SqL.of hp22⟩, for_list (xs := ([w, w ++ Str.ofString "q"] : List Str).map V.str) (fun i σ' H' => ∃ (v8 : Option V), σ' = [some (.ref x.p), some (.ref x.u), some (.ref l), v3, v4, v5, some (.str w), v7, v8] ∧ H' = H2) ⟨_, rfl, rfl⟩ (fun i σ' H' _ h => by obtain ⟨_, _, rfl⟩ := h; exact SqL.of hp22) ?_ ?_⟩
        · rintro j2 y σ' H' hj2 ⟨v8, rfl, rfl⟩
          obtain ⟨z, hz, rfl⟩ := map_get hj2
          walk_at "go"
          refine ⟨x.p, x.dm, x.dt, A, ks, B, n, N, z, rfl, D2.w, ?_⟩
          walk_at "go"
          refine ⟨x.p, x.dm, x.dt, A, ks, B, n, N, z, rfl, D2.w, ?_⟩
          walk_at "go"
          rw [show (!decide (V.bl (A z).isSome = V.bl (Option.map (fun m => V.int (wn m n)) (A z)).isSome)) = false by cases A z <;> rfl]
          walk_at "go"
          exact ⟨_, rfl, rfl⟩
        · rintro σ' H' ⟨v8, rfl, rfl⟩
          walk_at "go"
          cases hA : A w with
          | none =>
            rw [show (Option.map (fun m => V.int (wn m n)) (none : Option (Int × Int))).isSome = false from rfl]
            walk_at "go"
            exact ⟨_, _, rfl, s2⟩
          | some m =>
            rw [show (Option.map (fun m => V.int (wn m n)) (some m : Option (Int × Int))).isSome = true from rfl]
            walk_at "go"
            refine ⟨x.p, x.dm, x.dt, A, ks, B, n, N, w, rfl, D2.w, fun h => absurd (hA.symm.trans h) (by simp), fun m' e' => ?_⟩
            rw [hA] at e'; cases e'
            walk_at "go"
            refine s_dget (v := .int (wn m n)) hT2 (by rw [hA]; rfl) ?_
            walk_at "go"
            rw [show (!decide (V.int (wn m n) = V.int (wn m n))) = false by simp]
            walk_at "go"
            exact ⟨_, _, rfl, s2⟩
      · rintro σ' H1 ⟨v6, v8, rfl, s1⟩
        walk_at "go"
        exact k H1 s1
theorem ok_law_times (T : Top K mg C_Wood X_Absent X_NoWord X_Twice) (F_law_take : Fn P w K mg base 1 "_law_take" ["_law_box_here", "_law_many"] spTake) : Fn P w K mg base 2 "_law_times" ["_law_box_here"] spTimes := by
  refine T.d_law_times.ok sc_law_times bi_law_times (fun vs H Q E h => ?_) (fun f cdv A outer s H vs Q E hr h => ?_)
  · obtain ⟨b, rfl, hb, k⟩ := h; rfl
  · obtain ⟨b, rfl, hb, k⟩ := h
    have cl_Wood := T.cl_Wood
    have na_Wood_marks := T.na_Wood_marks
    have na_Wood_tops := T.na_Wood_tops
    have na_Wood_now := T.na_Wood_now
    refine ⟨_, (pss_one (ps_ret (pe_ix ix_list (pe_lst (pa_cons (pe_int) (pa_cons (pe_op op_add (pe_int) (pe_fn F_law_take (hr.mono (by decide)) passL (pa_cons (pv 0) (pa_cons (pe_int) pa_nil)))) (pa_cons (pe_op op_add (pe_int) (pe_fn F_law_take (hr.mono (by decide)) passL (pa_cons (pv 0) (pa_cons (pe_op op_pow (pe_int) (pe_int)) pa_nil)))) pa_nil)))) (pe_fn F_law_take (hr.mono (by decide)) passL (pa_cons (pv 0) (pa_cons (pe_int) pa_nil))) (fun _ _ => rfl)))), ?_⟩
    walk_at "go"
    refine use_take hb (by decide) (by decide) fun r1 H1 r10 r11 b1 s1 => ?_
    walk_at "go"
    refine use_take b1 (by decide) (by decide) fun r2 H2 r20 r21 b2 s2 => ?_
    have e6 : ((10 : Int) ^ Int.toNat 6) = 1000000 := by decide
    walk_at "go"
    refine ⟨sz (by simp), fun p hp => ?_⟩
    walk_at "go"
    refine use_take (b2.new hp) (by decide) (by decide) fun r3 H3 r30 r31 b3 s3 => ?_
    have hp3 := s3 _ _ (b2.ne hp).symm upd_same
    rw [e6] at r21
    obtain ⟨c, hc, c0, c1⟩ := pick3 (a := 1) (b := 1 + r1) (c := 1 + r2) (P := fun c => 1 ≤ c ∧ c ≤ 1000000) r30 r31 (by decide) (by omega) (by omega)
    refine s_ixL (SqL.of hp3) hc ?_
    exact k _ _ c0 c1 b3 (((s1.trans s2).new hp).trans s3)
theorem ok_law_faded (T : Top K mg C_Wood X_Absent X_NoWord X_Twice)  : Fn P w K mg base 1 "_law_faded" ["_law_worths", "_law_times_here"] spFaded := by
  refine T.d_law_faded.ok sc_law_faded bi_law_faded (fun vs H Q E h => ?_) (fun f cdv A outer s H vs Q E hr h => ?_)
  · obtain ⟨d, g, ks, t, rfl, hT, hk, ht, k⟩ := h; rfl
  · obtain ⟨d, g, ks, t, rfl, hT, hk, ht, k⟩ := h
    have cl_Wood := T.cl_Wood
    have na_Wood_marks := T.na_Wood_marks
    have na_Wood_tops := T.na_Wood_tops
    have na_Wood_now := T.na_Wood_now
    refine ⟨_, (pss_one (ps_for PassesOwn.never rfl (pi_list (pe_callTy (call_listD rfl) rfl T.n_list (by decide +kernel) (pa_cons (pv 0) pa_nil))) (pg_name (i := 2) sc_law_faded.nd rfl (Or.inl rfl)) (pss_one (ps_for PassesOwn.never rfl (pi_range1 rfl T.n_range (pa_cons (pe_callB (call_min2 rfl) rfl T.n_min (by decide +kernel) (pa_cons (pv 1) (pa_cons (pe_int) pa_nil))) pa_nil)) (pg_name (i := 3) sc_law_faded.nd rfl (Or.inl rfl)) (pss_one (ps_dput (hu_of hr) (pv 0) (pv 2) (pe_op op_fdiv (pe_dget (hu_of hr) (pv 0) (pv 2) (fun _ _ => rfl)) (pe_int)) rfl)))))), ?_⟩
    walk_at "go"
    obtain ⟨kvs, hd, hkeys⟩ := hT.keys
    refine ⟨d, kvs, rfl, .inl hd, fun q hq => ?_⟩
    rw [hkeys]
    have s1 : Same H (upd H q (.lst (ks.map V.str))) := Same.new (Same.refl _) hq
    have hq1 : upd H q (.lst (ks.map V.str)) q = some (.lst (ks.map V.str)) := upd_same
    have hT1 := hT.same s1
    have nqd : q ≠ d := by
      obtain ⟨kvs, e⟩ := hT.there
      exact (ne_of_none e hq).symm
    generalize upd H q (.lst (ks.map V.str)) = H1 at s1 hq1 hT1 ⊢
    walk_at "go"
    refine ⟨⟨_, SqL.of hq1⟩, for_list (xs := ks.map V.str) (fun i σ' H' => ∃ (v2 v3 : Option V), σ' = [some (.ref d), some (.int t), v2, v3] ∧ TD H' d (fun w => (g w).map fun c => V.int (if w ∈ ks.take i then halfN c t else c)) ks ∧ ∀ a o, a ≠ d → H1 a = some o → H' a = some o) ⟨none, none, rfl, by simpa using hT1, fun _ _ _ e => e⟩ (fun i σ' H' _ h => by obtain ⟨_, _, _, _, s⟩ := h; exact SqL.of (s _ _ nqd hq1)) ?_ ?_⟩
    · rintro i y σ' H2 hi ⟨v2, v3, rfl, hT2, f2⟩
      obtain ⟨w, hw, rfl⟩ := map_get hi
      have hwk : w ∈ ks := List.mem_of_getElem? hw
      have hnw : w ∉ ks.take i := fun hm => by
        obtain ⟨j, hj, e⟩ := List.mem_iff_getElem.mp hm
        rw [List.length_take] at hj
        rw [List.getElem_take] at e
        obtain ⟨hi2, e2⟩ := List.getElem?_eq_some_iff.mp hw
        have := (List.getElem_inj hT.nd).mp (e.trans e2.symm)
        omega
      obtain ⟨c, hc⟩ : ∃ c, g w = some c := by
        have := hT.mem.mp hwk
        cases hg : g w with
        | none => rw [hg] at this; cases this
        | some c => exact ⟨c, rfl⟩
      walk_at "go"
      have em : (if (60 : Int) < t then (60 : Int) else t) = min t 60 := by
        rw [Int.min_def]; split <;> split <;> omega
      refine ⟨t, 60, rfl, ?_⟩
      rw [em]
      walk_at "go"
      refine ⟨by omega, by omega, for_range (lo := 0) (n := (min t 60).toNat) (fun j σ' H' => ∃ (v3 : Option V), σ' = [some (.ref d), some (.int t), some (.str w), v3] ∧ TD H' d (fun z => (g z).map fun c => V.int (if z ∈ ks.take i then halfN c t else if z = w then c / 2 ^ j else c)) ks ∧ ∀ a o, a ≠ d → H1 a = some o → H' a = some o) ⟨_, rfl, ?_, f2⟩ ?_ ?_⟩
      · refine cast ?_ hT2
        congr 1
        funext z
        congr 1
        funext c
        by_cases h1 : z = w <;> simp [h1]
      · rintro j σ' H3 hj ⟨v3, rfl, hT3, f3⟩
        walk_at "go"
        refine s_dget (v := .int (c / 2 ^ j)) hT3 (by rw [hc]; simp [hnw]) ?_
        walk_at "go"
        refine s_dput hT3 (by omega) fun o hT4 => ?_
        rw [addK_in hwk] at hT4
        refine ⟨_, rfl, ?_, fun a u na e => by rw [upd_ne na]; exact f3 a u na e⟩
        refine cast ?_ hT4
        congr 1
        funext z
        unfold setv
        by_cases h1 : z = w
        · subst h1
          rw [if_pos rfl, hc]
          simp [hnw, half_more]
        · simp [h1]
      · rintro σ' H3 ⟨v3, rfl, hT3, f3⟩
        walk_at "go"
        refine ⟨_, _, rfl, ?_, f3⟩
        refine cast ?_ hT3
        congr 1
        funext z
        rw [take_more hw]
        congr 1
        funext c
        by_cases h1 : z = w
        · subst h1
          simp [hnw, halfN]
        · simp [h1]
    · rintro σ' H2 ⟨v2, v3, rfl, hT2, f2⟩
      walk_at "go"
      refine k H2 ?_ fun a o na e => f2 a o na (s1 a o e)
      refine cast ?_ hT2
      congr 1
      funext z
      rw [List.length_map, List.take_length]
      cases hg : g z with
      | none => rfl
      | some c =>
        have : z ∈ ks := hT.mem.mpr (by rw [hg]; rfl)
        simp [this]
theorem ok_Wood_fade (T : Top K mg C_Wood X_Absent X_NoWord X_Twice)  : FnM P w K mg base 1 C_Wood "fade" ["self", "times"] [V.int 1] (spFade C_Wood) := by
  refine T.me_Wood_fade.ok sc_Wood_fade (fun vs H Q E h => ?_) (fun f cdv A outer s H vs Q E hr h => ?_)
  · obtain ⟨p, dm, dt, A, ks, B, n, N, t, rfl, W, ht, k⟩ := h; rfl
  · obtain ⟨p, dm, dt, A, ks, B, n, N, t, rfl, W, ht, k⟩ := h
    have cl_Wood := T.cl_Wood
    have na_Wood_marks := T.na_Wood_marks
    have na_Wood_tops := T.na_Wood_tops
    have na_Wood_now := T.na_Wood_now
    refine ⟨_, (pss_one (ps_fld (pv 0) (pe_op op_add (pe_fld (pv 0) rfl) (pv 1)) rfl)), ?_⟩
    obtain ⟨dx, hp⟩ := W.ob
    walk_at "go"
    rw [wf_put]
    exact k _ (W.later ht upd_same fun a o na e => by rw [upd_ne na]; exact e) fun a o na e => by rw [upd_ne na]; exact e
theorem ok_law_fade (T : Top K mg C_Wood X_Absent X_NoWord X_Twice) (F_Wood_fade : FnM P w K mg base 1 C_Wood "fade" ["self", "times"] [V.int 1] (spFade C_Wood)) (F_law_faded : Fn P w K mg base 1 "_law_faded" ["_law_worths", "_law_times_here"] spFaded) (F_law_times : Fn P w K mg base 2 "_law_times" ["_law_box_here"] spTimes) : Fn P w K mg base 3 "_law_fade" ["_law_box_here", "_law_wood", "_law_due"] (spLFade C_Wood) := by
  refine T.d_law_fade.ok sc_law_fade bi_law_fade (fun vs H Q E h => ?_) (fun f cdv A outer s H vs Q E hr h => ?_)
  · obtain ⟨x, n, b, N, e, rfl, he, ⟨A, ks, ks2, B, D⟩, hN, hb, k⟩ := h; rfl
  · obtain ⟨x, n, b, N, e, rfl, he, ⟨A, ks, ks2, B, D⟩, hN, hb, k⟩ := h
    have cl_Wood := T.cl_Wood
    have na_Wood_marks := T.na_Wood_marks
    have na_Wood_tops := T.na_Wood_tops
    have na_Wood_now := T.na_Wood_now
    refine ⟨_, (pss_cons (ps_set (i := 3) sc_law_fade.nd rfl (Or.inl rfl) (pe_fn F_law_times (hr.mono (by decide)) passL (pa_cons (pv 0) pa_nil)))
    (pss_cons (ps_asg (pe_op op_add (pe_ix ix_list (pv 2) (pe_int) (fun _ _ => rfl)) (pv 3)) (pg_sub (pv 2) (pe_int) set_list))
    (pss_cons (ps_expr (pe_fn F_law_faded (hr.mono (by decide)) passL (pa_cons (pe_ix ix_list (pv 2) (pe_int) (fun _ _ => rfl)) (pa_cons (pv 3) pa_nil))))
    (pss_cons (ps_if (pt_cmpR op_eq (pv 3) (pe_int) (nomark _)) (pss_one (ps_ret (pe_cmpR op_isN (pe_mthD0 F_Wood_fade (hr.mono (by decide)) passL (pv 1)) (pe_non) (nomark _)))) pss_nil)
    (pss_one (ps_ret (pe_cmpR op_isN (pe_mth F_Wood_fade (hr.mono (by decide)) passL (pv 1) (pa_cons (pv 3) pa_nil)) (pe_non) (nomark _)))))))), ?_⟩
    walk_at "go"
    refine ⟨e, rfl, he, fun r H1 r0 r1 b1 s1 => ?_⟩
    have D1 := D.but s1 he
    have hne : ¬ x.own e := D1.nb b1
    have f1 : ∀ a o, ¬ x.own a → a ≠ e → H a = some o → H1 a = some o := fun a o _ na z => s1 a o na z
    obtain ⟨dx, hp⟩ := D1.w.ob
    have hl := D1.l
    have hkl := D1.kl
    have hpu := D1.pu
    walk_at "go"
    have f2 : Off5 x H1 (upd H1 x.u (.lst [.int (n + r), .ref x.d])) := fun a u na e => by rw [upd_ne (fun z => na (.inr (.inr (.inr (.inl z)))))]; exact e
    have hl2 : upd H1 x.u (.lst [.int (n + r), .ref x.d]) x.u = some (.lst [.int (n + r), .ref x.d]) := upd_same
    have W2 : WoodAt C_Wood (upd H1 x.u (.lst [.int (n + r), .ref x.d])) x.p x.dm x.dt A ks B n N := D1.w.keep (by rw [upd_ne hpu.1.symm]) (by rw [upd_ne hpu.2.1.symm]) (by rw [upd_ne hpu.2.2.1.symm]) fun t zs z => by
      rw [upd_ne (by rintro rfl; rw [hl] at z; cases z)]; exact z
    have hp2 : upd H1 x.u (.lst [.int (n + r), .ref x.d]) x.p = some (.ins C_Wood dx (woodF x.dm x.dt n)) := by rw [upd_ne hpu.1.symm]; exact hp
    have hT2 : TD (upd H1 x.u (.lst [.int (n + r), .ref x.d])) x.d (fun w => ((A w).map fun m => wn m n).map V.int) ks2 := by
      have := D1.t.keep (H' := upd H1 x.u (.lst [.int (n + r), .ref x.d])) (by rw [upd_ne hpu.2.2.2.1.symm])
      refine cast ?_ this
      congr 1
      funext w
      rw [Option.map_map]; rfl
    show spFaded _ (upd H1 x.u (.lst [.int (n + r), .ref x.d])) _ _
    generalize upd H1 x.u (.lst [.int (n + r), .ref x.d]) = H2 at f2 hl2 W2 hp2 hT2 ⊢
    refine ⟨x.d, _, ks2, r, rfl, hT2, by omega, by omega, fun H3 hT3 f3 => ?_⟩
    have W3 : WoodAt C_Wood H3 x.p x.dm x.dt A ks B n N := by
      obtain ⟨v, g2, _⟩ := W2.ma
      obtain ⟨k1, g2⟩ := g2.there
      obtain ⟨v2, ks', g4, _⟩ := W2.tp
      obtain ⟨k2, g4⟩ := g4.there
      obtain ⟨k3, g5⟩ := hT2.there
      exact W2.keep ((f3 _ _ hpu.2.2.2.2.symm hp2).trans hp2.symm) ((f3 _ _ D1.n1.symm g2).trans g2.symm) ((f3 _ _ D1.n2.symm g4).trans g4.symm) fun t zs z => f3 _ _ (by rintro rfl; rw [g5] at z; cases z) z
    have hl3 := f3 _ _ hpu.2.2.2.1 hl2
    have hp3 := f3 _ _ hpu.2.2.2.2.symm hp2
    have g3 : Off5 x H1 H3 := f2.trans fun a o na z => f3 a o (fun y => na (.inr (.inr (.inr (.inr y))))) z
    have fin : ∀ H4 : Hp, WoodAt C_Wood H4 x.p x.dm x.dt A ks B (n + r) N → (∀ a o, a ≠ x.p → H3 a = some o → H4 a = some o) → Q (.bl true) H4 := fun H4 W4 f4 => by
      have hl4 := f4 _ _ hpu.1 hl3
      obtain ⟨kvs, hd3⟩ := hT3.there
      have hd4 := f4 _ _ hpu.2.2.2.2 hd3
      have g4 : Off5 x H1 H4 := g3.trans fun a o na z => f4 a o (fun y => na (.inl y)) z
      have b4 : BoxAt H4 e := by
        obtain ⟨_, _, _, _, z⟩ := b1
        exact ⟨_, _, _, _, g4 _ _ hne z⟩
      have hlate : ∀ w m, A w = some m → wn m (n + r) = halfN (wn m n) r ∧ wn m (n + r) ≤ wn m n := fun w m ea => by
        have hok := D1.w.ok _ _ ea
        have hbd := D1.bd _ _ ea
        have h60 : (1000000000000 : Int) < 2 ^ 60 := by decide
        refine ⟨(half_later hok.2.1 hok.2.2 (by omega) (by omega)).symm, ?_⟩
        rw [wn_later hok.2.2 (show n ≤ n + r by omega)]
        exact worth_le (worth_nonneg hok.2.1)
      refine k (n + r) H4 ⟨A, ks, ks2, B, ⟨W4, hl4, hT3.keep (hd4.trans hd3.symm) |> fun z => cast ?_ z, fun w m ea => ?_, D1.n1, D1.n2, hkl⟩⟩ b4 fun a o na ne z => g4 a o na (f1 a o na ne z)
      · congr 1
        funext w
        cases ea : A w with
        | none => rfl
        | some m =>
          show some (V.int (halfN (wn m n) r)) = some (V.int (wn m (n + r)))
          rw [(hlate w m ea).1]
      · have := (hlate w m ea).2
        have := D1.bd w m ea
        omega
    walk_at "go"
    refine bT (fun hr => ?_) (fun hr => ?_)
    · walk_at "go"
      have er : r = 1 := by simpa using hr
      refine ⟨x.p, x.dm, x.dt, A, ks, B, n, N, 1, rfl, W3, by decide, fun H4 W4 f4 => ?_⟩
      walk_at "go"
      refine ⟨rfl, ?_⟩
      rw [show decide (V.non = V.non) = true from rfl]
      exact fin H4 (by rw [er]; exact W4) f4
    · walk_at "go"
      refine ⟨x.p, x.dm, x.dt, A, ks, B, n, N, r, rfl, W3, by omega, fun H4 W4 f4 => ?_⟩
      walk_at "go"
      refine ⟨rfl, ?_⟩
      rw [show decide (V.non = V.non) = true from rfl]
      exact fin H4 W4 f4
theorem ok_Wood_longer_by_one (T : Top K mg C_Wood X_Absent X_NoWord X_Twice)  : FnM P w K mg base 1 C_Wood "longer_by_one" ["self", "text"] [] (spLonger C_Wood) := by
  refine T.me_Wood_longer_by_one.ok sc_Wood_longer_by_one (fun vs H Q E h => ?_) (fun f cdv A outer s H vs Q E hr h => ?_)
  · obtain ⟨p, dm, dt, A, ks, B, n, N, x, rfl, W, hx, k⟩ := h; rfl
  · obtain ⟨p, dm, dt, A, ks, B, n, N, x, rfl, W, hx, k⟩ := h
    have cl_Wood := T.cl_Wood
    have na_Wood_marks := T.na_Wood_marks
    have na_Wood_tops := T.na_Wood_tops
    have na_Wood_now := T.na_Wood_now
    refine ⟨_, (pss_one (ps_ret (pe_lc (own := [("sign", 2)]) (by rfl) sc_Wood_longer_by_one.nd (pi_str (pe_gstr T.c_SIGNS)) (blkOk_by (own := [("sign", 2)]) (N := ["self", "text", "sign"]) (sc := defScope s_Wood_longer_by_one) (by decide +kernel)) (fun _ _ _ _ _ => (pg_name (i := 2) sc_Wood_longer_by_one.nd rfl (Or.inl rfl))) (fun _ _ _ _ _ => (pts_one (pt_cmp (pc_din (hu_of hr) (pe_op op_add_str (pv 1) (pv 2)) (pe_fldK (K := K) rfl (pv 0) rfl))))) (fun _ _ _ _ _ => (pe_op op_add_str (pv 1) (pv 2)))))), ?_⟩
    obtain ⟨dx, hp⟩ := W.ob
    obtain ⟨val, ks', hT, hk, hM⟩ := W.tp
    have hxc : ∀ c, x.length + (sgn c).length ≤ sizeLine := fun c => by
      show x.length + 1 ≤ sizeLine
      rw [sizeLine_eq]; omega
    walk_at "go"
    intro D hD
    refine lc_it walk_str (PvV (resF signsL (fun c => (B (x ++ sgn c)).isSome) fun c => .str (x ++ sgn c)) H D) (lc_begin hD resF_0) (fun _ _ _ _ => trivial) ?_ ?_
    · rintro i v H' H2 hi pv ⟨rfl, c, hc, rfl⟩
      have hc2 : signsL[i]? = some c := by rw [← signs_text, Array.getElem?_toList]; exact hc
      have hT' := hT.same pv.1
      have hp' := pv.1 _ _ hp
      walk_at "go"
      refine ⟨rfl, ?_⟩
      walk_at "go"
      refine ⟨x, sgn c, rfl, rfl, hxc c, ?_⟩
      walk_at "go"
      rw [hM.none_iff]
      refine bT (fun hb => ?_) (fun hb => ?_)
      · walk_at "go"
        refine ⟨x, sgn c, rfl, rfl, hxc c, ?_⟩
        exact lc_put pv hD (Same.refl _) (resF_y (p := fun c => (B (x ++ sgn c)).isSome) hc2 hb) (resF_len (by decide))
      · exact lc_skip pv (Same.refl _) (resF_n (p := fun c => (B (x ++ sgn c)).isSome) hc2 hb)
    · intro H' pv
      rw [signs_size] at pv
      walk_at "go"
      refine k D H' ?_ hD pv.1
      rw [pv.2, resF_all (by decide)]
      unfold longer
      rw [List.map_map]; rfl
theorem ok_greatest_at (T : Top K mg C_Wood X_Absent X_NoWord X_Twice) (F_worth_at : Fn P w K mg base 1 "worth_at" ["mark", "era"] (spWorth K)) : Fn P w K mg base 2 "greatest_at" ["marks", "era"] (spGreat K) := by
  refine T.d_greatest_at.ok sc_greatest_at bi_greatest_at (fun vs H Q E h => ?_) (fun f cdv A outer s H vs Q E hr h => ?_)
  · obtain ⟨p, ms, n, rfl, hM, hl, k0, k1⟩ := h; rfl
  · obtain ⟨p, ms, n, rfl, hM, hl, k0, k1⟩ := h
    have cl_Wood := T.cl_Wood
    have na_Wood_marks := T.na_Wood_marks
    have na_Wood_tops := T.na_Wood_tops
    have na_Wood_now := T.na_Wood_now
    refine ⟨_, (pss_cons (ps_if (pt_cmpR (op_eqD hr.units) (pv 0) (pe_lst pa_nil) (nomark _)) (pss_one (ps_ret (pe_non))) pss_nil)
    (pss_one (ps_ret (pe_callB (cr_max rfl) rfl T.n_max (by decide +kernel) (pa_cons (pe_lc (own := [("mark", 2)]) (by rfl) sc_greatest_at.nd (pi_list (pv 0)) (blkOk_by (own := [("mark", 2)]) (N := ["marks", "era", "mark"]) (sc := defScope s_greatest_at) (by decide +kernel)) (fun _ _ _ _ _ => (pg_name (i := 2) sc_greatest_at.nd rfl (Or.inl rfl))) (fun _ _ _ _ _ => pts_nil) (fun _ _ _ _ _ => (pe_fn F_worth_at (hr.mono (by decide)) passL (pa_cons (pv 2) (pa_cons (pv 1) pa_nil))))) pa_nil))))), ?_⟩
    walk_at "go"
    refine ⟨sz (by simp), fun p0 hp0 => ?_⟩
    have s0 : Same H (upd H p0 (.lst [])) := Same.new (Same.refl H) hp0
    have hM2 := hM.same s0
    refine s_eqD hM2.data (.lst (SqL.of upd_same) .nil) (shaped_of (ok_marks ms)) rfl ?_
    walk_at "go"
    refine bT (fun hc => ?_) (fun hc => ?_)
    · have e : ms = [] := by
        cases ms with
        | nil => rfl
        | cons m ms => simp [dMarks, PyData.eqv, PyData.eqvAll] at hc
      walk_at "go"
      exact k0 e _ s0
    · have e : ms ≠ [] := by
        rintro rfl
        simp [dMarks, PyData.eqv, PyData.eqvAll] at hc
      walk_at "go"
      refine ⟨⟨_, hM2.seq⟩, fun D hD => ?_⟩
      refine lc_list (xs := ms.map mref) (PvV (resM ms fun m => .int (worth m.2.1 m.2.2 n)) _ D) (lc_begin hD resM_0) (fun i H' _ p => p.1.seq hM2.seq) ?_ ?_
      · intro i x H' hi pv
        obtain ⟨m, hm, rfl⟩ := map_get hi
        obtain ⟨ht, h0⟩ := (hM2.same pv.1).tup m (List.mem_of_getElem? hm)
        walk_at "go"
        refine ⟨rfl, ?_⟩
        walk_at "go"
        refine ⟨m.1, m.2.1, m.2.2, n, rfl, ht, h0, ?_⟩
        exact lc_put pv hD (Same.refl _) (resM_s hm) (resM_len (by omega))
      · intro H' pv
        rw [List.length_map] at pv
        walk_at "go"
        have hl2 : H' D = some (.lst ((ms.map fun m => worth m.2.1 m.2.2 n).map V.int)) := by
          rw [pv.2, resM_all rfl, List.map_map]; rfl
        refine ⟨D, ms.map fun m => worth m.2.1 m.2.2 n, rfl, SqL.of hl2, ?_, fun g hg hge => ?_⟩
        · cases ms with
          | nil => exact absurd rfl e
          | cons _ _ => simp
        · obtain ⟨m, hm, rfl⟩ := List.mem_map.mp hg
          exact k1 _ _ (s0.trans pv.1) ⟨m, hm, rfl⟩ fun m' hm' => hge _ (List.mem_map.mpr ⟨m', hm', rfl⟩)
theorem ok_Wood_renew_tops (T : Top K mg C_Wood X_Absent X_NoWord X_Twice) (F_Wood_longer_by_one : FnM P w K mg base 1 C_Wood "longer_by_one" ["self", "text"] [] (spLonger C_Wood)) (F_greatest_at : Fn P w K mg base 2 "greatest_at" ["marks", "era"] (spGreat K)) : FnM P w K mg base 3 C_Wood "renew_tops" ["self", "word"] [] (spRenew C_Wood) := by
  refine T.me_Wood_renew_tops.ok sc_Wood_renew_tops (fun vs H Q E h => ?_) (fun f cdv A outer s H vs Q E hr h => ?_)
  · obtain ⟨p, dm, dt, A, ks, B, n, N, w, rfl, W, hN, hw, hB, k⟩ := h; rfl
  · obtain ⟨p, dm, dt, A, ks, B, n, N, w, rfl, W, hN, hw, hB, k⟩ := h
    have cl_Wood := T.cl_Wood
    have na_Wood_marks := T.na_Wood_marks
    have na_Wood_tops := T.na_Wood_tops
    have na_Wood_now := T.na_Wood_now
    refine ⟨_, (pss_one (ps_for PassesOwn.never rfl (pi_range3 rfl T.n_range (pa_cons (pe_callB call_len_str rfl T.n_len (by decide +kernel) (pa_cons (pv 1) pa_nil)) (pa_cons (pe_un un_neg (pe_int)) (pa_cons (pe_un un_neg (pe_int)) pa_nil)))) (pg_name (i := 2) sc_Wood_renew_tops.nd rfl (Or.inl rfl)) (pss_cons (ps_set (i := 3) sc_Wood_renew_tops.nd rfl (Or.inl rfl) (pe_slice sl_str (pv 1) po_none (po_some (pv 2))))
    (pss_cons (ps_setLc (i := 4) (own := [("other", 5)]) (by rfl) sc_Wood_renew_tops.nd rfl rfl (sw_true rfl rfl rfl (by decide +kernel)) (pi_list (pe_mth F_Wood_longer_by_one (hr.mono (by decide)) passL (pv 0) (pa_cons (pv 3) pa_nil))) (blkOk_by (own := [("other", 5)]) (N := ["self", "word", "size", "text", "behind", "other"]) (sc := defScope s_Wood_renew_tops) (by decide +kernel)) (fun _ _ _ _ _ => (pg_name (i := 5) sc_Wood_renew_tops.nd rfl (Or.inl rfl))) (fun _ _ _ _ _ => pts_nil) (fun _ _ _ _ _ => (pe_dget (hu_of hr) (pe_fldK (K := K) rfl (pv 0) rfl) (pv 5) (fun _ _ => rfl))))
    (Evl.pss_cut (ps_if (pt_cmp (pc_din (hu_of hr) (pv 3) (pe_fld (pv 0) rfl))) (pss_one (ps_expr (pe_bm PySem.F.plainAttrs_list PySem.F.slot_list_append PySem.F.type_list_append mt_append (pv 4) (pa_cons (pe_dget (hu_of hr) (pe_fld (pv 0) rfl) (pv 3) (fun _ _ => rfl)) pa_nil)))) pss_nil)
    (pss_one (ps_if (pt_cmpR (op_eqD hr.units) (pv 4) (pe_lst pa_nil) (nomark _)) (pss_one (ps_expr (pe_dpop2 (pe_fld (pv 0) rfl) (pv 3) (pe_non) ⟨rfl, rfl, rfl, rfl⟩))) (pss_one (ps_dput (hu_of hr) (pe_fld (pv 0) rfl) (pv 3) (pe_tup (pa_cons (pe_fn F_greatest_at (hr.mono (by decide)) passL (pa_cons (pv 4) (pa_cons (pe_fld (pv 0) rfl) pa_nil))) (pa_cons (pe_fld (pv 0) rfl) pa_nil))) rfl))))))))), ?_⟩
    have hlen := isW_len hw
    have hwl : w.length ≤ sizeLine := sz (by omega)
    have hw1000 : (TL.tl w).length ≤ 24 := by rw [← TL.len_tl]; omega
    walk_at "go"
    refine ⟨w, rfl, hwl, ?_⟩
    walk_at "go"
    refine ⟨_, _, _, _, rfl, RgC.neg (by omega) (by omega) (by decide) (by decide), for_rangeC (fun i σ' H' => ∃ (v2 v3 v4 v5 : Option V) (B' : MarkM), σ' = [some (.ref p), some (.str w), v2, v3, v4, v5] ∧ WoodP C_Wood H' p dm dt A ks B' n (N + i) ∧ Off p dm dt H H' ∧ ∀ y, (TL.tl y <+: TL.tl w → (TL.tl w).length < (TL.tl y).length + i) → TopAt A B' n y)
      ⟨none, none, none, none, B, rfl, W, fun _ _ _ _ _ e => e, fun y hy => hB y fun pf => by have := hy pf; have := pf.length_le; omega⟩ ?_ ?_⟩
    · rintro i σ' H1 hi ⟨v2, v3, v4, v5, B1, rfl, W1, f1, hB1⟩
      rw [TL.len_tl] at hi
      have hi2 : i ≤ (TL.tl w).length := by omega
      obtain ⟨dx, hp⟩ := W1.ob
      walk_at "go"
      refine s_slS hwl ?_
      have hx : TL.tl (cutS w none (some ((w.length : Int) + (i : Int) * -1))) = (TL.tl w).take ((TL.tl w).length - i) := by
        rw [tl_cut_to (by rw [TL.len_tl]; omega)]
        congr 1
        rw [TL.len_tl]; omega
      generalize cutS w none (some ((w.length : Int) + (i : Int) * -1)) = x at hx ⊢
      have hxl : x.length ≤ 1000 := by rw [TL.len_tl, hx, List.length_take]; omega
      walk_at "go"
      refine ⟨p, dm, dt, A, ks, B1, n, N + i, x, rfl, W1, hxl, fun q H2 hq hqn s2 => ?_⟩
      have W2 := W1.same s2
      have hp2 := s2 _ _ hp
      obtain ⟨val, ks', hT, hk, hM⟩ := W2.tp
      walk_at "go"
      refine ⟨⟨_, SqL.of hq⟩, fun D hD => ?_⟩
      refine lc_list (xs := (longer B1 x).map V.str) (PvV (resM (longer B1 x) fun y => (val y).getD .non) H2 D) (lc_begin hD resM_0) (fun i H' _ p => p.1.seq (SqL.of hq)) ?_ ?_
      · intro j v H' hj pv
        obtain ⟨y, hy, rfl⟩ := map_get hj
        have hT' := hT.same pv.1
        have hp' := pv.1 _ _ hp2
        obtain ⟨c, _, hs, rfl⟩ := mem_longer.mp (List.mem_of_getElem? hy)
        obtain ⟨m, hm⟩ := Option.isSome_iff_exists.mp hs
        obtain ⟨t, e1, e2⟩ := hM.some hm
        walk_at "go"
        refine ⟨rfl, ?_⟩
        walk_at "go"
        refine s_dget hT' e1 ?_
        exact lc_put pv hD (Same.refl _) (by rw [resM_s hy, e1]; rfl) (resM_len (Nat.le_trans longer_len (by decide)))
      intro H3 pv
      rw [List.length_map] at pv
      obtain ⟨bs0, hb1, hb2, hb3, hb4⟩ := behind_list (x := x) hM
      have hD3 : H3 D = some (.lst (bs0.map mref)) := by rw [pv.2, resM_all rfl, hb1]
      have s3 := pv.1
      clear pv
      have W3 := W2.same s3
      have hp3 := s3 _ _ hp2
      have hb2' : ∀ b ∈ bs0, H3 b.1 = some (.tup [.int b.2.1, .int b.2.2]) := fun b hb => s3 _ _ (hb2 b hb)
      obtain ⟨valm, hTm, hMm⟩ := W3.ma
      walk_at "go"
      refine u_cut (M := fun σ' H' => ∃ bs : List (Addr × Int × Int), σ' = [some (.ref p), some (.str w), some (.int ((w.length : Int) + (i : Int) * -1)), some (.str x), some (.ref D), v5] ∧ Same H2 H' ∧ H' D = some (.lst (bs.map mref)) ∧ bs.length ≤ 28 ∧
          (∀ b ∈ bs, H' b.1 = some (.tup [.int b.2.1, .int b.2.2])) ∧ ∀ m, m ∈ bs.map (·.2) ↔ ((∃ c ∈ signsL, B1 (x ++ sgn c) = some m) ∨ A x = some m)) ?_ ?_
      · walk_at "go"
        rw [hMm.none_iff]
        cases hA : A x with
        | none =>
          rw [show (none : Option (Int × Int)).isSome = false from rfl]
          walk_at "go"
          exact ⟨bs0, rfl, s3, hD3, by omega, hb2', fun m => by rw [hb3]; simp⟩
        | some m =>
          obtain ⟨t, e1, e2⟩ := hMm.some hA
          rw [show (some m : Option (Int × Int)).isSome = true from rfl]
          walk_at "go"
          refine s_dget hTm e1 ?_
          walk_at "go"
          refine s_app hD3 (by rw [List.length_map, sizeLine_eq]; omega) ?_
          walk_at "go"
          have kt : ∀ t zs, H3 t = some (.tup zs) → upd H3 D (.lst (bs0.map mref ++ [.ref t])) t = some (.tup zs) := fun t zs e => by
            rw [upd_ne (by rintro rfl; rw [hD3] at e; cases e)]; exact e
          refine ⟨bs0 ++ [(t, m)], rfl, Same.mut s3 hD, by rw [upd_same, List.map_append]; rfl, by simp; omega, fun b hb => ?_, fun m' => ?_⟩
          · rcases List.mem_append.mp hb with hb | hb
            · rw [upd_ne (by rintro rfl; have := hb2' b hb; rw [hD3] at this; cases this)]; exact hb2' b hb
            · have : b = (t, m) := by simpa using hb
              subst this
              rw [upd_ne (by rintro rfl; rw [hD3] at e2; cases e2)]; exact e2
          · rw [List.map_append, List.mem_append, hb3]
            simp [eq_comm]
      · rintro σ' H4 ⟨bs, rfl, s4, hD4, hl4, hb4, hm4⟩
        have W4 := W2.same s4
        have f4 : Off p dm dt H H4 := f1.trans (Off.of (s2.trans s4))
        have hp4 := s4 _ _ hp2
        have hct := child_top hB1 hx hi2
        have hTN := top_new W4.ok (fun c _ => hct c) hm4
        have hpos : ∀ b ∈ bs, 0 ≤ b.2.1 := fun b hb => by
          rcases (hm4 b.2).mp (List.mem_map.mpr ⟨b, hb, rfl⟩) with ⟨c, hc, e⟩ | e
          · rcases hct c with ⟨h, _⟩ | ⟨m, h1, h2, _⟩
            · rw [h] at e; cases e
            · rw [h1] at e; cases e; exact h2
          · exact (W4.ok _ _ e).2.1
        have hMA : ∀ G, Same H4 G → MarksAt K G D bs := fun G s => ⟨SqL.of (s _ _ hD4), fun b hb => ⟨SqT.of (s _ _ (hb4 b hb)), hpos b hb⟩⟩
        walk_at "go"
        refine ⟨sz (by simp), fun e he => ?_⟩
        have s5 : Same H4 (upd H4 e (.lst [])) := Same.new (Same.refl _) he
        have W5 := W4.same s5
        have hp5 := s5 _ _ hp4
        have he5 : upd H4 e (.lst []) e = some (.lst []) := upd_same
        have f5 := f4.trans (Off.of s5)
        have hM5 := hMA _ s5
        generalize upd H4 e (.lst []) = H5 at s5 W5 hp5 he5 f5 hM5 ⊢
        walk_at "go"
        refine s_eqD hM5.data (.lst (SqL.of he5) .nil) (shaped_of (ok_marks bs)) rfl ?_
        obtain ⟨val5, ks5, hT5, hk5, hV5⟩ := W5.tp
        walk_at "go"
        refine bT (fun hc => ?_) (fun hc => ?_)
        · have eb : bs = [] := by
            cases bs with
            | nil => rfl
            | cons m ms => simp [dMarks, PyData.eqv, PyData.eqvAll] at hc
          walk_at "go"
          refine s_dpop2 (w := x) (z := .non) hT5 (fun R r => s_var rfl r) (fun R r => r) fun v H6 hH6 hT6 => ?_
          walk_at "go"
          have hN' := next_tops (B2 := delm B1 x) hB1 hx hi2 (hTN.1 (by rw [eb]; rfl)) (fun y hy => by unfold delm; rw [if_neg hy])
          rcases hH6 with rfl | ⟨o, rfl⟩
          · exact ⟨_, _, _, _, delm B1 x, rfl, ⟨W5.ob, W5.ma, ⟨_, _, hT6, Nat.le_trans (remK_len _ _) (by omega), hV5.del⟩, by have := W5.kl; omega, W5.ne, W5.ok⟩, f5, hN'⟩
          · refine ⟨_, _, _, _, delm B1 x, rfl, W5.tset hT6 hV5.del (Nat.le_trans (remK_len _ _) (by omega)) (by omega), f5.trans (fun a u h1 h2 h3 e => by rw [upd_ne h3]; exact e), hN'⟩
        · have eb : bs ≠ [] := by
            rintro rfl
            simp [dMarks, PyData.eqv, PyData.eqvAll] at hc
          walk_at "go"
          refine ⟨D, bs, n, rfl, hM5, by omega, fun e => absurd e eb, fun g H6 s6 hg hge => ?_⟩
          have W6 := W5.same s6
          have hp6 := s6 _ _ hp5
          walk_at "go"
          refine ⟨sz (by simp), fun t ht => ?_⟩
          have s7 : Same H6 (upd H6 t (.tup [.int g, .int n])) := Same.new (Same.refl _) ht
          have W7 := W6.same s7
          have hp7 := s7 _ _ hp6
          have ht7 : upd H6 t (.tup [.int g, .int n]) t = some (.tup [.int g, .int n]) := upd_same
          have f7 := f5.trans (Off.of (s6.trans s7))
          generalize upd H6 t (.tup [.int g, .int n]) = H7 at s7 W7 hp7 ht7 f7 ⊢
          obtain ⟨val7, ks7, hT7, hk7, hV7⟩ := W7.tp
          walk_at "go"
          refine s_dput hT7 (by omega) fun o hT8 => ?_
          have hg' : ∃ m ∈ bs.map (·.2), g = wn m n := by
            obtain ⟨b, hb, e⟩ := hg
            exact ⟨b.2, List.mem_map.mpr ⟨b, hb, rfl⟩, e⟩
          have hN' := next_tops (B2 := setm B1 x (g, n)) hB1 hx hi2 (hTN.2 g hg' (fun m hm => by
            obtain ⟨b, hb, rfl⟩ := List.mem_map.mp hm
            exact hge b hb)) (fun y hy => by unfold setm; rw [if_neg hy])
          exact ⟨_, _, _, _, setm B1 x (g, n), rfl, W7.tset hT8 (hV7.set ht7) (Nat.le_trans (addK_len _ _) (by omega)) (by omega), f7.trans (fun a u h1 h2 h3 e => by rw [upd_ne h3]; exact e), hN'⟩
    · rintro σ' H1 ⟨v2, v3, v4, v5, B1, rfl, W1, f1, hB1⟩
      walk_at "go"
      rw [show ((w.length : Int) - -1).toNat = w.length + 1 by omega] at W1 hB1
      refine k B1 H1 ⟨W1.mono (by omega), fun y => hB1 y fun _ => by rw [TL.len_tl]; omega⟩ f1
theorem ok_is_part (T : Top K mg C_Wood X_Absent X_NoWord X_Twice)  : Fn P w K mg base 1 "is_part" ["text"] spPart := by
  refine T.d_is_part.ok sc_is_part bi_is_part (fun vs H Q E h => ?_) (fun f cdv A outer s H vs Q E hr h => ?_)
  · obtain ⟨s, rfl, hs, k⟩ := h; rfl
  · obtain ⟨s, rfl, hs, k⟩ := h
    have cl_Wood := T.cl_Wood
    have na_Wood_marks := T.na_Wood_marks
    have na_Wood_tops := T.na_Wood_tops
    have na_Wood_now := T.na_Wood_now
    refine ⟨_, (pss_cons (ps_if (PW.pt (pw_or (pt_cmpR op_lt (pe_callB call_len_str rfl T.n_len (by decide +kernel) (pa_cons (pv 0) pa_nil)) (pe_int) (nomark _)) (pw_or1 (pt_cmpR op_gt (pe_callB call_len_str rfl T.n_len (by decide +kernel) (pa_cons (pv 0) pa_nil)) (pe_int) (nomark _))))) (pss_one (ps_ret (pe_bl))) pss_nil)
    (pss_cons (ps_for PassesOwn.never rfl (pi_str (pv 0)) (pg_name (i := 1) sc_is_part.nd rfl (Or.inl rfl)) (pss_one (ps_if (pt_cmpR op_notIn_sign (pv 1) (pe_gstr T.c_LETTERS) rfl) (pss_one (ps_ret (pe_bl))) pss_nil)))
    (pss_one (ps_ret (pe_bl))))), ?_⟩
    walk_at "go"
    refine ⟨s, rfl, hs, ?_⟩
    walk_at "go"
    refine dT (fun hc => ?_) (fun hc => ?_)
    · walk_at "go"
      rw [show partL (TL.tl s) = false by
        unfold partL
        rw [TL.len_tl] at hc
        have : ¬ 1 ≤ (TL.tl s).length := by omega
        rw [decide_eq_false this]; rfl] at k
      exact k
    walk_at "go"
    refine ⟨s, rfl, hs, ?_⟩
    walk_at "go"
    refine dT (fun hd => ?_) (fun hd => ?_)
    · walk_at "go"
      rw [show partL (TL.tl s) = false by
        unfold partL
        rw [TL.len_tl] at hd
        have : ¬ (TL.tl s).length ≤ 12 := by omega
        rw [decide_eq_false this, Bool.and_false]; rfl] at k
      exact k
    walk_at "go"
    refine for_it walk_str (fun i σ' H' => ∃ v, σ' = [some (.str s), v] ∧ H' = H ∧ ((TL.tl s).take i).all low = true) ⟨none, rfl, rfl, rfl⟩ (fun _ _ _ _ _ => trivial) ?_ ?_
    · rintro i x σ' H' H2 hi ⟨v, rfl, rfl, ha⟩ ⟨rfl, c, hcc, rfl⟩
      walk_at "go"
      refine ⟨c, _, rfl, rfl, ?_⟩
      walk_at "go"
      rw [mem_letters]
      refine bT (fun he => ?_) (fun he => ?_)
      · walk_at "go"
        rw [show partL (TL.tl s) = false by
          unfold partL
          have : (TL.tl s).all low = false := by
            rw [List.all_eq_false]
            exact ⟨c, sign_mem hcc, by simpa using he⟩
          rw [this, Bool.and_false]] at k
        exact k
      · walk_at "go"
        refine ⟨_, rfl, rfl, ?_⟩
        rw [sign_take hcc, List.all_append, ha]
        simpa using he
    · rintro σ' H' ⟨v, rfl, rfl, ha⟩
      walk_at "go"
      rw [show partL (TL.tl s) = true by
        unfold partL
        rw [show s.cps.size = (TL.tl s).length by simp [TL.tl], List.take_of_length_le (Nat.le_refl _)] at ha
        rw [TL.len_tl] at hc hd
        rw [ha, decide_eq_true (show 1 ≤ (TL.tl s).length by omega), decide_eq_true (show (TL.tl s).length ≤ 12 by omega)]; rfl] at k
      exact k
theorem ok_is_word (T : Top K mg C_Wood X_Absent X_NoWord X_Twice) (F_is_part : Fn P w K mg base 1 "is_part" ["text"] spPart) : Fn P w K mg base 2 "is_word" ["thing"] (spIsWord K) := by
  refine T.d_is_word.ok sc_is_word bi_is_word (fun vs H Q E h => ?_) (fun f cdv A outer s H vs Q E hr h => ?_)
  · obtain ⟨x, rfl, h⟩ := h; rfl
  · obtain ⟨x, rfl, h⟩ := h
    have cl_Wood := T.cl_Wood
    have na_Wood_marks := T.na_Wood_marks
    have na_Wood_tops := T.na_Wood_tops
    have na_Wood_now := T.na_Wood_now
    refine ⟨_, (pss_cons (ps_if (PW.pt (pw_or (pt_not (pt_val (pe_callB call_isi rfl T.n_isinstance (by decide +kernel) (pa_cons (pv 0) (pa_cons (pe_ty "str" rfl T.n_str (by decide +kernel)) pa_nil))))) (pw_or1 (pt_cmpR op_gt (pe_callB call_len_str rfl T.n_len (by decide +kernel) (pa_cons (pv 0) pa_nil)) (pe_int) (nomark _))))) (pss_one (ps_ret (pe_bl))) pss_nil)
    (pss_cons (ps_set (i := 1) sc_is_word.nd rfl (Or.inl rfl) (pe_split (pv 0) (pe_str)))
    (pss_one (ps_ret ((pe_and (pe_cmpR op_le (pe_callB call_len_seq rfl T.n_len (by decide +kernel) (pa_cons (pv 1) pa_nil)) (pe_int) (nomark _)) (pe_one (pe_cmpR (op_eqD hr.units) (pe_lc (own := [("part", 2)]) (by rfl) sc_is_word.nd (pi_list (pv 1)) (blkOk_by (own := [("part", 2)]) (N := ["thing", "parts", "part"]) (sc := defScope s_is_word) (by decide +kernel)) (fun _ _ _ _ _ => (pg_name (i := 2) sc_is_word.nd rfl (Or.inl rfl))) (fun _ _ _ _ _ => (pts_one (pt_not (pt_val (pe_fn F_is_part (hr.mono (by decide)) passL (pa_cons (pv 2) pa_nil)))))) (fun _ _ _ _ _ => (pv 2))) (pe_lst pa_nil) (nomark _))))))))), ?_⟩
    rcases h with ⟨s, rfl, hs, ho, k⟩ | ⟨t, ht, hk, k⟩
    · have hz : s.length ≤ sizeLine := sz16 (by omega)
      walk_at "go"
      refine ⟨s, rfl, hz, ?_⟩
      walk_at "go"
      refine dT (fun hc => ?_) (fun hc => ?_)
      · walk_at "go"
        rw [show isW s = false by
          unfold isW wordL
          rw [TL.len_tl] at hc
          have : ¬ (TL.tl s).length ≤ 24 := by omega
          rw [decide_eq_false this]; rfl] at k
        exact k _ (Same.refl _)
      walk_at "go"
      refine ⟨s, _, rfl, rfl, by decide +kernel, by rw [sizeLine_eq]; omega, fun p hp => ?_⟩
      walk_at "go"
      generalize hys : Txt.split s (Str.ofString " ") = ys
      have e := split_blank s
      rw [hys] at e
      have hL : (upd H p (.lst (ys.map V.str))) p = some (.lst (ys.map V.str)) := upd_same
      have sq : Same H (upd H p (.lst (ys.map V.str))) := Same.new (Same.refl H) hp
      generalize (upd H p (.lst (ys.map V.str))) = G at hL sq ⊢
      have hw : isW s = (decide (ys.length ≤ 4) && (ys.all fun y => partL (TL.tl y))) := by
        unfold isW wordL
        rw [TL.len_tl] at hc
        rw [← e, List.length_map, List.all_map, decide_eq_true (show (TL.tl s).length ≤ 24 by omega), Bool.true_and]
        rfl
      have hmem : ∀ y ∈ ys, y.length ≤ sizeLine ∧ PyData.strOk y = true := fun y hy => by
        obtain ⟨a, b⟩ := split_mem (s := s) (by rw [hys]; exact hy)
        refine ⟨?_, strOk_iff.mpr fun c hc => strOk_iff.mp ho c (b c hc)⟩
        rw [← TL.len_tl, ← TL.len_tl] at a
        omega
      rw [List.length_map]
      refine dT (fun hd => ?_) (fun hd => ?_)
      · walk_at "go"
        refine ⟨⟨_, SqL.of hL⟩, fun D hD => ?_⟩
        have yl : ys.length ≤ 100000 := by omega
        refine lc_list (xs := ys.map V.str) (PvV (resF ys (fun y => !partL (TL.tl y)) V.str) _ D) (lc_begin hD resF_0) (fun i H' _ p => p.1.seq (SqL.of hL)) ?_ ?_
        · intro i x H' hi pv
          obtain ⟨y, hy, rfl⟩ := map_get hi
          have hm := hmem y (List.mem_of_getElem? hy)
          walk_at "go"
          refine ⟨rfl, ?_⟩
          walk_at "go"
          refine ⟨y, rfl, hm.1, ?_⟩
          walk_at "go"
          refine bT (fun hb => ?_) (fun hb => ?_)
          · walk_at "go"
            exact lc_put pv hD (Same.refl _) (resF_y hy hb) (resF_len yl)
          · exact lc_skip pv (Same.refl _) (resF_n hy hb)
        · intro H' pv
          rw [List.length_map] at pv
          have hF : H' D = some (.lst ((ys.filter (fun y => !partL (TL.tl y))).map V.str)) := by rw [pv.2, resF_all rfl]
          walk_at "go"
          refine ⟨sz (by simp), fun em nem => ?_⟩
          refine s_eqD (d := .list ((ys.filter (fun y => !partL (TL.tl y))).map .str)) (.lst (SqL.of (by rw [upd_ne (ne_of_none hF nem)]; exact hF)) (DpAll.of_map fun y _ => .str y)) (.lst (SqL.of upd_same) .nil)
            (shaped_of (ok_strs fun y hy => (hmem y (List.mem_filter.mp hy).1).2)) rfl ?_
          rw [eqv_strs_nil]
          have : (ys.filter (fun y => !partL (TL.tl y))).isEmpty = isW s := by
            rw [hw, decide_eq_true (show ys.length ≤ 4 by omega), Bool.true_and, Bool.eq_iff_iff, List.isEmpty_iff, List.filter_eq_nil_iff, List.all_eq_true]
            simp
          rw [this]
          exact k _ (Same.new (sq.trans pv.1) nem)
      · walk_at "go"
        rw [hw, decide_eq_false (show ¬ ys.length ≤ 4 by omega), Bool.false_and] at k
        exact k _ sq
    · walk_at "go"
      refine ⟨x, .ty "str", .type t, .type "str", false, rfl, .ty _, ht, kit_ty hk, ?_⟩
      walk_at "go"
      exact k
theorem ok_Wood_put (T : Top K mg C_Wood X_Absent X_NoWord X_Twice) (F_Wood_renew_tops : FnM P w K mg base 3 C_Wood "renew_tops" ["self", "word"] [] (spRenew C_Wood)) (F_is_word : Fn P w K mg base 2 "is_word" ["thing"] (spIsWord K)) : FnM P w K mg base 4 C_Wood "put" ["self", "word", "count"] [] (spPut K C_Wood X_NoWord X_Twice) := by
  refine T.me_Wood_put.okX sc_Wood_put (fun vs H Q E h => ?_) (fun f cdv A outer s H vs Q E hr h => ?_)
  · obtain ⟨p, dm, dt, A, ks, B, n, N, x, c, rfl, W, hN, hc, hx, kN, kT, kQ⟩ := h; rfl
  · obtain ⟨p, dm, dt, A, ks, B, n, N, x, c, rfl, W, hN, hc, hx, kN, kT, kQ⟩ := h
    have cl_Wood := T.cl_Wood
    have na_Wood_marks := T.na_Wood_marks
    have na_Wood_tops := T.na_Wood_tops
    have na_Wood_now := T.na_Wood_now
    refine ⟨_, (pss_cons (ps_if (pt_not (pt_val (pe_fn F_is_word (hr.mono (by decide)) (passE (takes_of rfl rfl rfl rfl)) (pa_cons (pv 1) pa_nil)))) (pss_one (ps_rs T.x_NoWord rfl (takes_of rfl rfl rfl rfl))) pss_nil)
    (pss_cons (ps_if (pt_cmp (pc_din (hu_of hr) (pv 1) (pe_fld (pv 0) rfl))) (pss_one (ps_rs T.x_Twice rfl (takes_of rfl rfl rfl rfl))) pss_nil)
    (pss_cons (ps_dput (hu_of hr) (pe_fld (pv 0) rfl) (pv 1) (pe_tup (pa_cons (pv 2) (pa_cons (pe_fld (pv 0) rfl) pa_nil))) rfl)
    (pss_one (ps_expr (pe_mth F_Wood_renew_tops (hr.mono (by decide)) (passE (takes_of rfl rfl rfl rfl)) (pv 0) (pa_cons (pv 1) pa_nil))))))), ?_⟩
    walk_at "go"
    rcases hx with ⟨s, rfl, h1, h2⟩ | ⟨t, h1, h2⟩
    · refine ⟨_, rfl, .inl ⟨s, rfl, h1, h2, fun H1 s1 => ?_⟩⟩
      walk_at "go"
      cases hw : isW s with
      | false =>
        walk_at "go"
        exact kN (fun w e => by cases e; exact hw) H1 s1
      | true =>
        have W1 := W.same s1
        obtain ⟨dx, hp⟩ := W1.ob
        obtain ⟨val, hT, hM⟩ := W1.ma
        walk_at "go"
        rw [hM.none_iff]
        cases hA : A s with
        | some m =>
          rw [show (some m : Option (Int × Int)).isSome = true from rfl]
          walk_at "go"
          exact kT s rfl hw (by rw [hA]; simp) H1 s1
        | none =>
          rw [show (none : Option (Int × Int)).isSome = false from rfl]
          walk_at "go"
          refine ⟨sz (by simp), fun t ht => ?_⟩
          have s2 : Same H1 (upd H1 t (.tup [.int c, .int n])) := Same.new (Same.refl _) ht
          have W2 := W1.same s2
          have hp2 := s2 _ _ hp
          have ht2 : upd H1 t (.tup [.int c, .int n]) t = some (.tup [.int c, .int n]) := upd_same
          generalize upd H1 t (.tup [.int c, .int n]) = H2 at s2 W2 hp2 ht2 ⊢
          obtain ⟨val2, hT2, hM2⟩ := W2.ma
          walk_at "go"
          have hkl := W2.kl
          refine s_dput hT2 (by omega) fun o hT3 => ?_
          have W3 := W2.toWoodP.mset (M := N + 1) hT3 (hM2.set (m := (c, n)) ht2) (Nat.le_trans (addK_len _ _) (by omega)) (by omega) (W2.ok.set hw hc (Int.le_refl _))
          have hp3 : upd H2 dm o p = some (.ins C_Wood dx (woodF dm dt n)) := by rw [upd_ne W2.pm]; exact hp2
          walk_at "go"
          refine ⟨p, dm, dt, _, _, B, n, N + 1, s, rfl, W3, by omega, hw, tops_put W.top, fun B' H4 W4 f4 => ?_⟩
          walk_at "go"
          exact kQ s rfl hw hA B' H4 (W4.mono (by omega)) (((Off.of (s1.trans s2)).trans (fun a u g1 g2 g3 e => by rw [upd_ne g2]; exact e)).trans f4)
    · refine ⟨x, rfl, .inr ⟨t, h1, h2, ?_⟩⟩
      walk_at "go"
      exact kN (fun w e => by
        subst e
        cases h1 with
        | base h => cases h; simp [kitB] at h2) H (Same.refl _)
theorem ok_law_put (T : Top K mg C_Wood X_Absent X_NoWord X_Twice) (F_Wood_put : FnM P w K mg base 4 C_Wood "put" ["self", "word", "count"] [] (spPut K C_Wood X_NoWord X_Twice)) : Fn P w K mg base 5 "_law_put" ["_law_wood", "_law_due", "_law_word_here", "_law_count_here"] (spLPut C_Wood) := by
  refine T.d_law_put.ok sc_law_put bi_law_put (fun vs H Q E h => ?_) (fun f cdv A outer s H vs Q E hr h => ?_)
  · obtain ⟨x, n, b, N, A, ks, ks2, B, w, c, rfl, D, hN, hw, hA, h0, hb, k⟩ := h; rfl
  · obtain ⟨x, n, b, N, A, ks, ks2, B, w, c, rfl, D, hN, hw, hA, h0, hb, k⟩ := h
    have cl_Wood := T.cl_Wood
    have na_Wood_marks := T.na_Wood_marks
    have na_Wood_tops := T.na_Wood_tops
    have na_Wood_now := T.na_Wood_now
    refine ⟨_, (pss_cons (ps_dput (hu_of hr) (pe_ix ix_list (pv 1) (pe_int) (fun _ _ => rfl)) (pv 2) (pv 3) rfl)
    (pss_one (ps_ret (pe_cmpR op_isN (pe_mth F_Wood_put (hr.mono (by decide)) passL (pv 0) (pa_cons (pv 2) (pa_cons (pv 3) pa_nil))) (pe_non) (nomark _))))), ?_⟩
    obtain ⟨dx, hp⟩ := D.w.ob
    have hl := D.l
    have hkl := D.kl
    have hpu := D.pu
    walk_at "go"
    refine s_dput D.t (by omega) fun o hT2 => ?_
    have W2 : WoodAt C_Wood (upd H x.d o) x.p x.dm x.dt A ks B n N := D.wood
    have hl2 : upd H x.d o x.u = some (.lst [.int n, .ref x.d]) := by rw [upd_ne hpu.2.2.2.1]; exact hl
    have hp2 : upd H x.d o x.p = some (.ins C_Wood dx (woodF x.dm x.dt n)) := by rw [upd_ne hpu.2.2.2.2.symm]; exact hp
    have f2 : Off5 x H (upd H x.d o) := fun a u na e => by rw [upd_ne (fun z => na (.inr (.inr (.inr (.inr z)))))]; exact e
    have hwt := Tx.word hw
    generalize upd H x.d o = H2 at hT2 W2 hl2 hp2 f2 ⊢
    walk_at "go"
    refine ⟨x.p, x.dm, x.dt, A, ks, B, n, N, .str w, c, rfl, W2, by omega, h0, .inl ⟨w, rfl, Nat.le_trans hwt.len (by decide), hwt.ok⟩, fun h => absurd (h w rfl) (by rw [hw]; decide), fun w' e _ h => (by cases e; exact absurd hA h), fun w' e _ _ B' H3 W3 f3 => ?_⟩
    cases e
    walk_at "go"
    refine ⟨rfl, ?_⟩
    rw [show decide (V.non = V.non) = true from rfl]
    have hl3 := f3 _ _ hpu.1 hpu.2.1 hpu.2.2.1 hl2
    obtain ⟨kvs, hd2⟩ := hT2.there
    have hd3 := f3 _ _ hpu.2.2.2.2 D.n1 D.n2 hd2
    refine k _ (addK ks2 w) B' H3 ⟨W3, hl3, hT2.keep (hd3.trans hd2.symm) |> fun z => cast ?_ z, ?_, D.n1, D.n2, Nat.le_trans (addK_len _ _) (by omega)⟩ (f2.trans (Off5.off f3))
    · congr 1
      funext z
      unfold setv setm
      by_cases e : z = w
      · rw [if_pos e, if_pos e]
        show _ = some (V.int (wn (c, n) n))
        rw [show wn (c, n) n = c from worth_at_begin (Int.le_refl _)]
      · rw [if_neg e, if_neg e]
    · intro z m e
      unfold setm at e
      by_cases ez : z = w
      · rw [if_pos ez] at e; cases e
        rw [show wn (c, n) n = c from worth_at_begin (Int.le_refl _)]; exact hb
      · rw [if_neg ez] at e; exact D.bd z m e
theorem ok_used_mark (T : Top K mg C_Wood X_Absent X_NoWord X_Twice) (F_worth_at : Fn P w K mg base 1 "worth_at" ["mark", "era"] (spWorth K)) : Fn P w K mg base 2 "used_mark" ["mark", "era", "times"] (spUsed K) := by
  refine T.d_used_mark.ok sc_used_mark bi_used_mark (fun vs H Q E h => ?_) (fun f cdv A outer s H vs Q E hr h => ?_)
  · obtain ⟨t, c, e, n, m, rfl, ht, h0, k⟩ := h; rfl
  · obtain ⟨t, c, e, n, m, rfl, ht, h0, k⟩ := h
    have cl_Wood := T.cl_Wood
    have na_Wood_marks := T.na_Wood_marks
    have na_Wood_tops := T.na_Wood_tops
    have na_Wood_now := T.na_Wood_now
    refine ⟨_, (pss_one (ps_ret (pe_tup (pa_cons (pe_op op_add (pe_fn F_worth_at (hr.mono (by decide)) passL (pa_cons (pv 0) (pa_cons (pv 1) pa_nil))) (pv 2)) (pa_cons (pv 1) pa_nil))))), ?_⟩
    walk_at "go"
    refine ⟨t, c, e, n, rfl, ht, h0, ?_⟩
    walk_at "go"
    exact ⟨sz (by simp), k⟩
theorem ok_Wood_use (T : Top K mg C_Wood X_Absent X_NoWord X_Twice) (F_Wood_ask_there : FnM P w K mg base 1 C_Wood "ask_there" ["self", "word"] [] (spAsk C_Wood X_Absent)) (F_Wood_renew_tops : FnM P w K mg base 3 C_Wood "renew_tops" ["self", "word"] [] (spRenew C_Wood)) (F_used_mark : Fn P w K mg base 2 "used_mark" ["mark", "era", "times"] (spUsed K)) : FnM P w K mg base 4 C_Wood "use" ["self", "word", "times"] [V.int 1] (spUse C_Wood X_Absent) := by
  refine T.me_Wood_use.okX sc_Wood_use (fun vs H Q E h => ?_) (fun f cdv A outer s H vs Q E hr h => ?_)
  · obtain ⟨p, dm, dt, A, ks, B, n, N, w, t, rfl, W, hN, ht, kE, kQ⟩ := h; rfl
  · obtain ⟨p, dm, dt, A, ks, B, n, N, w, t, rfl, W, hN, ht, kE, kQ⟩ := h
    have cl_Wood := T.cl_Wood
    have na_Wood_marks := T.na_Wood_marks
    have na_Wood_tops := T.na_Wood_tops
    have na_Wood_now := T.na_Wood_now
    refine ⟨_, (pss_cons (ps_expr (pe_mth F_Wood_ask_there (hr.mono (by decide)) (passE (takes_of rfl rfl rfl rfl)) (pv 0) (pa_cons (pv 1) pa_nil)))
    (pss_cons (ps_dput (hu_of hr) (pe_fld (pv 0) rfl) (pv 1) (pe_fn F_used_mark (hr.mono (by decide)) (passE (takes_of rfl rfl rfl rfl)) (pa_cons (pe_dget (hu_of hr) (pe_fld (pv 0) rfl) (pv 1) (fun _ _ => rfl)) (pa_cons (pe_fld (pv 0) rfl) (pa_cons (pv 2) pa_nil)))) rfl)
    (pss_one (ps_expr (pe_mth F_Wood_renew_tops (hr.mono (by decide)) (passE (takes_of rfl rfl rfl rfl)) (pv 0) (pa_cons (pv 1) pa_nil)))))), ?_⟩
    obtain ⟨dx, hp⟩ := W.ob
    obtain ⟨val, hT, hM⟩ := W.ma
    walk_at "go"
    refine ⟨p, dm, dt, A, ks, B, n, N, w, rfl, W, fun h => kE h, fun h => ?_⟩
    cases hA : A w with
    | none => exact absurd hA h
    | some m =>
      obtain ⟨a, e1, e2⟩ := hM.some hA
      have hok := W.ok _ _ hA
      walk_at "go"
      refine s_dget hT e1 ?_
      walk_at "go"
      refine ⟨a, m.1, m.2, n, t, rfl, SqT.of e2, hok.2.1, fun q hq => ?_⟩
      have s2 : Same H (upd H q (.tup [.int (worth m.1 m.2 n + t), .int n])) := Same.new (Same.refl _) hq
      have W2 := W.same s2
      have hp2 := s2 _ _ hp
      have ht2 : upd H q (.tup [.int (worth m.1 m.2 n + t), .int n]) q = some (.tup [.int (worth m.1 m.2 n + t), .int n]) := upd_same
      generalize upd H q (.tup [.int (worth m.1 m.2 n + t), .int n]) = H2 at s2 W2 hp2 ht2 ⊢
      obtain ⟨val2, hT2, hM2⟩ := W2.ma
      walk_at "go"
      have hkl := W2.kl
      refine s_dput hT2 (by omega) fun o hT3 => ?_
      have hin : w ∈ ks := W.toWoodP.key.mpr (by rw [hA]; rfl)
      rw [addK_in hin] at hT3
      have W3 := W2.toWoodP.mset (M := N) hT3 (hM2.set (m := (wn m n + t, n)) ht2) hkl (Nat.le_refl _) (W2.ok.set hok.1 (by
        have := worth_nonneg (e := m.2) (n := n) hok.2.1
        show 0 ≤ wn m n + t
        unfold wn; omega) (Int.le_refl _))
      have hp3 : upd H2 dm o p = some (.ins C_Wood dx (woodF dm dt n)) := by rw [upd_ne W2.pm]; exact hp2
      walk_at "go"
      refine ⟨p, dm, dt, _, _, B, n, N, w, rfl, W3, by omega, hok.1, tops_put W.top, fun B' H4 W4 f4 => ?_⟩
      walk_at "go"
      exact kQ m hA B' H4 (W4.mono (by omega)) (((Off.of s2).trans (fun a u g1 g2 g3 e => by rw [upd_ne g2]; exact e)).trans f4)
theorem ok_law_use (T : Top K mg C_Wood X_Absent X_NoWord X_Twice) (F_Wood_use : FnM P w K mg base 4 C_Wood "use" ["self", "word", "times"] [V.int 1] (spUse C_Wood X_Absent)) (F_law_times : Fn P w K mg base 2 "_law_times" ["_law_box_here"] spTimes) : Fn P w K mg base 5 "_law_use" ["_law_box_here", "_law_wood", "_law_due", "_law_word_here"] (spLUse C_Wood) := by
  refine T.d_law_use.ok sc_law_use bi_law_use (fun vs H Q E h => ?_) (fun f cdv A outer s H vs Q E hr h => ?_)
  · obtain ⟨x, n, b, N, A, ks, ks2, B, w, e, m, rfl, he, D, hN, hA, k⟩ := h; rfl
  · obtain ⟨x, n, b, N, A, ks, ks2, B, w, e, m, rfl, he, D, hN, hA, k⟩ := h
    have cl_Wood := T.cl_Wood
    have na_Wood_marks := T.na_Wood_marks
    have na_Wood_tops := T.na_Wood_tops
    have na_Wood_now := T.na_Wood_now
    refine ⟨_, (pss_cons (ps_set (i := 4) sc_law_use.nd rfl (Or.inl rfl) (pe_fn F_law_times (hr.mono (by decide)) passL (pa_cons (pv 0) pa_nil)))
    (pss_cons (ps_dput (hu_of hr) (pe_ix ix_list (pv 2) (pe_int) (fun _ _ => rfl)) (pv 3) (pe_op op_add (pe_dget (hu_of hr) (pe_ix ix_list (pv 2) (pe_int) (fun _ _ => rfl)) (pv 3) (fun _ _ => rfl)) (pv 4)) rfl)
    (pss_cons (ps_if (pt_cmpR op_eq (pv 4) (pe_int) (nomark _)) (pss_one (ps_ret (pe_cmpR op_isN (pe_mthD F_Wood_use (hr.mono (by decide)) passL (pv 1) (pa_cons (pv 3) pa_nil)) (pe_non) (nomark _)))) pss_nil)
    (pss_one (ps_ret (pe_cmpR op_isN (pe_mth F_Wood_use (hr.mono (by decide)) passL (pv 1) (pa_cons (pv 3) (pa_cons (pv 4) pa_nil))) (pe_non) (nomark _))))))), ?_⟩
    walk_at "go"
    refine ⟨e, rfl, he, fun r H1 r0 r1 b1 s1 => ?_⟩
    have D1 := D.but s1 he
    have hne : ¬ x.own e := D1.nb b1
    have f1 : ∀ a o, ¬ x.own a → a ≠ e → H a = some o → H1 a = some o := fun a o _ na z => s1 a o na z
    obtain ⟨dx, hp⟩ := D1.w.ob
    have hl := D1.l
    have hkl := D1.kl
    have hpu := D1.pu
    have hw := (D1.w.ok _ _ hA).1
    have hin : w ∈ ks2 := D1.t.mem.mpr (by rw [hA]; rfl)
    walk_at "go"
    refine s_dget (v := .int (wn m n)) D1.t (by rw [hA]; rfl) ?_
    walk_at "go"
    refine s_dput D1.t (by omega) fun o hT2 => ?_
    rw [addK_in hin] at hT2
    have W2 : WoodAt C_Wood (upd H1 x.d o) x.p x.dm x.dt A ks B n N := D1.wood
    have hl2 : upd H1 x.d o x.u = some (.lst [.int n, .ref x.d]) := by rw [upd_ne hpu.2.2.2.1]; exact hl
    have hp2 : upd H1 x.d o x.p = some (.ins C_Wood dx (woodF x.dm x.dt n)) := by rw [upd_ne hpu.2.2.2.2.symm]; exact hp
    have f2 : Off5 x H1 (upd H1 x.d o) := fun a u na e => by rw [upd_ne (fun z => na (.inr (.inr (.inr (.inr z)))))]; exact e
    have b2 : BoxAt (upd H1 x.d o) e := by
      obtain ⟨_, _, _, _, z⟩ := b1
      exact ⟨_, _, _, _, f2 _ _ hne z⟩
    generalize upd H1 x.d o = H2 at hT2 W2 hl2 hp2 f2 b2 ⊢
    have fin : ∀ (B' : MarkM) (H3 : Hp), WoodAt C_Wood H3 x.p x.dm x.dt (setm A w (wn m n + r, n)) ks B' n (N + 27) → Off x.p x.dm x.dt H2 H3 → Q (.bl true) H3 := fun B' H3 W3 f3 => by
      have hl3 := f3 _ _ hpu.1 hpu.2.1 hpu.2.2.1 hl2
      obtain ⟨kvs, hd2⟩ := hT2.there
      have hd3 := f3 _ _ hpu.2.2.2.2 D1.n1 D1.n2 hd2
      have b3 : BoxAt H3 e := by
        obtain ⟨_, _, _, _, z⟩ := b2
        exact ⟨_, _, _, _, Off5.off f3 _ _ hne z⟩
      refine k H3 ⟨_, _, ks2, B', ⟨W3, hl3, hT2.keep (hd3.trans hd2.symm) |> fun z => cast ?_ z, ?_, D1.n1, D1.n2, by omega⟩⟩ b3 fun a o na ne z => Off5.off f3 a o na (f2 a o na (f1 a o na ne z))
      · congr 1
        funext z
        unfold setv setm
        by_cases ez : z = w
        · rw [if_pos ez, if_pos ez]
          show _ = some (V.int (wn (wn m n + r, n) n))
          rw [show wn (wn m n + r, n) n = wn m n + r from worth_at_begin (Int.le_refl _)]
        · rw [if_neg ez, if_neg ez]
      · intro z a ea
        unfold setm at ea
        by_cases ez : z = w
        · rw [if_pos ez] at ea; cases ea
          rw [show wn (wn m n + r, n) n = wn m n + r from worth_at_begin (Int.le_refl _)]
          have := D1.bd w m hA
          omega
        · rw [if_neg ez] at ea
          have := D1.bd z a ea
          omega
    walk_at "go"
    refine bT (fun hr => ?_) (fun hr => ?_)
    · walk_at "go"
      have er : r = 1 := by simpa using hr
      refine ⟨x.p, x.dm, x.dt, A, ks, B, n, N, w, 1, rfl, W2, by omega, by decide, fun h => absurd (hA.symm.trans h) (by simp), fun m' e' B' H3 W3 f3 => ?_⟩
      rw [hA] at e'; cases e'
      walk_at "go"
      refine ⟨rfl, ?_⟩
      rw [show decide (V.non = V.non) = true from rfl]
      exact fin B' H3 (by rw [er]; exact W3) f3
    · walk_at "go"
      refine ⟨x.p, x.dm, x.dt, A, ks, B, n, N, w, r, rfl, W2, by omega, by omega, fun h => absurd (hA.symm.trans h) (by simp), fun m' e' B' H3 W3 f3 => ?_⟩
      rw [hA] at e'; cases e'
      walk_at "go"
      refine ⟨rfl, ?_⟩
      rw [show decide (V.non = V.non) = true from rfl]
      exact fin B' H3 W3 f3
theorem ok_Wood_strike (T : Top K mg C_Wood X_Absent X_NoWord X_Twice) (F_Wood_ask_there : FnM P w K mg base 1 C_Wood "ask_there" ["self", "word"] [] (spAsk C_Wood X_Absent)) (F_Wood_renew_tops : FnM P w K mg base 3 C_Wood "renew_tops" ["self", "word"] [] (spRenew C_Wood)) : FnM P w K mg base 4 C_Wood "strike" ["self", "word"] [] (spStrike C_Wood X_Absent) := by
  refine T.me_Wood_strike.okX sc_Wood_strike (fun vs H Q E h => ?_) (fun f cdv A outer s H vs Q E hr h => ?_)
  · obtain ⟨p, dm, dt, A, ks, B, n, N, w, rfl, W, hN, kE, kQ⟩ := h; rfl
  · obtain ⟨p, dm, dt, A, ks, B, n, N, w, rfl, W, hN, kE, kQ⟩ := h
    have cl_Wood := T.cl_Wood
    have na_Wood_marks := T.na_Wood_marks
    have na_Wood_tops := T.na_Wood_tops
    have na_Wood_now := T.na_Wood_now
    refine ⟨_, (pss_cons (ps_expr (pe_mth F_Wood_ask_there (hr.mono (by decide)) (passE (takes_of rfl rfl rfl rfl)) (pv 0) (pa_cons (pv 1) pa_nil)))
    (pss_cons (ps_expr (pe_dpop1 (pe_fld (pv 0) rfl) (pv 1) ⟨rfl, rfl, rfl, rfl⟩))
    (pss_one (ps_expr (pe_mth F_Wood_renew_tops (hr.mono (by decide)) (passE (takes_of rfl rfl rfl rfl)) (pv 0) (pa_cons (pv 1) pa_nil)))))), ?_⟩
    obtain ⟨dx, hp⟩ := W.ob
    obtain ⟨val, hT, hM⟩ := W.ma
    walk_at "go"
    refine ⟨p, dm, dt, A, ks, B, n, N, w, rfl, W, fun h => kE h, fun h => ?_⟩
    cases hA : A w with
    | none => exact absurd hA h
    | some m =>
      obtain ⟨a, e1, e2⟩ := hM.some hA
      have hok := W.ok _ _ hA
      walk_at "go"
      refine s_dpop1 (w := w) hT e1 (fun R r => s_var rfl r) fun o hT3 => ?_
      have hkl := W.kl
      have W3 := W.toWoodP.mset (M := N) hT3 hM.del (Nat.le_trans (remK_len _ _) hkl) (Nat.le_refl _) W.ok.del
      have hp3 : upd H dm o p = some (.ins C_Wood dx (woodF dm dt n)) := by rw [upd_ne W.pm]; exact hp
      walk_at "go"
      refine ⟨p, dm, dt, _, _, B, n, N, w, rfl, W3, by omega, hok.1, tops_del W.top, fun B' H4 W4 f4 => ?_⟩
      walk_at "go"
      exact kQ m hA B' H4 (W4.mono (by omega)) (Off.trans (fun a u g1 g2 g3 e => by rw [upd_ne g2]; exact e) f4)
theorem ok_law_count (T : Top K mg C_Wood X_Absent X_NoWord X_Twice) (F_law_take : Fn P w K mg base 1 "_law_take" ["_law_box_here", "_law_many"] spTake) : Fn P w K mg base 2 "_law_count" ["_law_box_here"] spCount := by
  refine T.d_law_count.ok sc_law_count bi_law_count (fun vs H Q E h => ?_) (fun f cdv A outer s H vs Q E hr h => ?_)
  · obtain ⟨b, rfl, hb, k⟩ := h; rfl
  · obtain ⟨b, rfl, hb, k⟩ := h
    have cl_Wood := T.cl_Wood
    have na_Wood_marks := T.na_Wood_marks
    have na_Wood_tops := T.na_Wood_tops
    have na_Wood_now := T.na_Wood_now
    refine ⟨_, (pss_cons (ps_set (i := 1) sc_law_count.nd rfl (Or.inl rfl) (pe_fn F_law_take (hr.mono (by decide)) passL (pa_cons (pv 0) (pa_cons (pe_int) pa_nil))))
    (pss_cons (ps_if (pt_cmpR op_eq (pv 1) (pe_int) (nomark _)) (pss_one (ps_ret (pe_op op_sub (pe_op op_pow (pe_int) (pe_int)) (pe_fn F_law_take (hr.mono (by decide)) passL (pa_cons (pv 0) (pa_cons (pe_int) pa_nil)))))) pss_nil)
    (pss_one (ps_ret (pe_fn F_law_take (hr.mono (by decide)) passL (pa_cons (pv 0) (pa_cons (pe_ix ix_list (pe_lst (pa_cons (pe_int) (pa_cons (pe_int) (pa_cons (pe_op op_add (pe_op op_pow (pe_int) (pe_int)) (pe_int)) pa_nil)))) (pv 1) (fun _ _ => rfl)) pa_nil))))))), ?_⟩
    walk_at "go"
    refine use_take hb (by decide) (by decide) fun w H1 w0 w1 b1 s1 => ?_
    walk_at "go"
    refine bT (fun hc => ?_) (fun hc => ?_)
    · walk_at "go"
      refine use_take b1 (by decide) (by decide) fun r H2 r0 r1 b2 s2 => ?_
      walk_at "go"
      have e9 : ((10 : Int) ^ Int.toNat 9) = 1000000000 := by decide
      rw [e9]
      exact k _ _ (by omega) (by omega) b2 (s1.trans s2)
    · walk_at "go"
      refine ⟨sz (by simp), fun p hp => ?_⟩
      have hw : w ≠ 3 := by simpa using hc
      obtain ⟨c, hc, c0, c1⟩ : ∃ c : Int, atI [V.int 4, V.int 40, V.int (10 ^ Int.toNat 9 + 1)] w = some (.int c) ∧ 0 < c ∧ c ≤ 1000000001 := by
        have : w = 0 ∨ w = 1 ∨ w = 2 := by omega
        rcases this with rfl | rfl | rfl
        · exact ⟨_, rfl, by decide, by decide⟩
        · exact ⟨_, rfl, by decide, by decide⟩
        · exact ⟨_, rfl, by decide, by decide⟩
      walk_at "go"
      refine s_ixL (SqL.of upd_same) hc ?_
      walk_at "go"
      refine use_take (b1.new hp) c0 (by omega) fun r H2 r0 r1 b2 s2 => ?_
      exact k _ _ (by omega) (by omega) b2 ((s1.new hp).trans s2)
theorem ok_law_deed (T : Top K mg C_Wood X_Absent X_NoWord X_Twice) (F_Wood_strike : FnM P w K mg base 4 C_Wood "strike" ["self", "word"] [] (spStrike C_Wood X_Absent)) (F_law_count : Fn P w K mg base 2 "_law_count" ["_law_box_here"] spCount) (F_law_fade : Fn P w K mg base 3 "_law_fade" ["_law_box_here", "_law_wood", "_law_due"] (spLFade C_Wood)) (F_law_next_word : Fn P w K mg base 3 "_law_next_word" ["_law_box_here", "_law_words"] (spNext K)) (F_law_put : Fn P w K mg base 5 "_law_put" ["_law_wood", "_law_due", "_law_word_here", "_law_count_here"] (spLPut C_Wood)) (F_law_take : Fn P w K mg base 1 "_law_take" ["_law_box_here", "_law_many"] spTake) (F_law_use : Fn P w K mg base 5 "_law_use" ["_law_box_here", "_law_wood", "_law_due", "_law_word_here"] (spLUse C_Wood)) : Fn P w K mg base 6 "_law_deed" ["_law_box_here", "_law_wood", "_law_due", "_law_words"] (spLDeed C_Wood) := by
  refine T.d_law_deed.ok sc_law_deed bi_law_deed (fun vs H Q E h => ?_) (fun f cdv A outer s H vs Q E hr h => ?_)
  · obtain ⟨x, n, b, N, e, l, ss, rfl, he, ⟨A, ks, ks2, B, D⟩, hN, hb0, hb1, hL, hss, k⟩ := h; rfl
  · obtain ⟨x, n, b, N, e, l, ss, rfl, he, ⟨A, ks, ks2, B, D⟩, hN, hb0, hb1, hL, hss, k⟩ := h
    have cl_Wood := T.cl_Wood
    have na_Wood_marks := T.na_Wood_marks
    have na_Wood_tops := T.na_Wood_tops
    have na_Wood_now := T.na_Wood_now
    refine ⟨_, (pss_cons (ps_set (i := 4) sc_law_deed.nd rfl (Or.inl rfl) (pe_fn F_law_take (hr.mono (by decide)) passL (pa_cons (pv 0) (pa_cons (pe_int) pa_nil))))
    (pss_cons (ps_set (i := 5) sc_law_deed.nd rfl (Or.inl rfl) (pe_fn F_law_next_word (hr.mono (by decide)) passL (pa_cons (pv 0) (pa_cons (pv 3) pa_nil))))
    (pss_cons (ps_if (pt_cmpR op_eq (pv 4) (pe_int) (nomark _)) (pss_one (ps_ret (pe_fn F_law_fade (hr.mono (by decide)) passL (pa_cons (pv 0) (pa_cons (pv 1) (pa_cons (pv 2) pa_nil)))))) pss_nil)
    (pss_cons (ps_if (pt_cmp (pc_dnotin (hu_of hr) (pv 5) (pe_ix ix_list (pv 2) (pe_int) (fun _ _ => rfl)))) (Evl.pss_cut (ps_if (pt_cmpR op_notIn_seq (pv 5) (pv 3) rfl) (pss_one (ps_expr (pe_bm PySem.F.plainAttrs_list PySem.F.slot_list_append PySem.F.type_list_append mt_append (pv 3) (pa_cons (pv 5) pa_nil)))) pss_nil)
    (pss_one (ps_ret (pe_fn F_law_put (hr.mono (by decide)) passL (pa_cons (pv 1) (pa_cons (pv 2) (pa_cons (pv 5) (pa_cons (pe_fn F_law_count (hr.mono (by decide)) passL (pa_cons (pv 0) pa_nil)) pa_nil)))))))) pss_nil)
    (pss_cons (ps_if (pt_cmpR op_lt (pv 4) (pe_int) (nomark _)) (pss_one (ps_ret (pe_fn F_law_use (hr.mono (by decide)) passL (pa_cons (pv 0) (pa_cons (pv 1) (pa_cons (pv 2) (pa_cons (pv 5) pa_nil))))))) pss_nil)
    (pss_cons (ps_expr (pe_dpop1 (pe_ix ix_list (pv 2) (pe_int) (fun _ _ => rfl)) (pv 5) ⟨rfl, rfl, rfl, rfl⟩))
    (pss_cons (ps_if (pt_cmpR op_notN (pe_mth F_Wood_strike (hr.mono (by decide)) passL (pv 1) (pa_cons (pv 5) pa_nil)) (pe_non) (nomark _)) (pss_one (ps_ret (pe_bl))) pss_nil)
    (pss_cons (ps_if (pt_cmpR op_eq (pv 4) (pe_int) (nomark _)) (pss_one (ps_ret (pe_fn F_law_put (hr.mono (by decide)) passL (pa_cons (pv 1) (pa_cons (pv 2) (pa_cons (pv 5) (pa_cons (pe_fn F_law_count (hr.mono (by decide)) passL (pa_cons (pv 0) pa_nil)) pa_nil))))))) pss_nil)
    (pss_one (ps_ret (pe_bl))))))))))), ?_⟩
    walk_at "go"
    refine use_take he (by decide) (by decide) fun way H1 w0 w1 b1 s1 => ?_
    have D1 := D.but s1 he
    have L1 := hL.but s1 he
    have nle := L1.nb b1
    walk_at "go"
    refine ⟨e, l, ss, rfl, b1, SqL.of L1.l, nle, by omega, L1.w, fun w H2 hw b2 s2 => ?_⟩
    have D2 := D1.but s2 b1
    have L2' := L1.but s2 b1
    have hne : ¬ x.own e := D2.nb b2
    have hnl : ¬ x.own l := L2'.no D2
    have f2 : ∀ a o, ¬ x.own a → a ≠ e → a ≠ l → H a = some o → H2 a = some o := fun a o _ na _ z => s2 a o na (s1 a o na z)
    walk_at "go"
    refine bT (fun h6 => ?_) (fun h6 => ?_)
    · walk_at "go"
      refine ⟨x, n, b, N, e, rfl, b2, ⟨A, ks, ks2, B, D2⟩, by omega, by omega, fun n' H3 D3 b3 f3 => ?_⟩
      obtain ⟨A3, k3, k4, B3, D3⟩ := D3
      exact k n' ss H3 ⟨A3, k3, k4, B3, D3.mono (by omega) (by omega)⟩ ⟨f3 _ _ hnl nle L2'.l, hL.w⟩ (by omega) b3 fun a o na ne nl z => f3 a o na ne (f2 a o na ne nl z)
    have hl2 := D2.l
    have hT2 := D2.t
    walk_at "go"
    have hwt := Tx.word hw
    /- a word put in, the list of words as it is -/
    have put : ∀ (H3 : Hp) (A3 : MarkM) (k3 k4 : List Str) (B3 : MarkM) (N3 : Nat) (ss3 : List Str), N3 ≤ N + 30 → DuoX C_Wood H3 x n b N3 A3 k3 k4 B3 → A3 w = none → WL H3 l ss3 → ss3.length ≤ ss.length + 1 → BoxAt H3 e → (∀ a o, ¬ x.own a → a ≠ e → a ≠ l → H a = some o → H3 a = some o) →
        ∀ (c : Int) (H4 : Hp), 0 ≤ c → c ≤ 1000000000 → BoxAt H4 e → But e H3 H4 → spLPut C_Wood [.ref x.p, .ref x.u, .str w, .int c] H4 Q E0 := fun H3 A3 k3 k4 B3 N3 ss3 hN3 D3 hA3 L3 hs3 b3 f3 c H4 c0 c1 b4 s4 => by
      have D4 := D3.but s4 b3
      have L4 := L3.but s4 b3
      refine ⟨x, n, b, N3, A3, k3, k4, B3, w, c, rfl, D4, by omega, hw, hA3, c0, by omega, fun k5 k6 B5 H5 D5 f5 => ?_⟩
      have b5 : BoxAt H5 e := by
        obtain ⟨_, _, _, _, z⟩ := b4
        exact ⟨_, _, _, _, f5 _ _ hne z⟩
      exact k n ss3 H5 ⟨_, _, _, _, D5.mono (by omega) (by omega)⟩ ⟨f5 _ _ hnl L4.l, L4.w⟩ hs3 b5 fun a o na ne nl z => f5 a o na (s4 a o ne (f3 a o na ne nl z))
    cases hA : A w with
    | none =>
      rw [show (Option.map (fun m => V.int (wn m n)) (none : Option (Int × Int))).isSome = false from rfl]
      walk_at "go"
      refine u_cut (M := fun σ' H' => ∃ ss3, σ' = [some (.ref e), some (.ref x.p), some (.ref x.u), some (.ref l), some (.int way), some (.str w)] ∧ DuoX C_Wood H' x n b N A ks ks2 B ∧ WL H' l ss3 ∧ ss3.length ≤ ss.length + 1 ∧ BoxAt H' e ∧ ∀ a o, ¬ x.own a → a ≠ e → a ≠ l → H a = some o → H' a = some o) ?_ ?_
      · have hl1 := L2'.l
        walk_at "go"
        refine ⟨rfl, flat_strs ss, ?_⟩
        rw [inV_strs]
        walk_at "go"
        refine dF (fun hc => ?_) (fun hc => ?_)
        · walk_at "go"
          refine s_app hl1 (by rw [List.length_map, sizeLine_eq]; omega) ?_
          walk_at "go"
          refine ⟨ss ++ [w], rfl, D2.list L2', ⟨by rw [upd_same, List.map_append]; rfl, fun s hs => ?_⟩, by simp, b2.list L2', fun a o na ne nl z => by rw [upd_ne nl]; exact f2 a o na ne nl z⟩
          rcases List.mem_append.mp hs with hs | hs
          · exact hL.w s hs
          · have : s = w := by simpa using hs
            subst this; exact hw
        · walk_at "go"
          exact ⟨ss, rfl, D2, L2', by omega, b2, f2⟩
      · rintro σ' H3 ⟨ss3, rfl, D3, L3, hs3, b3, f3⟩
        walk_at "go"
        refine ⟨e, rfl, b3, fun c H4 c0 c1 b4 s4 => ?_⟩
        walk_at "go"
        exact put H3 A ks ks2 B N ss3 (by omega) D3 hA L3 hs3 b3 f3 c H4 c0 c1 b4 s4
    | some m =>
      rw [show (Option.map (fun m => V.int (wn m n)) (some m : Option (Int × Int))).isSome = true from rfl]
      walk_at "go"
      refine dT (fun h3 => ?_) (fun h3 => ?_)
      · walk_at "go"
        refine ⟨x, n, b, N, A, ks, ks2, B, w, e, m, rfl, b2, D2, by omega, hA, fun H3 D3 b3 f3 => ?_⟩
        obtain ⟨A3, k3, k4, B3, D3⟩ := D3
        exact k n ss H3 ⟨A3, k3, k4, B3, D3.mono (by omega) (by omega)⟩ ⟨f3 _ _ hnl nle L2'.l, hL.w⟩ (by omega) b3 fun a o na ne nl z => f3 a o na ne (f2 a o na ne nl z)
      · have hpu := D2.pu
        obtain ⟨dx, hp⟩ := D2.w.ob
        walk_at "go"
        refine s_dpop1 (w := w) (v := .int (wn m n)) hT2 (by rw [hA]; rfl) (fun R r => s_var rfl r) fun o hT3 => ?_
        have W3 : WoodAt C_Wood (upd H2 x.d o) x.p x.dm x.dt A ks B n N := D2.wood
        have hl3 : upd H2 x.d o x.u = some (.lst [.int n, .ref x.d]) := by rw [upd_ne hpu.2.2.2.1]; exact D2.l
        have hp3 : upd H2 x.d o x.p = some (.ins C_Wood dx (woodF x.dm x.dt n)) := by rw [upd_ne hpu.2.2.2.2.symm]; exact hp
        have f3 : Off5 x H2 (upd H2 x.d o) := fun a u na e => by rw [upd_ne (fun z => na (.inr (.inr (.inr (.inr z)))))]; exact e
        generalize upd H2 x.d o = H3 at hT3 W3 hl3 hp3 f3 ⊢
        walk_at "go"
        refine ⟨x.p, x.dm, x.dt, A, ks, B, n, N, w, rfl, W3, by omega, fun h => absurd (hA.symm.trans h) (by simp), fun m' e' B' H4 W4 f4 => ?_⟩
        have g4 : Off5 x H2 H4 := f3.trans (Off5.off f4)
        obtain ⟨kvs, hd3⟩ := hT3.there
        have hd4 := f4 _ _ hpu.2.2.2.2 D2.n1 D2.n2 hd3
        have D4 : DuoX C_Wood H4 x n b (N + 27) (delm A w) (remK ks w) (remK ks2 w) B' := by
          refine ⟨W4, f4 _ _ hpu.1 hpu.2.1 hpu.2.2.1 hl3, cast ?_ (hT3.keep (hd4.trans hd3.symm)), fun z a ea => ?_, D2.n1, D2.n2, Nat.le_trans (remK_len _ _) (by have := D2.kl; omega)⟩
          · congr 1
            funext z
            unfold delv delm
            by_cases ez : z = w
            · rw [if_pos ez, if_pos ez]; rfl
            · rw [if_neg ez, if_neg ez]
          · unfold delm at ea
            by_cases ez : z = w
            · rw [if_pos ez] at ea; cases ea
            · rw [if_neg ez] at ea; exact D2.bd z a ea
        have b4 : BoxAt H4 e := by
          obtain ⟨_, _, _, _, z⟩ := b2
          exact ⟨_, _, _, _, g4 _ _ hne z⟩
        have L4 : WL H4 l ss := ⟨g4 _ _ hnl L2'.l, hL.w⟩
        have f4' : ∀ a o, ¬ x.own a → a ≠ e → a ≠ l → H a = some o → H4 a = some o := fun a o na ne nl z => g4 a o na (f2 a o na ne nl z)
        walk_at "go"
        refine ⟨rfl, ?_⟩
        rw [show (!decide (V.non = V.non)) = false from rfl]
        walk_at "go"
        refine bT (fun h5 => ?_) (fun h5 => ?_)
        · walk_at "go"
          refine ⟨e, rfl, b4, fun c H5 c0 c1 b5 s5 => ?_⟩
          walk_at "go"
          exact put H4 (delm A w) _ _ B' (N + 27) ss (by omega) D4 (by unfold delm; rw [if_pos rfl]) L4 (by omega) b4 f4' c H5 c0 c1 b5 s5
        · walk_at "go"
          exact k n ss H4 ⟨_, _, _, _, D4.mono (by omega) (by omega)⟩ L4 (by omega) b4 f4'
/-- law's: a list of at most 63 ints is handed in, True comes out -/
def spLaw (K : PySem.W.Frag) : Sp := fun vs H Q _ => ∃ (a : Addr) (ns : List Int), vs = [.ref a] ∧ SqL K H a (ns.map V.int) ∧ ns.length ≤ 63 ∧ ∀ H', Q (.bl true) H'
theorem okF_law {fa : Addr} {fd : FuncData} (T : Top K mg C_Wood X_Absent X_NoWord X_Twice) (F : Fun K "law" "law" s_law fa fd) (F_Wood___init__ : FnI P w K mg base 1 C_Wood "Wood" ["self"] (spWInit C_Wood)) (F_law_box : Fn P w K mg base 1 "_law_box" ["_law_cell"] spBox) (F_law_cell_at : Fn P w K mg base 1 "_law_cell_at" ["_law_script", "_law_k"] (spCell K)) (F_law_count : Fn P w K mg base 2 "_law_count" ["_law_box_here"] spCount) (F_law_deed : Fn P w K mg base 6 "_law_deed" ["_law_box_here", "_law_wood", "_law_due", "_law_words"] (spLDeed C_Wood)) (F_law_next_word : Fn P w K mg base 3 "_law_next_word" ["_law_box_here", "_law_words"] (spNext K)) (F_law_put : Fn P w K mg base 5 "_law_put" ["_law_wood", "_law_due", "_law_word_here", "_law_count_here"] (spLPut C_Wood)) (F_law_stands : Fn P w K mg base 3 "_law_stands" ["_law_wood", "_law_due", "_law_words"] (spLStands C_Wood K)) (F_law_take : Fn P w K mg base 1 "_law_take" ["_law_box_here", "_law_many"] spTake) : FnOk P w K mg base (L2.CX P w) 7 fa fd ["_law_script"] (spLaw K) := by
  refine F.okX sc_law (fun vs H Q E h => ?_) (fun cdv A outer s H vs Q E hr h => ?_)
  · obtain ⟨a, ns, rfl, hS, hl, k⟩ := h; rfl
  · obtain ⟨a, ns, rfl, hS, hl, k⟩ := h
    have cl_Wood := T.cl_Wood
    have na_Wood_marks := T.na_Wood_marks
    have na_Wood_tops := T.na_Wood_tops
    have na_Wood_now := T.na_Wood_now
    refine ⟨_, PSs.nox ((pss_cons (ps_set (i := 1) sc_law.nd rfl (Or.inl rfl) (pe_lst (pa_cons (pe_nw0 F_Wood___init__ (hr.mono (by decide)) passL) (pa_cons (pe_nw0 F_Wood___init__ (hr.mono (by decide)) passL) pa_nil))))
    (pss_cons (ps_set (i := 2) sc_law.nd rfl (Or.inl rfl) (pe_lst (pa_cons (pe_lst (pa_cons (pe_int) (pa_cons (pe_dnewK) pa_nil))) (pa_cons (pe_lst (pa_cons (pe_int) (pa_cons (pe_dnewK) pa_nil))) pa_nil))))
    (pss_cons (ps_set (i := 3) sc_law.nd rfl (Or.inl rfl) (pe_lst pa_nil))
    (pss_cons (ps_if (PW.pt (pw_or (pt_not (pt_val (pe_fn F_law_stands (hr.mono (by decide)) passL (pa_cons (pe_ix ix_list (pv 1) (pe_int) (fun _ _ => rfl)) (pa_cons (pe_ix ix_list (pv 2) (pe_int) (fun _ _ => rfl)) (pa_cons (pe_lst (pa_cons (pe_str) pa_nil)) pa_nil)))))) (pw_or1 (pt_not (pt_val (pe_fn F_law_stands (hr.mono (by decide)) passL (pa_cons (pe_ix ix_list (pv 1) (pe_int) (fun _ _ => rfl)) (pa_cons (pe_ix ix_list (pv 2) (pe_int) (fun _ _ => rfl)) (pa_cons (pe_lst (pa_cons (pe_str) pa_nil)) pa_nil))))))))) (pss_one (ps_ret (pe_bl))) pss_nil)
    (pss_cons (ps_set (i := 4) sc_law.nd rfl (Or.inl rfl) (pe_fn F_law_box (hr.mono (by decide)) passL (pa_cons (pe_fn F_law_cell_at (hr.mono (by decide)) passL (pa_cons (pv 0) (pa_cons (pe_int) pa_nil))) pa_nil)))
    (pss_cons (ps_for PassesOwn.never rfl (pi_range1 rfl T.n_range (pa_cons (pe_fn F_law_take (hr.mono (by decide)) passL (pa_cons (pv 4) (pa_cons (pe_ix ix_list (pe_lst (pa_cons (pe_int) (pa_cons (pe_int) (pa_cons (pe_int) (pa_cons (pe_int) pa_nil))))) (pe_fn F_law_take (hr.mono (by decide)) passL (pa_cons (pv 4) (pa_cons (pe_int) pa_nil))) (fun _ _ => rfl)) pa_nil))) pa_nil)) (pg_name (i := 5) sc_law.nd rfl (Or.inl rfl)) (pss_cons (ps_set (i := 6) sc_law.nd rfl (Or.inl rfl) (pe_fn F_law_next_word (hr.mono (by decide)) passL (pa_cons (pv 4) (pa_cons (pv 3) pa_nil))))
    (pss_one (ps_if (pt_cmpR op_notIn_seq (pv 6) (pv 3) rfl) (pss_cons (ps_expr (pe_bm PySem.F.plainAttrs_list PySem.F.slot_list_append PySem.F.type_list_append mt_append (pv 3) (pa_cons (pv 6) pa_nil)))
    (pss_one (ps_if (pt_not (pt_val (pe_fn F_law_put (hr.mono (by decide)) passL (pa_cons (pe_ix ix_list (pv 1) (pe_int) (fun _ _ => rfl)) (pa_cons (pe_ix ix_list (pv 2) (pe_int) (fun _ _ => rfl)) (pa_cons (pv 6) (pa_cons (pe_fn F_law_count (hr.mono (by decide)) passL (pa_cons (pv 4) pa_nil)) pa_nil))))))) (pss_one (ps_ret (pe_bl))) pss_nil))) pss_nil))))
    (pss_cons (ps_for PassesOwn.never rfl (pi_list (pe_slice sl_list (pv 0) po_none (po_some (pe_int)))) (pg_name (i := 7) sc_law.nd rfl (Or.inl rfl)) (pss_cons (ps_set (i := 4) sc_law.nd rfl (Or.inl rfl) (pe_fn F_law_box (hr.mono (by decide)) passL (pa_cons (pv 7) pa_nil)))
    (pss_cons (ps_set (i := 8) sc_law.nd rfl (Or.inl rfl) (pe_fn F_law_take (hr.mono (by decide)) passL (pa_cons (pv 4) (pa_cons (pe_int) pa_nil))))
    (pss_cons (ps_if (pt_not (pt_val (pe_fn F_law_deed (hr.mono (by decide)) passL (pa_cons (pv 4) (pa_cons (pe_ix ix_list (pv 1) (pv 8) (fun _ _ => rfl)) (pa_cons (pe_ix ix_list (pv 2) (pv 8) (fun _ _ => rfl)) (pa_cons (pv 3) pa_nil))))))) (pss_one (ps_ret (pe_bl))) pss_nil)
    (pss_one (ps_if (pt_not (pt_val (pe_fn F_law_stands (hr.mono (by decide)) passL (pa_cons (pe_ix ix_list (pv 1) (pv 8) (fun _ _ => rfl)) (pa_cons (pe_ix ix_list (pv 2) (pv 8) (fun _ _ => rfl)) (pa_cons (pe_slice sl_list (pv 3) (po_some (pe_un un_neg (pe_int))) po_none) pa_nil)))))) (pss_one (ps_ret (pe_bl))) pss_nil))))))
    (pss_one (ps_ret ((pe_and (pe_fn F_law_stands (hr.mono (by decide)) passL (pa_cons (pe_ix ix_list (pv 1) (pe_int) (fun _ _ => rfl)) (pa_cons (pe_ix ix_list (pv 2) (pe_int) (fun _ _ => rfl)) (pa_cons (pv 3) pa_nil)))) (pe_one (pe_fn F_law_stands (hr.mono (by decide)) passL (pa_cons (pe_ix ix_list (pv 1) (pe_int) (fun _ _ => rfl)) (pa_cons (pe_ix ix_list (pv 2) (pe_int) (fun _ _ => rfl)) (pa_cons (pv 3) pa_nil))))))))))))))))), ?_⟩
    walk_at "go"
    intro p1 e1 np1 ne1 nn1
    refine ⟨p1, e1, rfl, upd_same, fun m1 t1 H1 W1 hm1 ht1 f1 => ⟨rfl, ?_⟩⟩
    have s1 : Same H H1 := Same.made np1 ne1 fun b o e n => f1 b o n e
    walk_at "go"
    intro p2 e2 np2 ne2 nn2
    refine ⟨p2, e2, rfl, upd_same, fun m2 t2 H2 W2 hm2 ht2 f2 => ⟨rfl, ?_⟩⟩
    have s2 : Same H1 H2 := Same.made np2 ne2 fun b o e n => f2 b o n e
    have hm2' : H1 m2 = none := (Same.made np2 ne2 fun b o e n => (show upd (upd H1 e2 (.own p2)) p2 (.ins C_Wood e2 []) b = some o from e)).free hm2
    have ht2' : H1 t2 = none := (Same.made np2 ne2 fun b o e n => (show upd (upd H1 e2 (.own p2)) p2 (.ins C_Wood e2 []) b = some o from e)).free ht2
    walk_at "go"
    refine ⟨sz (by simp), fun pw hpw => ?_⟩
    have gpw : upd H2 pw (.lst [.ref p1, .ref p2]) pw = some (.lst [.ref p1, .ref p2]) := upd_same
    have s3 : Same H2 (upd H2 pw (.lst [.ref p1, .ref p2])) := Same.new (Same.refl _) hpw
    generalize upd H2 pw (.lst [.ref p1, .ref p2]) = H3 at gpw s3 ⊢
    walk_at "go"
    intro d1 hd1
    have gd1 : upd H3 d1 (.dK []) d1 = some (.dK []) := upd_same
    have s4 : Same H3 (upd H3 d1 (.dK [])) := Same.new (Same.refl _) hd1
    generalize upd H3 d1 (.dK []) = H4 at gd1 s4 ⊢
    walk_at "go"
    refine ⟨sz (by simp), fun u1 hu1 => ?_⟩
    have gu1 : upd H4 u1 (.lst [.int 0, .ref d1]) u1 = some (.lst [.int 0, .ref d1]) := upd_same
    have s5 : Same H4 (upd H4 u1 (.lst [.int 0, .ref d1])) := Same.new (Same.refl _) hu1
    generalize upd H4 u1 (.lst [.int 0, .ref d1]) = H5 at gu1 s5 ⊢
    walk_at "go"
    intro d2 hd2
    have gd2 : upd H5 d2 (.dK []) d2 = some (.dK []) := upd_same
    have s6 : Same H5 (upd H5 d2 (.dK [])) := Same.new (Same.refl _) hd2
    generalize upd H5 d2 (.dK []) = H6 at gd2 s6 ⊢
    walk_at "go"
    refine ⟨sz (by simp), fun u2 hu2 => ?_⟩
    have gu2 : upd H6 u2 (.lst [.int 0, .ref d2]) u2 = some (.lst [.int 0, .ref d2]) := upd_same
    have s7 : Same H6 (upd H6 u2 (.lst [.int 0, .ref d2])) := Same.new (Same.refl _) hu2
    generalize upd H6 u2 (.lst [.int 0, .ref d2]) = H7 at gu2 s7 ⊢
    walk_at "go"
    refine ⟨sz (by simp), fun pd hpd => ?_⟩
    have gpd : upd H7 pd (.lst [.ref u1, .ref u2]) pd = some (.lst [.ref u1, .ref u2]) := upd_same
    have s8 : Same H7 (upd H7 pd (.lst [.ref u1, .ref u2])) := Same.new (Same.refl _) hpd
    generalize upd H7 pd (.lst [.ref u1, .ref u2]) = H8 at gpd s8 ⊢
    walk_at "go"
    refine ⟨sz (by simp), fun lw hlw => ?_⟩
    have glw : upd H8 lw (.lst []) lw = some (.lst (([] : List Str).map V.str)) := upd_same
    have s9 : Same H8 (upd H8 lw (.lst [])) := Same.new (Same.refl _) hlw
    generalize upd H8 lw (.lst []) = H9 at glw s9 ⊢
    have f59 := ((s6.trans s7).trans s8).trans s9
    have f49 := s5.trans f59
    have f29 := (s3.trans s4).trans f49
    have td : ∀ {G : Hp} {d : Addr}, G d = some (.dK []) → TD G d (fun w => (Option.map (fun m => V.int (wn m 0)) ((fun _ => none : MarkM) w))) [] := fun h => ⟨[], h, rfl, .nil, fun _ => rfl⟩
    obtain ⟨dx1, o1⟩ := W1.ob
    obtain ⟨v1, o2, _⟩ := W1.ma
    obtain ⟨q1, o2⟩ := o2.there
    obtain ⟨v2, ks', o3, _⟩ := W1.tp
    obtain ⟨q2, o3⟩ := o3.there
    obtain ⟨dx2, c1⟩ := W2.ob
    obtain ⟨v3, c2, _⟩ := W2.ma
    obtain ⟨q3, c2⟩ := c2.there
    obtain ⟨v4, ks3, c3, _⟩ := W2.tp
    obtain ⟨q4, c3⟩ := c3.there
    have D1 : DuoX C_Wood H9 ⟨p1, m1, t1, u1, d1⟩ 0 1000000000 0 (fun _ => none) [] [] (fun _ => none) :=
      ⟨W1.same (s2.trans f29), f59 _ _ gu1, td (f49 _ _ gd1), (fun w m e => nomatch e), (ne_of_none (s3 _ _ (s2 _ _ o2)) hd1).symm, (ne_of_none (s3 _ _ (s2 _ _ o3)) hd1).symm, Nat.le_refl _⟩
    have f25 := (s3.trans s4).trans s5
    have D2 : DuoX C_Wood H9 ⟨p2, m2, t2, u2, d2⟩ 0 1000000000 0 (fun _ => none) [] [] (fun _ => none) :=
      ⟨W2.same f29, (s8.trans s9) _ _ gu2, td (((s7.trans s8).trans s9) _ _ gd2), (fun w m e => nomatch e), (ne_of_none (f25 _ _ c2) hd2).symm, (ne_of_none (f25 _ _ c3) hd2).symm, Nat.le_refl _⟩
    have f15 := s2.trans f25
    have ap : Apart ⟨p1, m1, t1, u1, d1⟩ ⟨p2, m2, t2, u2, d2⟩ := D1.apart D2 (ne_of_none o1 np2) (ne_of_none o2 hm2') (ne_of_none o2 ht2') (ne_of_none (f15 _ _ o2) hd2) (ne_of_none o3 hm2') (ne_of_none o3 ht2') (ne_of_none (f15 _ _ o3) hd2)
      (ne_of_none (s3 _ _ c2) hd1).symm (ne_of_none (s3 _ _ c3) hd1).symm (ne_of_none (s5 _ _ gd1) hd2)
    have T9 : Two C_Wood H9 ⟨p1, m1, t1, u1, d1⟩ ⟨p2, m2, t2, u2, d2⟩ pw pd lw 1000000000 0 [] := ⟨⟨0, _, _, _, _, D1⟩, ⟨0, _, _, _, _, D2⟩, ((s4.trans (s5.trans f59))) _ _ gpw, s9 _ _ gpd, ⟨glw, fun _ h => nomatch h⟩⟩
    have S9 : Same H H9 := (s1.trans s2).trans f29
    have hSL := S9.seq hS
    clear D2
    have DX := D1
    clear D1
    have fresh1 : ∀ a, (⟨p1, m1, t1, u1, d1⟩ : Dad).own a → H a = none := fun a h => by
      rcases h with h | h | h | h | h
      · rw [h]; exact np1
      · rw [h]; exact (Same.made np1 ne1 fun b o e n => (show upd (upd H e1 (.own p1)) p1 (.ins C_Wood e1 []) b = some o from e)).free hm1
      · rw [h]; exact (Same.made np1 ne1 fun b o e n => (show upd (upd H e1 (.own p1)) p1 (.ins C_Wood e1 []) b = some o from e)).free ht1
      · rw [h]; exact (((s1.trans s2).trans s3).trans s4).free hu1
      · rw [h]; exact ((s1.trans s2).trans s3).free hd1
    have fresh2 : ∀ a, (⟨p2, m2, t2, u2, d2⟩ : Dad).own a → H a = none := fun a h => by
      rcases h with h | h | h | h | h
      · rw [h]; exact s1.free np2
      · rw [h]; exact s1.free hm2'
      · rw [h]; exact s1.free ht2'
      · rw [h]; exact (((s1.trans s2).trans f25).trans s6).free hu2
      · rw [h]; exact ((s1.trans s2).trans f25).free hd2
    have freshl : H lw = none := ((((s1.trans s2).trans f25).trans s6).trans (s7.trans s8)).free hlw
    clear hu1 hu2 hd1 hd2 hm1 ht1 hm2 ht2 hm2' ht2' np1 np2 ne1 ne2 nn1 nn2 s1 s2 s3 s4 s5 s6 s7 s8 s9 f1 f2 f15 f25 f29 f49 f59 gpw gd1 gu1 gd2 gu2 gpd glw W1 W2 o1 o2 o3 c1 c2 c3 td hpw hpd hlw
    generalize (⟨p1, m1, t1, u1, d1⟩ : Dad) = x at T9 ap fresh1 DX
    generalize (⟨p2, m2, t2, u2, d2⟩ : Dad) = y at T9 ap fresh2
    have wa : ∀ s ∈ (["a"] : List Str), isW s = true := fun s hs => by
      have : s = Str.ofString "a" := by simpa using hs
      subst this
      unfold isW
      rw [TL.tl_ofString]; decide +kernel
    have i1 := T9.pw
    have i2 := T9.pd
    walk_at "go"
    refine ⟨sz (by simp), fun pa hpa => ?_⟩
    have gpa : upd H9 pa (.lst [.str "a"]) pa = some (.lst ((["a"] : List Str).map V.str)) := upd_same
    have s10 : Same H9 (upd H9 pa (.lst [.str "a"])) := Same.new (Same.refl _) hpa
    generalize upd H9 pa (.lst [.str "a"]) = H10 at gpa s10 ⊢
    have T10 := T9.same s10
    have DX := DX.same s10
    obtain ⟨n1, D1⟩ := T10.d1
    walk_at "go"
    refine ⟨x, n1, _, _, pa, ["a"], rfl, D1, by omega, SqL.of gpa, wa, fun H11 s11 => ?_⟩
    have T11 := T10.same s11
    have DX := DX.same s11
    have j1 := T11.pw
    have j2 := T11.pd
    walk_at "go"
    refine ⟨sz (by simp), fun pb hpb => ?_⟩
    have gpb : upd H11 pb (.lst [.str "a"]) pb = some (.lst ((["a"] : List Str).map V.str)) := upd_same
    have s12 : Same H11 (upd H11 pb (.lst [.str "a"])) := Same.new (Same.refl _) hpb
    generalize upd H11 pb (.lst [.str "a"]) = H12 at gpb s12 ⊢
    have T12 := T11.same s12
    have DX := DX.same s12
    obtain ⟨n2, D2⟩ := T12.d2
    walk_at "go"
    refine ⟨y, n2, _, _, pb, ["a"], rfl, D2, by omega, SqL.of gpb, wa, fun H13 s13 => ?_⟩
    have T13 := T12.same s13
    have DX := DX.same s13
    have S13 : Same H H13 := (((S9.trans s10).trans s11).trans s12).trans s13
    walk_at "go"
    refine ⟨a, ns, 0, rfl, S13.seq hS, by omega, fun r => ?_⟩
    walk_at "go"
    refine ⟨r, rfl, fun e H14 he s14 be => ?_⟩
    have T14 := T13.same s14
    have DX := DX.same s14
    have S14 := S13.trans s14
    have freshe : H e = none := S13.free he
    walk_at "go"
    refine ⟨sz (by simp), fun pc hpc => ?_⟩
    walk_at "go"
    refine use_take (be.new hpc) (by decide) (by decide) fun w H15 w0 w1 b15 s15 => ?_
    obtain ⟨c, hc, c0, c1⟩ := pick4 (a := 7) (b := 7) (c := 7) (d := 61) (P := fun c => 1 ≤ c ∧ c ≤ 61) w0 w1 (by decide) (by decide) (by decide) (by decide)
    refine s_ixL (SqL.of (s15 _ _ (be.ne hpc).symm upd_same)) hc ?_
    have T15 := (T14.same (Same.new (o := .lst [.int 7, .int 7, .int 7, .int 61]) (Same.refl _) hpc)).but s15 (be.new hpc)
    have DX := (DX.same (Same.new (o := .lst [.int 7, .int 7, .int 7, .int 61]) (Same.refl _) hpc)).but s15 (be.new hpc)
    have S15 : Same H H15 := s15.same (Same.new S14 hpc) freshe
    walk_at "go"
    refine use_take b15 (by omega) (by omega) fun m H16 m0 m1 b16 s16 => ?_
    have T16 := T15.but s16 b15
    have DX := DX.but s16 b15
    have S16 : Same H H16 := s16.same S15 freshe
    walk_at "go"
    refine ⟨by omega, by omega, for_range (lo := 0) (n := m.toNat) (fun j σ' H' => ∃ (v5 v6 : Option V) (ss : List Str), σ' = [some (.ref a), some (.ref pw), some (.ref pd), some (.ref lw), some (.ref e), v5, v6, none, none] ∧ BoxAt H' e ∧ Two C_Wood H' x y pw pd lw 1000000000 (27 * j) ss ∧ ss.length ≤ j ∧ Same H H' ∧
        ∃ (n : Int) (A : MarkM) (ks ks2 : List Str) (B : MarkM), DuoX C_Wood H' x n 1000000000 (27 * j) A ks ks2 B ∧ ∀ w, A w ≠ none → w ∈ ss) ⟨none, none, [], rfl, b16, T16, by simp, S16, ?_⟩ ?_ ?_⟩
    · exact ⟨0, _, _, _, _, DX, fun w h => absurd rfl h⟩
    · rintro j σ' G hj ⟨v5, v6, ss, rfl, bG, TG, hls, SG, n3, A3, k3, k4, B3, D3, hA3⟩
      have hL := TG.l
      walk_at "go"
      refine ⟨e, lw, ss, rfl, bG, SqL.of hL.l, hL.nb bG, by omega, hL.w, fun w G1 hw bG1 sG1 => ?_⟩
      have TG1 := TG.but sG1 bG
      have D4 := D3.but sG1 bG
      have SG1 : Same H G1 := sG1.same SG freshe
      have hL1 := TG1.l
      have hl1 := hL1.l
      walk_at "go"
      refine ⟨rfl, flat_strs ss, ?_⟩
      rw [inV_strs]
      walk_at "go"
      refine dF (fun hc => ?_) (fun hc => ?_)
      · walk_at "go"
        refine s_app hl1 (by rw [List.length_map, sizeLine_eq]; omega) ?_
        have D5 := D4.list (o := .lst (ss.map V.str ++ [.str w])) hL1
        have b5 := bG1.list (o := .lst (ss.map V.str ++ [.str w])) hL1
        have L5 : WL (upd G1 lw (.lst (ss.map V.str ++ [.str w]))) lw (ss ++ [w]) := ⟨by rw [upd_same, List.map_append]; rfl, fun s hs => by
          rcases List.mem_append.mp hs with hs | hs
          · exact hL1.w s hs
          · have : s = w := by simpa using hs
            subst this; exact hw⟩
        have T5 := TG1.first ap bG1 ⟨_, _, _, _, D5⟩ L5 (Int.le_refl _) (Nat.le_refl _) fun a o _ _ nl z => by rw [upd_ne nl]; exact z
        have S5 : Same H (upd G1 lw (.lst (ss.map V.str ++ [.str w]))) := Same.mut SG1 freshl
        generalize upd G1 lw (.lst (ss.map V.str ++ [.str w])) = G2 at D5 b5 L5 T5 S5 ⊢
        have j1 := T5.pw
        have j2 := T5.pd
        walk_at "go"
        refine ⟨e, rfl, b5, fun c G3 c0 c1 b6 s6 => ?_⟩
        have T6 := T5.but s6 b5
        have D6 := D5.but s6 b5
        have S6 : Same H G3 := s6.same S5 freshe
        walk_at "go"
        have hAw : A3 w = none := by
          cases h : A3 w with
          | none => rfl
          | some m => exact absurd (hA3 w (by rw [h]; simp)) hc
        refine ⟨x, n3, 1000000000, 27 * j, A3, k3, k4, B3, w, c, rfl, D6, by omega, hw, hAw, c0, c1, fun k5 k6 B5 G4 D7 f7 => ?_⟩
        have hne : ¬ x.own e := D6.nb b6
        have b7 : BoxAt G4 e := by
          obtain ⟨_, _, _, _, z⟩ := b6
          exact ⟨_, _, _, _, f7 _ _ hne z⟩
        have L7 : WL G4 lw (ss ++ [w]) := ⟨f7 _ _ (T6.l.no D6) T6.l.l, T6.l.w⟩
        have T7 := T6.first ap b6 ⟨_, _, _, _, D7⟩ L7 (Int.le_refl _) (by omega) fun a o na _ _ z => f7 a o na z
        have S7 : Same H G4 := fun a o z => f7 a o (fun c => by rw [fresh1 a c] at z; cases z) (S6 a o z)
        walk_at "go"
        refine ⟨_, _, ss ++ [w], rfl, b7, T7, by simp; omega, S7, n3, _, _, _, _, D7, fun z hz => ?_⟩
        unfold setm at hz
        by_cases ez : z = w
        · subst ez; simp
        · rw [if_neg ez] at hz
          exact List.mem_append.mpr (.inl (hA3 z hz))
      · walk_at "go"
        obtain ⟨⟨q1, E1⟩, ⟨q2, A2, g1, g2, B2, E2⟩, h1, h2, h3⟩ := TG1
        refine ⟨_, _, ss, rfl, bG1, ⟨⟨n3, _, _, _, _, D4.mono (Int.le_refl _) (by omega)⟩, ⟨q2, A2, g1, g2, B2, E2.mono (Int.le_refl _) (by omega)⟩, h1, h2, h3⟩, by omega, SG1, n3, A3, k3, k4, B3, D4.mono (Int.le_refl _) (by omega), hA3⟩
    · rintro σ' G ⟨v5, v6, ss, rfl, bG, TG, hls, SG, -⟩
      have hls2 : ss.length ≤ 61 := by omega
      walk_at "go"
      refine s_slL (SG.seq hS) fun q hq => ?_
      obtain ⟨ms, em, lm⟩ := cutV_ints ns none (some 63)
      rw [em]
      have gq : upd G q (.lst (ms.map V.int)) q = some (.lst (ms.map V.int)) := upd_same
      have sq : Same G (upd G q (.lst (ms.map V.int))) := Same.new (Same.refl _) hq
      have nql : q ≠ lw := (ne_of_none TG.l.l hq).symm
      generalize upd G q (.lst (ms.map V.int)) = G0 at gq sq ⊢
      have T0 := TG.same sq
      have S0 := SG.trans sq
      walk_at "go"
      refine ⟨⟨_, SqL.of gq⟩, for_list (xs := ms.map V.int) (fun i σ' H' => ∃ (v4 v5 v6 v7 v8 : Option V) (ss : List Str), σ' = [some (.ref a), some (.ref pw), some (.ref pd), some (.ref lw), v4, v5, v6, v7, v8] ∧ Two C_Wood H' x y pw pd lw (1000000000 + 1000000 * i) (1700 + 100 * i) ss ∧ ss.length ≤ 100 + i ∧ H' q = some (.lst (ms.map V.int))) ⟨_, _, _, _, _, ss, rfl, ?_, by omega, gq⟩ (fun i σ' H' _ h => by obtain ⟨_, _, _, _, _, _, _, _, _, s⟩ := h; exact SqL.of s) ?_ ?_⟩
      · obtain ⟨⟨q1, A1, g3, g4, B1, E1⟩, ⟨q2, A2, g1, g2, B2, E2⟩, h1, h2, h3⟩ := T0
        exact ⟨⟨q1, _, _, _, _, E1.mono (by omega) (by omega)⟩, ⟨q2, A2, g1, g2, B2, E2.mono (by omega) (by omega)⟩, h1, h2, h3⟩
      · rintro i z σ' H1 hi ⟨v4, v5, v6, v7, v8, ss, rfl, T1, hs1, gq1⟩
        have him : i < 63 := by
          have := (List.getElem?_eq_some_iff.mp hi).1
          rw [List.length_map] at this; omega
        obtain ⟨n, hn, rfl⟩ := ints_get hi
        walk_at "go"
        refine ⟨n, rfl, fun e2 H2 he2 s2 be2 => ?_⟩
        have T2 := T1.same s2
        have gq2 := s2 _ _ gq1
        have nqe := ne_of_none gq1 he2
        walk_at "go"
        refine use_take be2 (by decide) (by decide) fun r H3 r0 r1 b3 s3 => ?_
        have T3 := T2.but s3 be2
        have gq3 := s3 _ _ nqe gq2
        have j1 := T3.pw
        have j2 := T3.pd
        have fin : ∀ (z : Dad) (nn : Int) (H4 : Hp) (ss' : List Str), True := fun _ _ _ _ => trivial
        have : r = 0 ∨ r = 1 := by omega
        rcases this with rfl | rfl
        · obtain ⟨n1, D1⟩ := T3.d1
          walk_at "go"
          refine ⟨x, n1, _, _, e2, lw, ss, rfl, b3, D1, by omega, by omega, by omega, T3.l, by omega, fun n' ss' H4 D4 L4 hs4 b4 f4 => ?_⟩
          have T4 := T3.first ap b3 D4 L4 (by omega) (by omega) f4
          have gq4 := f4 _ _ (by obtain ⟨_, _, _, _, D⟩ := D1; exact D.noint gq3) nqe nql gq3
          have j3 := T4.pw
          have j4 := T4.pd
          have hl4 := L4.l
          walk_at "go"
          intro pe hpe
          obtain ⟨us, eu, lu, mu⟩ := cutV_strs ss' (some (-12)) none
          rw [eu]
          have T5 := T4.same (Same.new (o := .lst (us.map V.str)) (Same.refl _) hpe)
          have gq5 := keepN (u := .lst (us.map V.str)) gq4 hpe
          have gpe : upd H4 pe (.lst (us.map V.str)) pe = some (.lst (us.map V.str)) := upd_same
          generalize upd H4 pe (.lst (us.map V.str)) = H5 at T5 gq5 gpe ⊢
          obtain ⟨n5, D5⟩ := T5.d1
          refine ⟨x, n5, _, _, pe, us, rfl, D5, by omega, SqL.of gpe, fun s hs => L4.w s (mu s hs), fun H6 s6 => ?_⟩
          walk_at "go"
          refine ⟨_, _, _, _, _, ss', rfl, ?_, by omega, s6 _ _ gq5⟩
          obtain ⟨⟨q1, A1, g3, g4, B1, E1⟩, ⟨q2, A2, g1, g2, B2, E2⟩, h1, h2, h3⟩ := T5.same s6
          exact ⟨⟨q1, _, _, _, _, E1.mono (by omega) (by omega)⟩, ⟨q2, A2, g1, g2, B2, E2.mono (by omega) (by omega)⟩, h1, h2, h3⟩
        · obtain ⟨n1, D1⟩ := T3.d2
          walk_at "go"
          refine ⟨y, n1, _, _, e2, lw, ss, rfl, b3, D1, by omega, by omega, by omega, T3.l, by omega, fun n' ss' H4 D4 L4 hs4 b4 f4 => ?_⟩
          have T4 := T3.second ap b3 D4 L4 (by omega) (by omega) f4
          have gq4 := f4 _ _ (by obtain ⟨_, _, _, _, D⟩ := D1; exact D.noint gq3) nqe nql gq3
          have j3 := T4.pw
          have j4 := T4.pd
          have hl4 := L4.l
          walk_at "go"
          intro pe hpe
          obtain ⟨us, eu, lu, mu⟩ := cutV_strs ss' (some (-12)) none
          rw [eu]
          have T5 := T4.same (Same.new (o := .lst (us.map V.str)) (Same.refl _) hpe)
          have gq5 := keepN (u := .lst (us.map V.str)) gq4 hpe
          have gpe : upd H4 pe (.lst (us.map V.str)) pe = some (.lst (us.map V.str)) := upd_same
          generalize upd H4 pe (.lst (us.map V.str)) = H5 at T5 gq5 gpe ⊢
          obtain ⟨n5, D5⟩ := T5.d2
          refine ⟨y, n5, _, _, pe, us, rfl, D5, by omega, SqL.of gpe, fun s hs => L4.w s (mu s hs), fun H6 s6 => ?_⟩
          walk_at "go"
          refine ⟨_, _, _, _, _, ss', rfl, ?_, by omega, s6 _ _ gq5⟩
          obtain ⟨⟨q1, A1, g3, g4, B1, E1⟩, ⟨q2, A2, g1, g2, B2, E2⟩, h1, h2, h3⟩ := T5.same s6
          exact ⟨⟨q1, _, _, _, _, E1.mono (by omega) (by omega)⟩, ⟨q2, A2, g1, g2, B2, E2.mono (by omega) (by omega)⟩, h1, h2, h3⟩
      · rintro σ' H1 ⟨v4, v5, v6, v7, v8, ss, rfl, T1, hs1, gq1⟩
        rw [List.length_map] at T1
        have j1 := T1.pw
        have j2 := T1.pd
        obtain ⟨n1, D1⟩ := T1.d1
        walk_at "go"
        refine ⟨x, n1, _, _, lw, ss, rfl, D1, by omega, SqL.of T1.l.l, T1.l.w, fun H2 s2 => ?_⟩
        have T2 := T1.same s2
        have j3 := T2.pw
        have j4 := T2.pd
        obtain ⟨n2, D2⟩ := T2.d2
        walk_at "go"
        exact ⟨y, n2, _, _, lw, ss, rfl, D2, by omega, SqL.of T2.l.l, T2.l.w, fun H3 _ => k H3⟩
end
theorem all_mk {l : PySem.W.OpenLaw} {w : World} {K : PySem.W.Frag} {h : Heap} {mg : Str → Option Value} {fa : Addr} (X : K.In h) (G : h.Ns mainGlobals mg) (hfa : mg "law" = some (.ref fa))
    {C_Wood : Addr} {X_Absent : Addr} {X_NoWord : Addr} {X_Twice : Addr} {f_Wood___init__ : Addr} {od_Wood___init__ an_Wood___init__ : Option Addr} {sl_Wood___init__ : Array (Option Value)} {oc_Wood___init__ kV_Wood___init__ dc_Wood___init__ pm_Wood___init__ cd_Wood___init__ ct_Wood___init__ : Value} {f_Wood_words : Addr} {od_Wood_words an_Wood_words : Option Addr} {sl_Wood_words : Array (Option Value)} {oc_Wood_words kV_Wood_words dc_Wood_words pm_Wood_words cd_Wood_words ct_Wood_words : Value} {f_Wood_era : Addr} {od_Wood_era an_Wood_era : Option Addr} {sl_Wood_era : Array (Option Value)} {oc_Wood_era kV_Wood_era dc_Wood_era pm_Wood_era cd_Wood_era ct_Wood_era : Value} {f_Wood_ask_there : Addr} {od_Wood_ask_there an_Wood_ask_there : Option Addr} {sl_Wood_ask_there : Array (Option Value)} {oc_Wood_ask_there kV_Wood_ask_there dc_Wood_ask_there pm_Wood_ask_there cd_Wood_ask_there ct_Wood_ask_there : Value} {f_Wood_worth_of : Addr} {od_Wood_worth_of an_Wood_worth_of : Option Addr} {sl_Wood_worth_of : Array (Option Value)} {oc_Wood_worth_of kV_Wood_worth_of dc_Wood_worth_of pm_Wood_worth_of cd_Wood_worth_of ct_Wood_worth_of : Value} {f_Wood_has : Addr} {od_Wood_has an_Wood_has : Option Addr} {sl_Wood_has : Array (Option Value)} {oc_Wood_has kV_Wood_has dc_Wood_has pm_Wood_has cd_Wood_has ct_Wood_has : Value} {f_Wood_fade : Addr} {od_Wood_fade an_Wood_fade : Option Addr} {sl_Wood_fade : Array (Option Value)} {oc_Wood_fade kV_Wood_fade dc_Wood_fade pm_Wood_fade cd_Wood_fade ct_Wood_fade : Value} {td_Wood_fade : Addr} {tn_Wood_fade : Nat} {tc_Wood_fade : Value} {to_Wood_fade : Option Addr} {ts_Wood_fade : Array (Option Value)} {tt_Wood_fade : Tok} {f_Wood_longer_by_one : Addr} {od_Wood_longer_by_one an_Wood_longer_by_one : Option Addr} {sl_Wood_longer_by_one : Array (Option Value)} {oc_Wood_longer_by_one kV_Wood_longer_by_one dc_Wood_longer_by_one pm_Wood_longer_by_one cd_Wood_longer_by_one ct_Wood_longer_by_one : Value} {f_Wood_renew_tops : Addr} {od_Wood_renew_tops an_Wood_renew_tops : Option Addr} {sl_Wood_renew_tops : Array (Option Value)} {oc_Wood_renew_tops kV_Wood_renew_tops dc_Wood_renew_tops pm_Wood_renew_tops cd_Wood_renew_tops ct_Wood_renew_tops : Value} {f_Wood_put : Addr} {od_Wood_put an_Wood_put : Option Addr} {sl_Wood_put : Array (Option Value)} {oc_Wood_put kV_Wood_put dc_Wood_put pm_Wood_put cd_Wood_put ct_Wood_put : Value} {f_Wood_use : Addr} {od_Wood_use an_Wood_use : Option Addr} {sl_Wood_use : Array (Option Value)} {oc_Wood_use kV_Wood_use dc_Wood_use pm_Wood_use cd_Wood_use ct_Wood_use : Value} {td_Wood_use : Addr} {tn_Wood_use : Nat} {tc_Wood_use : Value} {to_Wood_use : Option Addr} {ts_Wood_use : Array (Option Value)} {tt_Wood_use : Tok} {f_Wood_strike : Addr} {od_Wood_strike an_Wood_strike : Option Addr} {sl_Wood_strike : Array (Option Value)} {oc_Wood_strike kV_Wood_strike dc_Wood_strike pm_Wood_strike cd_Wood_strike ct_Wood_strike : Value} {f_law_box : Addr} {od_law_box an_law_box : Option Addr} {sl_law_box : Array (Option Value)} {oc_law_box kV_law_box dc_law_box pm_law_box cd_law_box ct_law_box : Value} {f_law_cell_at : Addr} {od_law_cell_at an_law_cell_at : Option Addr} {sl_law_cell_at : Array (Option Value)} {oc_law_cell_at kV_law_cell_at dc_law_cell_at pm_law_cell_at cd_law_cell_at ct_law_cell_at : Value} {f_law_take : Addr} {od_law_take an_law_take : Option Addr} {sl_law_take : Array (Option Value)} {oc_law_take kV_law_take dc_law_take pm_law_take cd_law_take ct_law_take : Value} {f_law_is_word : Addr} {od_law_is_word an_law_is_word : Option Addr} {sl_law_is_word : Array (Option Value)} {oc_law_is_word kV_law_is_word dc_law_is_word pm_law_is_word cd_law_is_word ct_law_is_word : Value} {f_law_word : Addr} {od_law_word an_law_word : Option Addr} {sl_law_word : Array (Option Value)} {oc_law_word kV_law_word dc_law_word pm_law_word cd_law_word ct_law_word : Value} {f_law_next_word : Addr} {od_law_next_word an_law_next_word : Option Addr} {sl_law_next_word : Array (Option Value)} {oc_law_next_word kV_law_next_word dc_law_next_word pm_law_next_word cd_law_next_word ct_law_next_word : Value} {f_worth_at : Addr} {od_worth_at an_worth_at : Option Addr} {sl_worth_at : Array (Option Value)} {oc_worth_at kV_worth_at dc_worth_at pm_worth_at cd_worth_at ct_worth_at : Value} {f_law_stands : Addr} {od_law_stands an_law_stands : Option Addr} {sl_law_stands : Array (Option Value)} {oc_law_stands kV_law_stands dc_law_stands pm_law_stands cd_law_stands ct_law_stands : Value} {f_law_times : Addr} {od_law_times an_law_times : Option Addr} {sl_law_times : Array (Option Value)} {oc_law_times kV_law_times dc_law_times pm_law_times cd_law_times ct_law_times : Value} {f_law_faded : Addr} {od_law_faded an_law_faded : Option Addr} {sl_law_faded : Array (Option Value)} {oc_law_faded kV_law_faded dc_law_faded pm_law_faded cd_law_faded ct_law_faded : Value} {f_law_fade : Addr} {od_law_fade an_law_fade : Option Addr} {sl_law_fade : Array (Option Value)} {oc_law_fade kV_law_fade dc_law_fade pm_law_fade cd_law_fade ct_law_fade : Value} {f_greatest_at : Addr} {od_greatest_at an_greatest_at : Option Addr} {sl_greatest_at : Array (Option Value)} {oc_greatest_at kV_greatest_at dc_greatest_at pm_greatest_at cd_greatest_at ct_greatest_at : Value} {f_is_part : Addr} {od_is_part an_is_part : Option Addr} {sl_is_part : Array (Option Value)} {oc_is_part kV_is_part dc_is_part pm_is_part cd_is_part ct_is_part : Value} {f_is_word : Addr} {od_is_word an_is_word : Option Addr} {sl_is_word : Array (Option Value)} {oc_is_word kV_is_word dc_is_word pm_is_word cd_is_word ct_is_word : Value} {f_law_put : Addr} {od_law_put an_law_put : Option Addr} {sl_law_put : Array (Option Value)} {oc_law_put kV_law_put dc_law_put pm_law_put cd_law_put ct_law_put : Value} {f_used_mark : Addr} {od_used_mark an_used_mark : Option Addr} {sl_used_mark : Array (Option Value)} {oc_used_mark kV_used_mark dc_used_mark pm_used_mark cd_used_mark ct_used_mark : Value} {f_law_use : Addr} {od_law_use an_law_use : Option Addr} {sl_law_use : Array (Option Value)} {oc_law_use kV_law_use dc_law_use pm_law_use cd_law_use ct_law_use : Value} {f_law_count : Addr} {od_law_count an_law_count : Option Addr} {sl_law_count : Array (Option Value)} {oc_law_count kV_law_count dc_law_count pm_law_count cd_law_count ct_law_count : Value} {f_law_deed : Addr} {od_law_deed an_law_deed : Option Addr} {sl_law_deed : Array (Option Value)} {oc_law_deed kV_law_deed dc_law_deed pm_law_deed cd_law_deed ct_law_deed : Value} {f_law : Addr} {od_law an_law : Option Addr} {sl_law : Array (Option Value)} {oc_law kV_law dc_law pm_law cd_law ct_law : Value} {tk_LETTERS : Tok} {tk_SIGNS : Tok}
    (a_Wood : PySem.W.nsIn K mainGlobals "Wood" = some (some (.ref C_Wood)))
    (pg_Wood : PySem.W.plainGet K C_Wood Str.empty = true)
    (hd_Wood : PySem.W.hasDictIn K C_Wood = true)
    (po_Wood : PySem.W.plainOver K C_Wood = true)
    (sa_Wood : PySem.W.findIn K (.ref C_Wood) "__setattr__" = some (some (.builtin "object.__setattr__")))
    (mk_Wood : PySem.W.makesIn K C_Wood = true)
    (kc_Wood : PySem.W.keepIn K (.ref C_Wood) = true)
    (na_Wood_marks : PySem.W.findIn K (.ref C_Wood) "marks" = some none)
    (na_Wood_tops : PySem.W.findIn K (.ref C_Wood) "tops" = some none)
    (na_Wood_now : PySem.W.findIn K (.ref C_Wood) "now" = some none)
    (a_Absent : PySem.W.nsIn K mainGlobals "Absent" = some (some (.ref X_Absent)))
    (xc_Absent : PySem.W.excIn K X_Absent [.type "ValueError", .type "Exception", .type "BaseException", .type "object"] "ValueError.__new__" = true)
    (kc_Absent : PySem.W.keepIn K (.ref X_Absent) = true)
    (sb_Absent : PySem.W.subIn K (.ref X_Absent) (.type "BaseException") = some true)
    (ty_Absent : PySem.W.typeIn K (.ref X_Absent) = some (.type "type"))
    (a_NoWord : PySem.W.nsIn K mainGlobals "NoWord" = some (some (.ref X_NoWord)))
    (xc_NoWord : PySem.W.excIn K X_NoWord [.type "ValueError", .type "Exception", .type "BaseException", .type "object"] "ValueError.__new__" = true)
    (kc_NoWord : PySem.W.keepIn K (.ref X_NoWord) = true)
    (sb_NoWord : PySem.W.subIn K (.ref X_NoWord) (.type "BaseException") = some true)
    (ty_NoWord : PySem.W.typeIn K (.ref X_NoWord) = some (.type "type"))
    (a_Twice : PySem.W.nsIn K mainGlobals "Twice" = some (some (.ref X_Twice)))
    (xc_Twice : PySem.W.excIn K X_Twice [.type "ValueError", .type "Exception", .type "BaseException", .type "object"] "ValueError.__new__" = true)
    (kc_Twice : PySem.W.keepIn K (.ref X_Twice) = true)
    (sb_Twice : PySem.W.subIn K (.ref X_Twice) (.type "BaseException") = some true)
    (ty_Twice : PySem.W.typeIn K (.ref X_Twice) = some (.type "type"))
    (a_Wood___init__ : PySem.W.findIn K (.ref C_Wood) "__init__" = some (some (.ref f_Wood___init__)))
    (i_Wood___init__ : PySem.W.isFn K (.ref f_Wood___init__) = true)
    (l_Wood___init__ : K.lookup f_Wood___init__ = some ⟨oc_Wood___init__, od_Wood___init__, .func (PySem.W.fnOf "__init__" "Wood.__init__" (defArgs s_Wood___init__) (defBody s_Wood___init__) (defScope s_Wood___init__) .none kV_Wood___init__ dc_Wood___init__ pm_Wood___init__ an_Wood___init__ cd_Wood___init__ ct_Wood___init__), sl_Wood___init__⟩)
    (q_Wood___init__ : PySem.W.codeIn K cd_Wood___init__ "Wood.__init__" = true)
    (k_Wood___init__ : PySem.W.keepIn K (.ref f_Wood___init__) = true)
    (a_Wood_words : PySem.W.findIn K (.ref C_Wood) "words" = some (some (.ref f_Wood_words)))
    (i_Wood_words : PySem.W.isFn K (.ref f_Wood_words) = true)
    (l_Wood_words : K.lookup f_Wood_words = some ⟨oc_Wood_words, od_Wood_words, .func (PySem.W.fnOf "words" "Wood.words" (defArgs s_Wood_words) (defBody s_Wood_words) (defScope s_Wood_words) .none kV_Wood_words dc_Wood_words pm_Wood_words an_Wood_words cd_Wood_words ct_Wood_words), sl_Wood_words⟩)
    (q_Wood_words : PySem.W.codeIn K cd_Wood_words "Wood.words" = true)
    (k_Wood_words : PySem.W.keepIn K (.ref f_Wood_words) = true)
    (a_Wood_era : PySem.W.findIn K (.ref C_Wood) "era" = some (some (.ref f_Wood_era)))
    (i_Wood_era : PySem.W.isFn K (.ref f_Wood_era) = true)
    (l_Wood_era : K.lookup f_Wood_era = some ⟨oc_Wood_era, od_Wood_era, .func (PySem.W.fnOf "era" "Wood.era" (defArgs s_Wood_era) (defBody s_Wood_era) (defScope s_Wood_era) .none kV_Wood_era dc_Wood_era pm_Wood_era an_Wood_era cd_Wood_era ct_Wood_era), sl_Wood_era⟩)
    (q_Wood_era : PySem.W.codeIn K cd_Wood_era "Wood.era" = true)
    (k_Wood_era : PySem.W.keepIn K (.ref f_Wood_era) = true)
    (a_Wood_ask_there : PySem.W.findIn K (.ref C_Wood) "ask_there" = some (some (.ref f_Wood_ask_there)))
    (i_Wood_ask_there : PySem.W.isFn K (.ref f_Wood_ask_there) = true)
    (l_Wood_ask_there : K.lookup f_Wood_ask_there = some ⟨oc_Wood_ask_there, od_Wood_ask_there, .func (PySem.W.fnOf "ask_there" "Wood.ask_there" (defArgs s_Wood_ask_there) (defBody s_Wood_ask_there) (defScope s_Wood_ask_there) .none kV_Wood_ask_there dc_Wood_ask_there pm_Wood_ask_there an_Wood_ask_there cd_Wood_ask_there ct_Wood_ask_there), sl_Wood_ask_there⟩)
    (q_Wood_ask_there : PySem.W.codeIn K cd_Wood_ask_there "Wood.ask_there" = true)
    (k_Wood_ask_there : PySem.W.keepIn K (.ref f_Wood_ask_there) = true)
    (a_Wood_worth_of : PySem.W.findIn K (.ref C_Wood) "worth_of" = some (some (.ref f_Wood_worth_of)))
    (i_Wood_worth_of : PySem.W.isFn K (.ref f_Wood_worth_of) = true)
    (l_Wood_worth_of : K.lookup f_Wood_worth_of = some ⟨oc_Wood_worth_of, od_Wood_worth_of, .func (PySem.W.fnOf "worth_of" "Wood.worth_of" (defArgs s_Wood_worth_of) (defBody s_Wood_worth_of) (defScope s_Wood_worth_of) .none kV_Wood_worth_of dc_Wood_worth_of pm_Wood_worth_of an_Wood_worth_of cd_Wood_worth_of ct_Wood_worth_of), sl_Wood_worth_of⟩)
    (q_Wood_worth_of : PySem.W.codeIn K cd_Wood_worth_of "Wood.worth_of" = true)
    (k_Wood_worth_of : PySem.W.keepIn K (.ref f_Wood_worth_of) = true)
    (a_Wood_has : PySem.W.findIn K (.ref C_Wood) "has" = some (some (.ref f_Wood_has)))
    (i_Wood_has : PySem.W.isFn K (.ref f_Wood_has) = true)
    (l_Wood_has : K.lookup f_Wood_has = some ⟨oc_Wood_has, od_Wood_has, .func (PySem.W.fnOf "has" "Wood.has" (defArgs s_Wood_has) (defBody s_Wood_has) (defScope s_Wood_has) .none kV_Wood_has dc_Wood_has pm_Wood_has an_Wood_has cd_Wood_has ct_Wood_has), sl_Wood_has⟩)
    (q_Wood_has : PySem.W.codeIn K cd_Wood_has "Wood.has" = true)
    (k_Wood_has : PySem.W.keepIn K (.ref f_Wood_has) = true)
    (a_Wood_fade : PySem.W.findIn K (.ref C_Wood) "fade" = some (some (.ref f_Wood_fade)))
    (i_Wood_fade : PySem.W.isFn K (.ref f_Wood_fade) = true)
    (l_Wood_fade : K.lookup f_Wood_fade = some ⟨oc_Wood_fade, od_Wood_fade, .func (PySem.W.fnOf "fade" "Wood.fade" (defArgs s_Wood_fade) (defBody s_Wood_fade) (defScope s_Wood_fade) (.ref td_Wood_fade) kV_Wood_fade dc_Wood_fade pm_Wood_fade an_Wood_fade cd_Wood_fade ct_Wood_fade), sl_Wood_fade⟩)
    (q_Wood_fade : PySem.W.codeIn K cd_Wood_fade "Wood.fade" = true)
    (k_Wood_fade : PySem.W.keepIn K (.ref f_Wood_fade) = true)
    (t_Wood_fade : K.lookup td_Wood_fade = some ⟨tc_Wood_fade, to_Wood_fade, .seq #[.int 1 tt_Wood_fade] tn_Wood_fade, ts_Wood_fade⟩)
    (a_Wood_longer_by_one : PySem.W.findIn K (.ref C_Wood) "longer_by_one" = some (some (.ref f_Wood_longer_by_one)))
    (i_Wood_longer_by_one : PySem.W.isFn K (.ref f_Wood_longer_by_one) = true)
    (l_Wood_longer_by_one : K.lookup f_Wood_longer_by_one = some ⟨oc_Wood_longer_by_one, od_Wood_longer_by_one, .func (PySem.W.fnOf "longer_by_one" "Wood.longer_by_one" (defArgs s_Wood_longer_by_one) (defBody s_Wood_longer_by_one) (defScope s_Wood_longer_by_one) .none kV_Wood_longer_by_one dc_Wood_longer_by_one pm_Wood_longer_by_one an_Wood_longer_by_one cd_Wood_longer_by_one ct_Wood_longer_by_one), sl_Wood_longer_by_one⟩)
    (q_Wood_longer_by_one : PySem.W.codeIn K cd_Wood_longer_by_one "Wood.longer_by_one" = true)
    (k_Wood_longer_by_one : PySem.W.keepIn K (.ref f_Wood_longer_by_one) = true)
    (a_Wood_renew_tops : PySem.W.findIn K (.ref C_Wood) "renew_tops" = some (some (.ref f_Wood_renew_tops)))
    (i_Wood_renew_tops : PySem.W.isFn K (.ref f_Wood_renew_tops) = true)
    (l_Wood_renew_tops : K.lookup f_Wood_renew_tops = some ⟨oc_Wood_renew_tops, od_Wood_renew_tops, .func (PySem.W.fnOf "renew_tops" "Wood.renew_tops" (defArgs s_Wood_renew_tops) (defBody s_Wood_renew_tops) (defScope s_Wood_renew_tops) .none kV_Wood_renew_tops dc_Wood_renew_tops pm_Wood_renew_tops an_Wood_renew_tops cd_Wood_renew_tops ct_Wood_renew_tops), sl_Wood_renew_tops⟩)
    (q_Wood_renew_tops : PySem.W.codeIn K cd_Wood_renew_tops "Wood.renew_tops" = true)
    (k_Wood_renew_tops : PySem.W.keepIn K (.ref f_Wood_renew_tops) = true)
    (a_Wood_put : PySem.W.findIn K (.ref C_Wood) "put" = some (some (.ref f_Wood_put)))
    (i_Wood_put : PySem.W.isFn K (.ref f_Wood_put) = true)
    (l_Wood_put : K.lookup f_Wood_put = some ⟨oc_Wood_put, od_Wood_put, .func (PySem.W.fnOf "put" "Wood.put" (defArgs s_Wood_put) (defBody s_Wood_put) (defScope s_Wood_put) .none kV_Wood_put dc_Wood_put pm_Wood_put an_Wood_put cd_Wood_put ct_Wood_put), sl_Wood_put⟩)
    (q_Wood_put : PySem.W.codeIn K cd_Wood_put "Wood.put" = true)
    (k_Wood_put : PySem.W.keepIn K (.ref f_Wood_put) = true)
    (a_Wood_use : PySem.W.findIn K (.ref C_Wood) "use" = some (some (.ref f_Wood_use)))
    (i_Wood_use : PySem.W.isFn K (.ref f_Wood_use) = true)
    (l_Wood_use : K.lookup f_Wood_use = some ⟨oc_Wood_use, od_Wood_use, .func (PySem.W.fnOf "use" "Wood.use" (defArgs s_Wood_use) (defBody s_Wood_use) (defScope s_Wood_use) (.ref td_Wood_use) kV_Wood_use dc_Wood_use pm_Wood_use an_Wood_use cd_Wood_use ct_Wood_use), sl_Wood_use⟩)
    (q_Wood_use : PySem.W.codeIn K cd_Wood_use "Wood.use" = true)
    (k_Wood_use : PySem.W.keepIn K (.ref f_Wood_use) = true)
    (t_Wood_use : K.lookup td_Wood_use = some ⟨tc_Wood_use, to_Wood_use, .seq #[.int 1 tt_Wood_use] tn_Wood_use, ts_Wood_use⟩)
    (a_Wood_strike : PySem.W.findIn K (.ref C_Wood) "strike" = some (some (.ref f_Wood_strike)))
    (i_Wood_strike : PySem.W.isFn K (.ref f_Wood_strike) = true)
    (l_Wood_strike : K.lookup f_Wood_strike = some ⟨oc_Wood_strike, od_Wood_strike, .func (PySem.W.fnOf "strike" "Wood.strike" (defArgs s_Wood_strike) (defBody s_Wood_strike) (defScope s_Wood_strike) .none kV_Wood_strike dc_Wood_strike pm_Wood_strike an_Wood_strike cd_Wood_strike ct_Wood_strike), sl_Wood_strike⟩)
    (q_Wood_strike : PySem.W.codeIn K cd_Wood_strike "Wood.strike" = true)
    (k_Wood_strike : PySem.W.keepIn K (.ref f_Wood_strike) = true)
    (a_law_box : PySem.W.nsIn K mainGlobals "_law_box" = some (some (.ref f_law_box)))
    (l_law_box : K.lookup f_law_box = some ⟨oc_law_box, od_law_box, .func (PySem.W.fnOf "_law_box" "_law_box" (defArgs s_law_box) (defBody s_law_box) (defScope s_law_box) .none kV_law_box dc_law_box pm_law_box an_law_box cd_law_box ct_law_box), sl_law_box⟩)
    (q_law_box : PySem.W.codeIn K cd_law_box "_law_box" = true)
    (k_law_box : PySem.W.keepIn K (.ref f_law_box) = true)
    (a_law_cell_at : PySem.W.nsIn K mainGlobals "_law_cell_at" = some (some (.ref f_law_cell_at)))
    (l_law_cell_at : K.lookup f_law_cell_at = some ⟨oc_law_cell_at, od_law_cell_at, .func (PySem.W.fnOf "_law_cell_at" "_law_cell_at" (defArgs s_law_cell_at) (defBody s_law_cell_at) (defScope s_law_cell_at) .none kV_law_cell_at dc_law_cell_at pm_law_cell_at an_law_cell_at cd_law_cell_at ct_law_cell_at), sl_law_cell_at⟩)
    (q_law_cell_at : PySem.W.codeIn K cd_law_cell_at "_law_cell_at" = true)
    (k_law_cell_at : PySem.W.keepIn K (.ref f_law_cell_at) = true)
    (a_law_take : PySem.W.nsIn K mainGlobals "_law_take" = some (some (.ref f_law_take)))
    (l_law_take : K.lookup f_law_take = some ⟨oc_law_take, od_law_take, .func (PySem.W.fnOf "_law_take" "_law_take" (defArgs s_law_take) (defBody s_law_take) (defScope s_law_take) .none kV_law_take dc_law_take pm_law_take an_law_take cd_law_take ct_law_take), sl_law_take⟩)
    (q_law_take : PySem.W.codeIn K cd_law_take "_law_take" = true)
    (k_law_take : PySem.W.keepIn K (.ref f_law_take) = true)
    (a_law_is_word : PySem.W.nsIn K mainGlobals "_law_is_word" = some (some (.ref f_law_is_word)))
    (l_law_is_word : K.lookup f_law_is_word = some ⟨oc_law_is_word, od_law_is_word, .func (PySem.W.fnOf "_law_is_word" "_law_is_word" (defArgs s_law_is_word) (defBody s_law_is_word) (defScope s_law_is_word) .none kV_law_is_word dc_law_is_word pm_law_is_word an_law_is_word cd_law_is_word ct_law_is_word), sl_law_is_word⟩)
    (q_law_is_word : PySem.W.codeIn K cd_law_is_word "_law_is_word" = true)
    (k_law_is_word : PySem.W.keepIn K (.ref f_law_is_word) = true)
    (a_law_word : PySem.W.nsIn K mainGlobals "_law_word" = some (some (.ref f_law_word)))
    (l_law_word : K.lookup f_law_word = some ⟨oc_law_word, od_law_word, .func (PySem.W.fnOf "_law_word" "_law_word" (defArgs s_law_word) (defBody s_law_word) (defScope s_law_word) .none kV_law_word dc_law_word pm_law_word an_law_word cd_law_word ct_law_word), sl_law_word⟩)
    (q_law_word : PySem.W.codeIn K cd_law_word "_law_word" = true)
    (k_law_word : PySem.W.keepIn K (.ref f_law_word) = true)
    (a_law_next_word : PySem.W.nsIn K mainGlobals "_law_next_word" = some (some (.ref f_law_next_word)))
    (l_law_next_word : K.lookup f_law_next_word = some ⟨oc_law_next_word, od_law_next_word, .func (PySem.W.fnOf "_law_next_word" "_law_next_word" (defArgs s_law_next_word) (defBody s_law_next_word) (defScope s_law_next_word) .none kV_law_next_word dc_law_next_word pm_law_next_word an_law_next_word cd_law_next_word ct_law_next_word), sl_law_next_word⟩)
    (q_law_next_word : PySem.W.codeIn K cd_law_next_word "_law_next_word" = true)
    (k_law_next_word : PySem.W.keepIn K (.ref f_law_next_word) = true)
    (a_worth_at : PySem.W.nsIn K mainGlobals "worth_at" = some (some (.ref f_worth_at)))
    (l_worth_at : K.lookup f_worth_at = some ⟨oc_worth_at, od_worth_at, .func (PySem.W.fnOf "worth_at" "worth_at" (defArgs s_worth_at) (defBody s_worth_at) (defScope s_worth_at) .none kV_worth_at dc_worth_at pm_worth_at an_worth_at cd_worth_at ct_worth_at), sl_worth_at⟩)
    (q_worth_at : PySem.W.codeIn K cd_worth_at "worth_at" = true)
    (k_worth_at : PySem.W.keepIn K (.ref f_worth_at) = true)
    (a_law_stands : PySem.W.nsIn K mainGlobals "_law_stands" = some (some (.ref f_law_stands)))
    (l_law_stands : K.lookup f_law_stands = some ⟨oc_law_stands, od_law_stands, .func (PySem.W.fnOf "_law_stands" "_law_stands" (defArgs s_law_stands) (defBody s_law_stands) (defScope s_law_stands) .none kV_law_stands dc_law_stands pm_law_stands an_law_stands cd_law_stands ct_law_stands), sl_law_stands⟩)
    (q_law_stands : PySem.W.codeIn K cd_law_stands "_law_stands" = true)
    (k_law_stands : PySem.W.keepIn K (.ref f_law_stands) = true)
    (a_law_times : PySem.W.nsIn K mainGlobals "_law_times" = some (some (.ref f_law_times)))
    (l_law_times : K.lookup f_law_times = some ⟨oc_law_times, od_law_times, .func (PySem.W.fnOf "_law_times" "_law_times" (defArgs s_law_times) (defBody s_law_times) (defScope s_law_times) .none kV_law_times dc_law_times pm_law_times an_law_times cd_law_times ct_law_times), sl_law_times⟩)
    (q_law_times : PySem.W.codeIn K cd_law_times "_law_times" = true)
    (k_law_times : PySem.W.keepIn K (.ref f_law_times) = true)
    (a_law_faded : PySem.W.nsIn K mainGlobals "_law_faded" = some (some (.ref f_law_faded)))
    (l_law_faded : K.lookup f_law_faded = some ⟨oc_law_faded, od_law_faded, .func (PySem.W.fnOf "_law_faded" "_law_faded" (defArgs s_law_faded) (defBody s_law_faded) (defScope s_law_faded) .none kV_law_faded dc_law_faded pm_law_faded an_law_faded cd_law_faded ct_law_faded), sl_law_faded⟩)
    (q_law_faded : PySem.W.codeIn K cd_law_faded "_law_faded" = true)
    (k_law_faded : PySem.W.keepIn K (.ref f_law_faded) = true)
    (a_law_fade : PySem.W.nsIn K mainGlobals "_law_fade" = some (some (.ref f_law_fade)))
    (l_law_fade : K.lookup f_law_fade = some ⟨oc_law_fade, od_law_fade, .func (PySem.W.fnOf "_law_fade" "_law_fade" (defArgs s_law_fade) (defBody s_law_fade) (defScope s_law_fade) .none kV_law_fade dc_law_fade pm_law_fade an_law_fade cd_law_fade ct_law_fade), sl_law_fade⟩)
    (q_law_fade : PySem.W.codeIn K cd_law_fade "_law_fade" = true)
    (k_law_fade : PySem.W.keepIn K (.ref f_law_fade) = true)
    (a_greatest_at : PySem.W.nsIn K mainGlobals "greatest_at" = some (some (.ref f_greatest_at)))
    (l_greatest_at : K.lookup f_greatest_at = some ⟨oc_greatest_at, od_greatest_at, .func (PySem.W.fnOf "greatest_at" "greatest_at" (defArgs s_greatest_at) (defBody s_greatest_at) (defScope s_greatest_at) .none kV_greatest_at dc_greatest_at pm_greatest_at an_greatest_at cd_greatest_at ct_greatest_at), sl_greatest_at⟩)
    (q_greatest_at : PySem.W.codeIn K cd_greatest_at "greatest_at" = true)
    (k_greatest_at : PySem.W.keepIn K (.ref f_greatest_at) = true)
    (a_is_part : PySem.W.nsIn K mainGlobals "is_part" = some (some (.ref f_is_part)))
    (l_is_part : K.lookup f_is_part = some ⟨oc_is_part, od_is_part, .func (PySem.W.fnOf "is_part" "is_part" (defArgs s_is_part) (defBody s_is_part) (defScope s_is_part) .none kV_is_part dc_is_part pm_is_part an_is_part cd_is_part ct_is_part), sl_is_part⟩)
    (q_is_part : PySem.W.codeIn K cd_is_part "is_part" = true)
    (k_is_part : PySem.W.keepIn K (.ref f_is_part) = true)
    (a_is_word : PySem.W.nsIn K mainGlobals "is_word" = some (some (.ref f_is_word)))
    (l_is_word : K.lookup f_is_word = some ⟨oc_is_word, od_is_word, .func (PySem.W.fnOf "is_word" "is_word" (defArgs s_is_word) (defBody s_is_word) (defScope s_is_word) .none kV_is_word dc_is_word pm_is_word an_is_word cd_is_word ct_is_word), sl_is_word⟩)
    (q_is_word : PySem.W.codeIn K cd_is_word "is_word" = true)
    (k_is_word : PySem.W.keepIn K (.ref f_is_word) = true)
    (a_law_put : PySem.W.nsIn K mainGlobals "_law_put" = some (some (.ref f_law_put)))
    (l_law_put : K.lookup f_law_put = some ⟨oc_law_put, od_law_put, .func (PySem.W.fnOf "_law_put" "_law_put" (defArgs s_law_put) (defBody s_law_put) (defScope s_law_put) .none kV_law_put dc_law_put pm_law_put an_law_put cd_law_put ct_law_put), sl_law_put⟩)
    (q_law_put : PySem.W.codeIn K cd_law_put "_law_put" = true)
    (k_law_put : PySem.W.keepIn K (.ref f_law_put) = true)
    (a_used_mark : PySem.W.nsIn K mainGlobals "used_mark" = some (some (.ref f_used_mark)))
    (l_used_mark : K.lookup f_used_mark = some ⟨oc_used_mark, od_used_mark, .func (PySem.W.fnOf "used_mark" "used_mark" (defArgs s_used_mark) (defBody s_used_mark) (defScope s_used_mark) .none kV_used_mark dc_used_mark pm_used_mark an_used_mark cd_used_mark ct_used_mark), sl_used_mark⟩)
    (q_used_mark : PySem.W.codeIn K cd_used_mark "used_mark" = true)
    (k_used_mark : PySem.W.keepIn K (.ref f_used_mark) = true)
    (a_law_use : PySem.W.nsIn K mainGlobals "_law_use" = some (some (.ref f_law_use)))
    (l_law_use : K.lookup f_law_use = some ⟨oc_law_use, od_law_use, .func (PySem.W.fnOf "_law_use" "_law_use" (defArgs s_law_use) (defBody s_law_use) (defScope s_law_use) .none kV_law_use dc_law_use pm_law_use an_law_use cd_law_use ct_law_use), sl_law_use⟩)
    (q_law_use : PySem.W.codeIn K cd_law_use "_law_use" = true)
    (k_law_use : PySem.W.keepIn K (.ref f_law_use) = true)
    (a_law_count : PySem.W.nsIn K mainGlobals "_law_count" = some (some (.ref f_law_count)))
    (l_law_count : K.lookup f_law_count = some ⟨oc_law_count, od_law_count, .func (PySem.W.fnOf "_law_count" "_law_count" (defArgs s_law_count) (defBody s_law_count) (defScope s_law_count) .none kV_law_count dc_law_count pm_law_count an_law_count cd_law_count ct_law_count), sl_law_count⟩)
    (q_law_count : PySem.W.codeIn K cd_law_count "_law_count" = true)
    (k_law_count : PySem.W.keepIn K (.ref f_law_count) = true)
    (a_law_deed : PySem.W.nsIn K mainGlobals "_law_deed" = some (some (.ref f_law_deed)))
    (l_law_deed : K.lookup f_law_deed = some ⟨oc_law_deed, od_law_deed, .func (PySem.W.fnOf "_law_deed" "_law_deed" (defArgs s_law_deed) (defBody s_law_deed) (defScope s_law_deed) .none kV_law_deed dc_law_deed pm_law_deed an_law_deed cd_law_deed ct_law_deed), sl_law_deed⟩)
    (q_law_deed : PySem.W.codeIn K cd_law_deed "_law_deed" = true)
    (k_law_deed : PySem.W.keepIn K (.ref f_law_deed) = true)
    (a_law : PySem.W.nsIn K mainGlobals "law" = some (some (.ref f_law)))
    (l_law : K.lookup f_law = some ⟨oc_law, od_law, .func (PySem.W.fnOf "law" "law" (defArgs s_law) (defBody s_law) (defScope s_law) .none kV_law dc_law pm_law an_law cd_law ct_law), sl_law⟩)
    (q_law : PySem.W.codeIn K cd_law "law" = true)
    (k_law : PySem.W.keepIn K (.ref f_law) = true)
    (z_bool : PySem.W.nsIn K mainGlobals "bool" = some none)
    (z_isinstance : PySem.W.nsIn K mainGlobals "isinstance" = some none)
    (z_len : PySem.W.nsIn K mainGlobals "len" = some none)
    (z_list : PySem.W.nsIn K mainGlobals "list" = some none)
    (z_max : PySem.W.nsIn K mainGlobals "max" = some none)
    (z_min : PySem.W.nsIn K mainGlobals "min" = some none)
    (z_range : PySem.W.nsIn K mainGlobals "range" = some none)
    (z_sorted : PySem.W.nsIn K mainGlobals "sorted" = some none)
    (z_str : PySem.W.nsIn K mainGlobals "str" = some none)
    (z_tuple : PySem.W.nsIn K mainGlobals "tuple" = some none)
    (z_LETTERS : PySem.W.nsIn K mainGlobals "LETTERS" = some (some (.str "abcdefghijklmnopqrstuvwxyz" tk_LETTERS)))
    (z_SIGNS : PySem.W.nsIn K mainGlobals "SIGNS" = some (some (.str " abcdefghijklmnopqrstuvwxyz" tk_SIGNS))) :
    ∃ fd : FuncData, (∀ (s : Shared) (v : Value), BindsTo s fd ⟨[v], []⟩ [("_law_script", v)]) ∧ ∀ base : Heap, K.In base → base.Ns mainGlobals mg → FnOk l.prog w K mg base (L2.CX l.prog w) 7 fa fd ["_law_script"] (spLaw K) := by
  have e := hfa.symm.trans (PySem.W.mg_of X G a_law)
  cases e
  have T : Top K mg C_Wood X_Absent X_NoWord X_Twice := ⟨⟨pg_Wood, hd_Wood, po_Wood, sa_Wood⟩,
    na_Wood_marks,
    na_Wood_tops,
    na_Wood_now,
    ⟨xc_Absent, PySem.W.mg_of X G a_Absent, kc_Absent, sb_Absent, ty_Absent⟩,
    ⟨xc_NoWord, PySem.W.mg_of X G a_NoWord, kc_NoWord, sb_NoWord, ty_NoWord⟩,
    ⟨xc_Twice, PySem.W.mg_of X G a_Twice, kc_Twice, sb_Twice, ty_Twice⟩,
    init_mk (st := s_Wood___init__) (PySem.W.mg_of X G a_Wood) mk_Wood kc_Wood a_Wood___init__ i_Wood___init__ l_Wood___init__ q_Wood___init__ k_Wood___init__ (fun _ _ _ _ _ _ us hl => match us, hl with | [_], _ => rfl),
    meth_mk (st := s_Wood_put) ⟨pg_Wood, hd_Wood, po_Wood, sa_Wood⟩ a_Wood_put i_Wood_put l_Wood_put q_Wood_put k_Wood_put (fun _ _ _ _ _ _ us hl => match us, hl with | [_, _, _], _ => rfl),
    meth_mkD (st := s_Wood_use) ⟨pg_Wood, hd_Wood, po_Wood, sa_Wood⟩ a_Wood_use i_Wood_use l_Wood_use q_Wood_use k_Wood_use t_Wood_use rfl ⟨_, rfl⟩ 2 rfl (fun _ _ _ _ _ _ _ us its h1 h2 => match us, its, h1, h2 with | [_, _, _], [_], _, _ => ⟨_, rfl, rfl⟩) (fun _ _ _ _ _ _ _ us its h1 h2 => match us, its, h1, h2 with | [_, _], [_], _, _ => ⟨_, rfl, rfl⟩),
    meth_mk (st := s_Wood_strike) ⟨pg_Wood, hd_Wood, po_Wood, sa_Wood⟩ a_Wood_strike i_Wood_strike l_Wood_strike q_Wood_strike k_Wood_strike (fun _ _ _ _ _ _ us hl => match us, hl with | [_, _], _ => rfl),
    meth_mkD (st := s_Wood_fade) ⟨pg_Wood, hd_Wood, po_Wood, sa_Wood⟩ a_Wood_fade i_Wood_fade l_Wood_fade q_Wood_fade k_Wood_fade t_Wood_fade rfl ⟨_, rfl⟩ 1 rfl (fun _ _ _ _ _ _ _ us its h1 h2 => match us, its, h1, h2 with | [_, _], [_], _, _ => ⟨_, rfl, rfl⟩) (fun _ _ _ _ _ _ _ us its h1 h2 => match us, its, h1, h2 with | [_], [_], _, _ => ⟨_, rfl, rfl⟩),
    meth_mk (st := s_Wood_era) ⟨pg_Wood, hd_Wood, po_Wood, sa_Wood⟩ a_Wood_era i_Wood_era l_Wood_era q_Wood_era k_Wood_era (fun _ _ _ _ _ _ us hl => match us, hl with | [_], _ => rfl),
    meth_mk (st := s_Wood_has) ⟨pg_Wood, hd_Wood, po_Wood, sa_Wood⟩ a_Wood_has i_Wood_has l_Wood_has q_Wood_has k_Wood_has (fun _ _ _ _ _ _ us hl => match us, hl with | [_, _], _ => rfl),
    meth_mk (st := s_Wood_worth_of) ⟨pg_Wood, hd_Wood, po_Wood, sa_Wood⟩ a_Wood_worth_of i_Wood_worth_of l_Wood_worth_of q_Wood_worth_of k_Wood_worth_of (fun _ _ _ _ _ _ us hl => match us, hl with | [_, _], _ => rfl),
    meth_mk (st := s_Wood_words) ⟨pg_Wood, hd_Wood, po_Wood, sa_Wood⟩ a_Wood_words i_Wood_words l_Wood_words q_Wood_words k_Wood_words (fun _ _ _ _ _ _ us hl => match us, hl with | [_], _ => rfl),
    meth_mk (st := s_Wood_ask_there) ⟨pg_Wood, hd_Wood, po_Wood, sa_Wood⟩ a_Wood_ask_there i_Wood_ask_there l_Wood_ask_there q_Wood_ask_there k_Wood_ask_there (fun _ _ _ _ _ _ us hl => match us, hl with | [_, _], _ => rfl),
    meth_mk (st := s_Wood_longer_by_one) ⟨pg_Wood, hd_Wood, po_Wood, sa_Wood⟩ a_Wood_longer_by_one i_Wood_longer_by_one l_Wood_longer_by_one q_Wood_longer_by_one k_Wood_longer_by_one (fun _ _ _ _ _ _ us hl => match us, hl with | [_, _], _ => rfl),
    meth_mk (st := s_Wood_renew_tops) ⟨pg_Wood, hd_Wood, po_Wood, sa_Wood⟩ a_Wood_renew_tops i_Wood_renew_tops l_Wood_renew_tops q_Wood_renew_tops k_Wood_renew_tops (fun _ _ _ _ _ _ us hl => match us, hl with | [_, _], _ => rfl),
    PySem.W.mg_none_of X G z_bool,
    PySem.W.mg_none_of X G z_isinstance,
    PySem.W.mg_none_of X G z_len,
    PySem.W.mg_none_of X G z_list,
    PySem.W.mg_none_of X G z_max,
    PySem.W.mg_none_of X G z_min,
    PySem.W.mg_none_of X G z_range,
    PySem.W.mg_none_of X G z_sorted,
    PySem.W.mg_none_of X G z_str,
    PySem.W.mg_none_of X G z_tuple,
    ⟨_, PySem.W.mg_of X G z_LETTERS⟩,
    ⟨_, PySem.W.mg_of X G z_SIGNS⟩,
    ⟨_, _, fun_mk (st := s_is_part) l_is_part q_is_part k_is_part, PySem.W.mg_of X G a_is_part⟩,
    ⟨_, _, fun_mk (st := s_is_word) l_is_word q_is_word k_is_word, PySem.W.mg_of X G a_is_word⟩,
    ⟨_, _, fun_mk (st := s_worth_at) l_worth_at q_worth_at k_worth_at, PySem.W.mg_of X G a_worth_at⟩,
    ⟨_, _, fun_mk (st := s_used_mark) l_used_mark q_used_mark k_used_mark, PySem.W.mg_of X G a_used_mark⟩,
    ⟨_, _, fun_mk (st := s_greatest_at) l_greatest_at q_greatest_at k_greatest_at, PySem.W.mg_of X G a_greatest_at⟩,
    ⟨_, _, fun_mk (st := s_law_cell_at) l_law_cell_at q_law_cell_at k_law_cell_at, PySem.W.mg_of X G a_law_cell_at⟩,
    ⟨_, _, fun_mk (st := s_law_box) l_law_box q_law_box k_law_box, PySem.W.mg_of X G a_law_box⟩,
    ⟨_, _, fun_mk (st := s_law_take) l_law_take q_law_take k_law_take, PySem.W.mg_of X G a_law_take⟩,
    ⟨_, _, fun_mk (st := s_law_is_word) l_law_is_word q_law_is_word k_law_is_word, PySem.W.mg_of X G a_law_is_word⟩,
    ⟨_, _, fun_mk (st := s_law_word) l_law_word q_law_word k_law_word, PySem.W.mg_of X G a_law_word⟩,
    ⟨_, _, fun_mk (st := s_law_next_word) l_law_next_word q_law_next_word k_law_next_word, PySem.W.mg_of X G a_law_next_word⟩,
    ⟨_, _, fun_mk (st := s_law_count) l_law_count q_law_count k_law_count, PySem.W.mg_of X G a_law_count⟩,
    ⟨_, _, fun_mk (st := s_law_times) l_law_times q_law_times k_law_times, PySem.W.mg_of X G a_law_times⟩,
    ⟨_, _, fun_mk (st := s_law_faded) l_law_faded q_law_faded k_law_faded, PySem.W.mg_of X G a_law_faded⟩,
    ⟨_, _, fun_mk (st := s_law_put) l_law_put q_law_put k_law_put, PySem.W.mg_of X G a_law_put⟩,
    ⟨_, _, fun_mk (st := s_law_use) l_law_use q_law_use k_law_use, PySem.W.mg_of X G a_law_use⟩,
    ⟨_, _, fun_mk (st := s_law_fade) l_law_fade q_law_fade k_law_fade, PySem.W.mg_of X G a_law_fade⟩,
    ⟨_, _, fun_mk (st := s_law_deed) l_law_deed q_law_deed k_law_deed, PySem.W.mg_of X G a_law_deed⟩,
    ⟨_, _, fun_mk (st := s_law_stands) l_law_stands q_law_stands k_law_stands, PySem.W.mg_of X G a_law_stands⟩⟩
  have F_law_box := fun (base : Heap) => ok_law_box (P := l.prog) (w := w) (base := base) T 
  have F_Wood___init__ := fun (base : Heap) => ok_Wood___init__ (P := l.prog) (w := w) (base := base) T 
  have F_law_cell_at := fun (base : Heap) => ok_law_cell_at (P := l.prog) (w := w) (base := base) T 
  have F_law_take := fun (base : Heap) => ok_law_take (P := l.prog) (w := w) (base := base) T 
  have F_law_is_word := fun (base : Heap) => ok_law_is_word (P := l.prog) (w := w) (base := base) T 
  have F_law_word := fun (base : Heap) => ok_law_word (P := l.prog) (w := w) (base := base) T (F_law_take base)
  have F_law_next_word := fun (base : Heap) => ok_law_next_word (P := l.prog) (w := w) (base := base) T (F_law_is_word base) (F_law_take base) (F_law_word base)
  have F_worth_at := fun (base : Heap) => ok_worth_at (P := l.prog) (w := w) (base := base) T 
  have F_Wood_words := fun (base : Heap) => ok_Wood_words (P := l.prog) (w := w) (base := base) T (F_worth_at base)
  have F_Wood_era := fun (base : Heap) => ok_Wood_era (P := l.prog) (w := w) (base := base) T 
  have F_Wood_ask_there := fun (base : Heap) => ok_Wood_ask_there (P := l.prog) (w := w) (base := base) T 
  have F_Wood_worth_of := fun (base : Heap) => ok_Wood_worth_of (P := l.prog) (w := w) (base := base) T (F_Wood_ask_there base) (F_worth_at base)
  have F_Wood_has := fun (base : Heap) => ok_Wood_has (P := l.prog) (w := w) (base := base) T 
  have F_law_stands := fun (base : Heap) => ok_law_stands (P := l.prog) (w := w) (base := base) T (F_Wood_era base) (F_Wood_has base) (F_Wood_words base) (F_Wood_worth_of base)
  have F_law_times := fun (base : Heap) => ok_law_times (P := l.prog) (w := w) (base := base) T (F_law_take base)
  have F_law_faded := fun (base : Heap) => ok_law_faded (P := l.prog) (w := w) (base := base) T 
  have F_Wood_fade := fun (base : Heap) => ok_Wood_fade (P := l.prog) (w := w) (base := base) T 
  have F_law_fade := fun (base : Heap) => ok_law_fade (P := l.prog) (w := w) (base := base) T (F_Wood_fade base) (F_law_faded base) (F_law_times base)
  have F_Wood_longer_by_one := fun (base : Heap) => ok_Wood_longer_by_one (P := l.prog) (w := w) (base := base) T 
  have F_greatest_at := fun (base : Heap) => ok_greatest_at (P := l.prog) (w := w) (base := base) T (F_worth_at base)
  have F_Wood_renew_tops := fun (base : Heap) => ok_Wood_renew_tops (P := l.prog) (w := w) (base := base) T (F_Wood_longer_by_one base) (F_greatest_at base)
  have F_is_part := fun (base : Heap) => ok_is_part (P := l.prog) (w := w) (base := base) T 
  have F_is_word := fun (base : Heap) => ok_is_word (P := l.prog) (w := w) (base := base) T (F_is_part base)
  have F_Wood_put := fun (base : Heap) => ok_Wood_put (P := l.prog) (w := w) (base := base) T (F_Wood_renew_tops base) (F_is_word base)
  have F_law_put := fun (base : Heap) => ok_law_put (P := l.prog) (w := w) (base := base) T (F_Wood_put base)
  have F_used_mark := fun (base : Heap) => ok_used_mark (P := l.prog) (w := w) (base := base) T (F_worth_at base)
  have F_Wood_use := fun (base : Heap) => ok_Wood_use (P := l.prog) (w := w) (base := base) T (F_Wood_ask_there base) (F_Wood_renew_tops base) (F_used_mark base)
  have F_law_use := fun (base : Heap) => ok_law_use (P := l.prog) (w := w) (base := base) T (F_Wood_use base) (F_law_times base)
  have F_Wood_strike := fun (base : Heap) => ok_Wood_strike (P := l.prog) (w := w) (base := base) T (F_Wood_ask_there base) (F_Wood_renew_tops base)
  have F_law_count := fun (base : Heap) => ok_law_count (P := l.prog) (w := w) (base := base) T (F_law_take base)
  have F_law_deed := fun (base : Heap) => ok_law_deed (P := l.prog) (w := w) (base := base) T (F_Wood_strike base) (F_law_count base) (F_law_fade base) (F_law_next_word base) (F_law_put base) (F_law_take base) (F_law_use base)
  exact ⟨PySem.W.fnOf "law" "law" (defArgs s_law) (defBody s_law) (defScope s_law) .none kV_law dc_law pm_law an_law cd_law ct_law, fun s v => .of_eq rfl, fun base _ _ => okF_law (base := base) T (fun_mk (st := s_law) l_law q_law k_law) (F_Wood___init__ base) (F_law_box base) (F_law_cell_at base) (F_law_count base) (F_law_deed base) (F_law_next_word base) (F_law_put base) (F_law_stands base) (F_law_take base)⟩
theorem walk {l : PySem.W.OpenLaw} {q : Program} {loose : List Str} {XP : (Str → Option Value) → Heap → Prop} {YP : World → Heap → Prop} {d : DefRec} {K : Params → PySem.W.Frag} (hn : l.most = some 63) (hdf : d.params.defaults = [])
    (hY : ∀ (w : World) (h : Heap), YP w h → (K w.params).In h)
    (F : ∀ (w : World) (mg : Str → Option Value) (fa : Addr) (h : Heap), (K w.params).In h → h.Ns mainGlobals mg → mg d.name = some (.ref fa) →
      ∃ fd : FuncData, (∀ (s : Shared) (u : Value), BindsTo s fd ⟨[u], []⟩ [("_law_script", u)]) ∧ ∀ base : Heap, (K w.params).In base → base.Ns mainGlobals mg → FnOk l.prog w (K w.params) mg base (L2.CX l.prog w) 7 fa fd ["_law_script"] (spLaw (K w.params))) :
    PySem.W.WalkO q loose XP YP l.row.toRowW d [] (fun f vs => PySem.call f vs) :=
  L2.walk_of (n := 63) (k := 7) (x := "_law_script") (CX := fun w => L2.CX l.prog w) (sp := fun w => spLaw (K w.params)) hn (by decide) hdf ⟨rfl, by decide, by decide⟩ hY F (fun _ _ a ns hl _ hS => ⟨a, ns, rfl, hS, hl, fun _ => rfl⟩) fun _ _ _ _ _ z => by
    obtain ⟨_, _, _, _, _, _, _, _, _, _, _, _, z⟩ := z
    exact z
end Ah
open PySem PySem.W PyProof.Rows
set_option maxRecDepth 100000 in
set_option maxHeartbeats 0 in
theorem PySem.Challenge.cw_aheadword_k06_wood_deeds_holds : PySem.Challenge.rw_aheadword_k06_wood_deeds.Holds := by
  w_on; o_law; k_head; (case hw => w_witness2)
  k_fill
  refine Ah.walk (l := PySem.Challenge.rw_aheadword_k06_wood_deeds) rfl rfl (fun w h Y => PySem.W.kIn_of Y) ?F
  case F =>
    intro w mg fa h KX G hmg
    refine' Ah.all_mk KX G hmg ?a_Wood ?pg_Wood ?hd_Wood ?po_Wood ?sa_Wood ?mk_Wood ?kc_Wood ?na_Wood_marks ?na_Wood_tops ?na_Wood_now ?a_Absent ?xc_Absent ?kc_Absent ?sb_Absent ?ty_Absent ?a_NoWord ?xc_NoWord ?kc_NoWord ?sb_NoWord ?ty_NoWord ?a_Twice ?xc_Twice ?kc_Twice ?sb_Twice ?ty_Twice ?a_Wood___init__ ?i_Wood___init__ ?l_Wood___init__ ?q_Wood___init__ ?k_Wood___init__ ?a_Wood_words ?i_Wood_words ?l_Wood_words ?q_Wood_words ?k_Wood_words ?a_Wood_era ?i_Wood_era ?l_Wood_era ?q_Wood_era ?k_Wood_era ?a_Wood_ask_there ?i_Wood_ask_there ?l_Wood_ask_there ?q_Wood_ask_there ?k_Wood_ask_there ?a_Wood_worth_of ?i_Wood_worth_of ?l_Wood_worth_of ?q_Wood_worth_of ?k_Wood_worth_of ?a_Wood_has ?i_Wood_has ?l_Wood_has ?q_Wood_has ?k_Wood_has ?a_Wood_fade ?i_Wood_fade ?l_Wood_fade ?q_Wood_fade ?k_Wood_fade ?t_Wood_fade ?a_Wood_longer_by_one ?i_Wood_longer_by_one ?l_Wood_longer_by_one ?q_Wood_longer_by_one ?k_Wood_longer_by_one ?a_Wood_renew_tops ?i_Wood_renew_tops ?l_Wood_renew_tops ?q_Wood_renew_tops ?k_Wood_renew_tops ?a_Wood_put ?i_Wood_put ?l_Wood_put ?q_Wood_put ?k_Wood_put ?a_Wood_use ?i_Wood_use ?l_Wood_use ?q_Wood_use ?k_Wood_use ?t_Wood_use ?a_Wood_strike ?i_Wood_strike ?l_Wood_strike ?q_Wood_strike ?k_Wood_strike ?a_law_box ?l_law_box ?q_law_box ?k_law_box ?a_law_cell_at ?l_law_cell_at ?q_law_cell_at ?k_law_cell_at ?a_law_take ?l_law_take ?q_law_take ?k_law_take ?a_law_is_word ?l_law_is_word ?q_law_is_word ?k_law_is_word ?a_law_word ?l_law_word ?q_law_word ?k_law_word ?a_law_next_word ?l_law_next_word ?q_law_next_word ?k_law_next_word ?a_worth_at ?l_worth_at ?q_worth_at ?k_worth_at ?a_law_stands ?l_law_stands ?q_law_stands ?k_law_stands ?a_law_times ?l_law_times ?q_law_times ?k_law_times ?a_law_faded ?l_law_faded ?q_law_faded ?k_law_faded ?a_law_fade ?l_law_fade ?q_law_fade ?k_law_fade ?a_greatest_at ?l_greatest_at ?q_greatest_at ?k_greatest_at ?a_is_part ?l_is_part ?q_is_part ?k_is_part ?a_is_word ?l_is_word ?q_is_word ?k_is_word ?a_law_put ?l_law_put ?q_law_put ?k_law_put ?a_used_mark ?l_used_mark ?q_used_mark ?k_used_mark ?a_law_use ?l_law_use ?q_law_use ?k_law_use ?a_law_count ?l_law_count ?q_law_count ?k_law_count ?a_law_deed ?l_law_deed ?q_law_deed ?k_law_deed ?a_law ?l_law ?q_law ?k_law ?z_bool ?z_isinstance ?z_len ?z_list ?z_max ?z_min ?z_range ?z_sorted ?z_str ?z_tuple ?z_LETTERS ?z_SIGNS
    (case a_Wood => k_is)
    (case pg_Wood => k_is)
    (case hd_Wood => k_is)
    (case po_Wood => k_is)
    (case sa_Wood => k_is)
    (case mk_Wood => k_is)
    (case kc_Wood => k_is)
    (case na_Wood_marks => k_is)
    (case na_Wood_tops => k_is)
    (case na_Wood_now => k_is)
    (case a_Absent => k_is)
    (case xc_Absent => k_exc)
    (case kc_Absent => k_is)
    (case sb_Absent => k_is)
    (case ty_Absent => k_is)
    (case a_NoWord => k_is)
    (case xc_NoWord => k_exc)
    (case kc_NoWord => k_is)
    (case sb_NoWord => k_is)
    (case ty_NoWord => k_is)
    (case a_Twice => k_is)
    (case xc_Twice => k_exc)
    (case kc_Twice => k_is)
    (case sb_Twice => k_is)
    (case ty_Twice => k_is)
    (case a_Wood___init__ => k_is)
    (case i_Wood___init__ => k_is)
    (case l_Wood___init__ => k_is)
    (case q_Wood___init__ => k_is)
    (case k_Wood___init__ => k_is)
    (case a_Wood_words => k_is)
    (case i_Wood_words => k_is)
    (case l_Wood_words => k_is)
    (case q_Wood_words => k_is)
    (case k_Wood_words => k_is)
    (case a_Wood_era => k_is)
    (case i_Wood_era => k_is)
    (case l_Wood_era => k_is)
    (case q_Wood_era => k_is)
    (case k_Wood_era => k_is)
    (case a_Wood_ask_there => k_is)
    (case i_Wood_ask_there => k_is)
    (case l_Wood_ask_there => k_is)
    (case q_Wood_ask_there => k_is)
    (case k_Wood_ask_there => k_is)
    (case a_Wood_worth_of => k_is)
    (case i_Wood_worth_of => k_is)
    (case l_Wood_worth_of => k_is)
    (case q_Wood_worth_of => k_is)
    (case k_Wood_worth_of => k_is)
    (case a_Wood_has => k_is)
    (case i_Wood_has => k_is)
    (case l_Wood_has => k_is)
    (case q_Wood_has => k_is)
    (case k_Wood_has => k_is)
    (case a_Wood_fade => k_is)
    (case i_Wood_fade => k_is)
    (case l_Wood_fade => k_is)
    (case q_Wood_fade => k_is)
    (case k_Wood_fade => k_is)
    (case t_Wood_fade => k_is)
    (case a_Wood_longer_by_one => k_is)
    (case i_Wood_longer_by_one => k_is)
    (case l_Wood_longer_by_one => k_is)
    (case q_Wood_longer_by_one => k_is)
    (case k_Wood_longer_by_one => k_is)
    (case a_Wood_renew_tops => k_is)
    (case i_Wood_renew_tops => k_is)
    (case l_Wood_renew_tops => k_is)
    (case q_Wood_renew_tops => k_is)
    (case k_Wood_renew_tops => k_is)
    (case a_Wood_put => k_is)
    (case i_Wood_put => k_is)
    (case l_Wood_put => k_is)
    (case q_Wood_put => k_is)
    (case k_Wood_put => k_is)
    (case a_Wood_use => k_is)
    (case i_Wood_use => k_is)
    (case l_Wood_use => k_is)
    (case q_Wood_use => k_is)
    (case k_Wood_use => k_is)
    (case t_Wood_use => k_is)
    (case a_Wood_strike => k_is)
    (case i_Wood_strike => k_is)
    (case l_Wood_strike => k_is)
    (case q_Wood_strike => k_is)
    (case k_Wood_strike => k_is)
    (case a_law_box => k_is)
    (case l_law_box => k_is)
    (case q_law_box => k_is)
    (case k_law_box => k_is)
    (case a_law_cell_at => k_is)
    (case l_law_cell_at => k_is)
    (case q_law_cell_at => k_is)
    (case k_law_cell_at => k_is)
    (case a_law_take => k_is)
    (case l_law_take => k_is)
    (case q_law_take => k_is)
    (case k_law_take => k_is)
    (case a_law_is_word => k_is)
    (case l_law_is_word => k_is)
    (case q_law_is_word => k_is)
    (case k_law_is_word => k_is)
    (case a_law_word => k_is)
    (case l_law_word => k_is)
    (case q_law_word => k_is)
    (case k_law_word => k_is)
    (case a_law_next_word => k_is)
    (case l_law_next_word => k_is)
    (case q_law_next_word => k_is)
    (case k_law_next_word => k_is)
    (case a_worth_at => k_is)
    (case l_worth_at => k_is)
    (case q_worth_at => k_is)
    (case k_worth_at => k_is)
    (case a_law_stands => k_is)
    (case l_law_stands => k_is)
    (case q_law_stands => k_is)
    (case k_law_stands => k_is)
    (case a_law_times => k_is)
    (case l_law_times => k_is)
    (case q_law_times => k_is)
    (case k_law_times => k_is)
    (case a_law_faded => k_is)
    (case l_law_faded => k_is)
    (case q_law_faded => k_is)
    (case k_law_faded => k_is)
    (case a_law_fade => k_is)
    (case l_law_fade => k_is)
    (case q_law_fade => k_is)
    (case k_law_fade => k_is)
    (case a_greatest_at => k_is)
    (case l_greatest_at => k_is)
    (case q_greatest_at => k_is)
    (case k_greatest_at => k_is)
    (case a_is_part => k_is)
    (case l_is_part => k_is)
    (case q_is_part => k_is)
    (case k_is_part => k_is)
    (case a_is_word => k_is)
    (case l_is_word => k_is)
    (case q_is_word => k_is)
    (case k_is_word => k_is)
    (case a_law_put => k_is)
    (case l_law_put => k_is)
    (case q_law_put => k_is)
    (case k_law_put => k_is)
    (case a_used_mark => k_is)
    (case l_used_mark => k_is)
    (case q_used_mark => k_is)
    (case k_used_mark => k_is)
    (case a_law_use => k_is)
    (case l_law_use => k_is)
    (case q_law_use => k_is)
    (case k_law_use => k_is)
    (case a_law_count => k_is)
    (case l_law_count => k_is)
    (case q_law_count => k_is)
    (case k_law_count => k_is)
    (case a_law_deed => k_is)
    (case l_law_deed => k_is)
    (case q_law_deed => k_is)
    (case k_law_deed => k_is)
    (case a_law => k_is)
    (case l_law => k_is)
    (case q_law => k_is)
    (case k_law => k_is)
    (case z_bool => k_is)
    (case z_isinstance => k_is)
    (case z_len => k_is)
    (case z_list => k_is)
    (case z_max => k_is)
    (case z_min => k_is)
    (case z_range => k_is)
    (case z_sorted => k_is)
    (case z_str => k_is)
    (case z_tuple => k_is)
    (case z_LETTERS => k_is)
    (case z_SIGNS => k_is)
