import PyProof.Rows.All
import Wide.All
import OpenK.AllK
import Wide.FinOn
import HandS.ForMost
import HandS.ForExc
import HandS.IsInst
import HandS.Wide
import HandS.Flow
import HandS.Evl
import HandS.StrMore
import HandS.Walk
import HandS.Sort
import HandS.SortKw
import HandS.More
import HandS.SetFor
import KE.SortData
import KE.SortKeyHeap
import KE.DataMinMax
import KE.DataFind
import KE.KDictSum
import HandS.Defaults
import HandS.ForDict
import HandS.ExcOwn
import HandS.Small
import HandS.TryOnly
import HandS.Conv
import HandS.Iter
import HandS.TryMany
import PyProof.ReprRoads
import PyProof.StrLawsRepr
import HandS.TupLe
import HandS.HotCalls
import HandS.ExcIs
import HandS.CallSlots
import HandS.DictTup
import HandS.Lambda
import HandS.EndTab
import KE.KSortKey
import PySem.Challenge.RW_aheadword_k33_ranked_behind
set_option Elab.async false
set_option linter.all false
set_option maxRecDepth 100000
set_option maxHeartbeats 4000000
set_option Elab.async false
set_option linter.all false
set_option maxRecDepth 100000
set_option maxHeartbeats 4000000
/-! Ah: words of my own over the layer: a def at its name, boxes of draws, what changes and what stays. -/
namespace Ah
open PySem PySem.Spec PyProof.Rows L2
/-- a goal and what it comes down to by one plain step -/
class US (G : Prop) (G2 : outParam Prop) : Prop where
  h : G2 → G

/-- the def x stands behind the top, as the text st says -/
structure DefAt (K : PySem.W.Frag) (mg : Str → Option Value) (x : Str) (st : Stmt) : Prop where
  ex : ∃ (f : Addr) (fd : FuncData), Fun K x x st f fd ∧ mg x = some (.ref f)
/-- the def x keeps the promise sp, by at most k calls one in another -/
structure Fn (P : Program) (w : World) (K : PySem.W.Frag) (mg : Str → Option Value) (base : Heap) (k : Nat) (x : Str) (ps : List Str) (sp : Sp) : Prop where
  ex : ∃ (f : Addr) (fd : FuncData), FnOk P w K mg base (L2.CX P w) k f fd ps sp ∧ mg x = some (.ref f) ∧ PySem.W.keepIn K (.ref f) = true ∧ Binds K fd ps []
section
variable {P : Program} {w : World} {K : PySem.W.Frag} {mg : Str → Option Value} {base : Heap} {j k : Nat} {x : Str} {ps : List Str} {sp sp' : Sp} {st : Stmt} {N : List Str}
theorem Fn.mono (F : Fn P w K mg base j x ps sp) (h : j ≤ k) : Fn P w K mg base k x ps sp := by
  obtain ⟨f, fd, a, b⟩ := F.ex
  exact ⟨f, fd, a.mono h, b⟩
theorem Fn.imp (F : Fn P w K mg base k x ps sp) (h : ∀ vs H Q E, sp' vs H Q E → sp vs H Q E) : Fn P w K mg base k x ps sp' := by
  obtain ⟨f, fd, a, b⟩ := F.ex
  exact ⟨f, fd, a.imp h, b⟩
/-- how arguments bind, as a premise on the text alone -/
abbrev BindOk (x : Str) (st : Stmt) (ps : List Str) : Prop := ∀ (kV doc pm : Value) (an : Option Addr) (cdv ct : Value) (us : List Value), us.length = ps.length → bindArgs (PySem.W.fnOf x x (defArgs st) (defBody st) (defScope st) .none kV doc pm an cdv ct) ⟨us, []⟩ = pure (ps.zip us)
/-- a def that raises nothing -/
theorem DefAt.ok (D : DefAt K mg x st) (S : FnScope N ps (defScope st)) (B : BindOk x st ps) (len : ∀ vs H Q E, sp vs H Q E → vs.length = ps.length)
    (hbody : ∀ (f : Addr) (cdv : Value) (A : Around) (outer : List Env) (s : Shared) (H : Hp) (vs : List V) (Q : VK) (E : XK), Room k (A.deeper (envOfC x (defScope st) s.heap.objs.size f cdv)) → sp vs H Q E →
      ∃ t, PSs (cxOf (L2.CX P w) P w K mg base N x (defScope st) f cdv A outer s H E).nox (defBody st) t ∧ t { nx := fun _ H' => Q .non H', rt := Q } (start N vs) H) : Fn P w K mg base (k + 1) x ps sp := by
  obtain ⟨f, fd, F, m⟩ := D.ex
  refine ⟨f, fd, F.okX S len fun cdv A outer s H vs Q E hr h => ?_, m, F.kp, F.binds B⟩
  obtain ⟨t, h1, h2⟩ := hbody f cdv A outer s H vs Q E hr h
  exact ⟨t, h1.nox, h2⟩
/-- a def that may raise -/
theorem DefAt.okX (D : DefAt K mg x st) (S : FnScope N ps (defScope st)) (B : BindOk x st ps) (len : ∀ vs H Q E, sp vs H Q E → vs.length = ps.length)
    (hbody : ∀ (f : Addr) (cdv : Value) (A : Around) (outer : List Env) (s : Shared) (H : Hp) (vs : List V) (Q : VK) (E : XK), Room k (A.deeper (envOfC x (defScope st) s.heap.objs.size f cdv)) → sp vs H Q E →
      ∃ t, PSs (cxOf (L2.CX P w) P w K mg base N x (defScope st) f cdv A outer s H E) (defBody st) t ∧ t { nx := fun _ H' => Q .non H', rt := Q } (start N vs) H) : Fn P w K mg base (k + 1) x ps sp := by
  obtain ⟨f, fd, F, m⟩ := D.ex
  exact ⟨f, fd, F.okX S len fun cdv A outer s H vs Q E hr h => hbody f cdv A outer s H vs Q E hr h, m, F.kp, F.binds B⟩
end
section
variable {X : Cx} {k : Nat} {ps : List Str} {sp : Sp} {E : XK} {x : Str} {p pos : Pos} {e : Expr} {es : List Expr} {t : TA}
theorem pe_fn (F : Fn X.prog X.w X.K X.mg X.base k x ps sp) (hr : Room k X.A) (hx : Passes (L2.CX X.prog X.w) X E) (ha : PA X (e :: es) t) (hg : Gl X x := by rfl)
    (hdb : (x == ("__debug__" : Str)) = false := by decide) (he : starEach (e :: es) X.env = (false, eval e X.env) :: starEach es X.env := by rfl) (hpl : (backTo pos (starEach es X.env)).any (·.1) = false := by rfl) :
    PE X (.Call (.Name x p) (e :: es) [] pos) (tCall sp [] E t) := by
  obtain ⟨f, fd, a, m, kp, b⟩ := F.ex
  exact pe_call a hr hg m kp b .nil hx ha hdb he hpl
end

/-! ### what stays -/
/-- all but the object at b stays -/
def But (b : Addr) (H H' : Hp) : Prop := ∀ a o, a ≠ b → H a = some o → H' a = some o
theorem But.refl {b : Addr} {H : Hp} : But b H H := fun _ _ _ h => h
theorem But.trans {b : Addr} {H H1 H2 : Hp} (x : But b H H1) (y : But b H1 H2) : But b H H2 := fun a o n h => y a o n (x a o n h)
theorem But.upd {b : Addr} {H H1 : Hp} {o : HO} (x : But b H H1) : But b H (upd H1 b o) := fun a u n h => by rw [upd_ne n]; exact x a u n h
theorem But.new {b p : Addr} {H H1 : Hp} {o : HO} (x : But b H H1) (h : H1 p = none) : But b H (L2.upd H1 p o) := fun a u n e => by
  have := x a u n e
  rw [upd_ne (ne_of_none this h)]; exact this
theorem Same.new {p : Addr} {H H1 : Hp} {o : HO} (x : Same H H1) (h : H1 p = none) : Same H (upd H1 p o) := fun a u e => by
  have := x a u e
  rw [upd_ne (ne_of_none this h)]; exact this
theorem But.of {b : Addr} {H H1 : Hp} (x : Same H H1) : But b H H1 := fun a o _ h => x a o h
theorem But.free {b p : Addr} {H H1 : Hp} {o : HO} (x : But b H H1) (hb : H1 b = some o) (h : H1 p = none) : H p = none := by
  cases e : H p with
  | none => rfl
  | some u => rw [x p u (by rintro rfl; rw [hb] at h; cases h) e] at h; cases h
theorem But.sql {K : PySem.W.Frag} {b a : Addr} {H H1 : Hp} {xs : List V} (x : But b H H1) (n : a ≠ b) (h : SqL K H a xs) : SqL K H1 a xs := by
  rcases h with (h | ⟨o, h⟩) | h
  · exact .inl (.inl (x _ _ n h))
  · exact .inl (.inr ⟨o, x _ _ n h⟩)
  · exact .inr h

/-! ### boxes of draws -/
/-- a box stands at b: four numbers, whichever -/
def BoxAt (H : Hp) (b : Addr) : Prop := ∃ x0 x1 x2 x3 : Int, H b = some (.lst [.int x0, .int x1, .int x2, .int x3])
theorem BoxAt.keep {H H' : Hp} {b c : Addr} (h : BoxAt H b) (x : But c H H') (n : b ≠ c) : BoxAt H' b := by
  obtain ⟨x0, x1, x2, x3, e⟩ := h
  exact ⟨x0, x1, x2, x3, x _ _ n e⟩
theorem BoxAt.new {H : Hp} {b p : Addr} {o : HO} (h : BoxAt H b) (n : H p = none) : BoxAt (upd H p o) b := by
  obtain ⟨x0, x1, x2, x3, e⟩ := h
  exact ⟨x0, x1, x2, x3, by rw [upd_ne (ne_of_none e n)]; exact e⟩
theorem BoxAt.ne {H : Hp} {b p : Addr} (h : BoxAt H b) (n : H p = none) : b ≠ p := by
  obtain ⟨x0, x1, x2, x3, e⟩ := h
  exact ne_of_none e n
/-- a draw: the box's numbers change, the answer lies below the number asked -/
def spTake : Sp := fun vs H Q _ => ∃ (b : Addr) (m : Int), vs = [.ref b, .int m] ∧ BoxAt H b ∧ 0 < m ∧ m < 18446744073709551616 ∧
  ∀ (r : Int) (H' : Hp), 0 ≤ r → r < m → BoxAt H' b → But b H H' → Q (.int r) H'
theorem use_take {H : Hp} {Q : VK} {E : XK} {b : Addr} {m : Int} (hb : BoxAt H b) (hm : 0 < m) (hl : m < 18446744073709551616)
    (k : ∀ (r : Int) (H' : Hp), 0 ≤ r → r < m → BoxAt H' b → But b H H' → Q (.int r) H') : spTake [.ref b, .int m] H Q E := ⟨b, m, rfl, hb, hm, hl, k⟩

/-! ### steps of a reading -/
theorem dT {p : Prop} [Decidable p] {A B : Prop} (h1 : p → A) (h2 : ¬ p → B) : if decide p = true then A else B := by
  by_cases h : p
  · rw [if_pos (decide_eq_true h)]; exact h1 h
  · rw [if_neg (by rw [decide_eq_false h]; decide)]; exact h2 h
theorem dF {p : Prop} [Decidable p] {A B : Prop} (h1 : ¬ p → A) (h2 : p → B) : if (!decide p) = true then A else B := by
  by_cases h : p
  · rw [decide_eq_true h]; exact iteF (h2 h)
  · rw [decide_eq_false h]; exact iteT (h1 h)
theorem bT {c : Bool} {A B : Prop} (h1 : c = true → A) (h2 : c = false → B) : if c = true then A else B := by
  cases c with
  | true => exact iteT (h1 rfl)
  | false => exact iteF (h2 rfl)
/-! ### the readings' steps, as lemmas -/
section
variable {K : PySem.W.Frag} {H : Hp} {Q : VK} {σ : L2.St} {p : Addr} {xs : List V} {i j : Int} {v x y : V}
theorem s_var {n : Nat} (h : σ[n]? = some (some v)) (q : Q v H) : tVar n σ H Q := ⟨v, h, q⟩
theorem s_ii {g : Int → Int → V} (q : Q (g i j) H) : rI0 g (.int i) (.int j) H Q := ⟨i, j, rfl, rfl, q⟩
theorem s_iiC {C : Int → Int → Prop} {g : Int → Int → V} (c : C i j) (q : Q (g i j) H) : rI C g (.int i) (.int j) H Q := ⟨i, j, rfl, rfl, c, q⟩
theorem s_un {g : Int → V} (q : Q (g i) H) : rU g (.int i) H Q := ⟨i, rfl, q⟩
instance is_un {g : Int → V} : US (rU g (.int i) H Q) (Q (g i) H) := ⟨s_un⟩
theorem s_eq (h : scal x y = true) (q : Q (.bl (decide (x = y))) H) : rEq x y H Q := ⟨h, q⟩
theorem s_ne (h : scal x y = true) (q : Q (.bl (!decide (x = y))) H) : rNe x y H Q := ⟨h, q⟩
theorem s_ixL (h : SqL K H p xs) (a : atI xs i = some v) (q : Q v H) : rIxL K (.ref p) (.int i) H Q := ⟨p, xs, i, v, rfl, rfl, h, a, q⟩
theorem s_ixT (h : SqT K H p xs) (a : atI xs i = some v) (q : Q v H) : rIxT K (.ref p) (.int i) H Q := ⟨p, xs, i, v, rfl, rfl, h, a, q⟩
theorem s_setL {q : Hp → Prop} {n : Nat} (h : H p = some (.lst xs)) (a : ixN xs.length i = some n) (k : q (upd H p (.lst (xs.set n v)))) : rSetL (.ref p) (.int i) v H q := ⟨p, xs, i, n, rfl, rfl, h, a, k⟩
theorem s_bl {b : Bool} {q : Bool → Hp → Prop} (k : q b H) : ∃ c, V.bl b = .bl c ∧ q c H := ⟨b, rfl, k⟩
end
/-! ### the combinators opened, one at a time -/
section
variable {K : PySem.W.Frag} {H : Hp} {Q : VK} {σ : L2.St} {D : Ends} {t u : TS} {te ta tb tc : TE} {tt tu : TT} {g : TG} {r r' : R2} {v : V} {T : TA}
theorem u_seq (q : t { D with nx := u D } σ H) : tSeq t u D σ H := q
instance iu_seq  : US (tSeq t u D σ H) (t { D with nx := u D } σ H) := ⟨u_seq⟩
theorem u_asg (q : te σ H fun x H1 => g x σ H1 D.nx) : tAsg te g D σ H := q
instance iu_asg  : US (tAsg te g D σ H) (te σ H fun x H1 => g x σ H1 D.nx) := ⟨u_asg⟩
theorem u_drop (q : te σ H fun _ H1 => D.nx σ H1) : tDrop te D σ H := q
instance iu_drop  : US (tDrop te D σ H) (te σ H fun _ H1 => D.nx σ H1) := ⟨u_drop⟩
theorem u_ret (q : te σ H D.rt) : tRet te D σ H := q
instance iu_ret  : US (tRet te D σ H) (te σ H D.rt) := ⟨u_ret⟩
theorem u_retN (q : D.rt .non H) : tRetN D σ H := q
instance iu_retN  : US (tRetN D σ H) (D.rt .non H) := ⟨u_retN⟩
theorem u_next (q : D.nx σ H) : tNext D σ H := q
instance iu_next  : US (tNext D σ H) (D.nx σ H) := ⟨u_next⟩
theorem u_brk (q : D.bk σ H) : tBreak D σ H := q
instance iu_brk  : US (tBreak D σ H) (D.bk σ H) := ⟨u_brk⟩
theorem u_cont (q : D.ct σ H) : tCont D σ H := q
instance iu_cont  : US (tCont D σ H) (D.ct σ H) := ⟨u_cont⟩
theorem u_ifS (q : tt σ H fun b H1 => if b = true then t D σ H1 else u D σ H1) : tIfS tt t u D σ H := q
instance iu_ifS  : US (tIfS tt t u D σ H) (tt σ H fun b H1 => if b = true then t D σ H1 else u D σ H1) := ⟨u_ifS⟩
theorem u_op (q : ta σ H fun x H1 => tb σ H1 fun y H2 => r x y H2 Q) : tOp r ta tb σ H Q := q
instance iu_op  : US (tOp r ta tb σ H Q) (ta σ H fun x H1 => tb σ H1 fun y H2 => r x y H2 Q) := ⟨u_op⟩
theorem u_un {r : V → Hp → VK → Prop} (q : ta σ H fun x H1 => r x H1 Q) : tUn r ta σ H Q := q
instance iu_un {r : V → Hp → VK → Prop} : US (tUn r ta σ H Q) (ta σ H fun x H1 => r x H1 Q) := ⟨u_un⟩
theorem u_c (q : Q v H) : tC v σ H Q := q
instance iu_c  : US (tC v σ H Q) (Q v H) := ⟨u_c⟩
theorem u_and {q : Bool → Hp → Prop} (k : tt σ H fun c H1 => if c = true then tu σ H1 q else q false H1) : tAnd tt tu σ H q := k
instance iu_and {q : Bool → Hp → Prop} : US (tAnd tt tu σ H q) (tt σ H fun c H1 => if c = true then tu σ H1 q else q false H1) := ⟨u_and⟩
theorem u_or {q : Bool → Hp → Prop} (k : tt σ H fun c H1 => if c = true then q true H1 else tu σ H1 q) : tOr tt tu σ H q := k
instance iu_or {q : Bool → Hp → Prop} : US (tOr tt tu σ H q) (tt σ H fun c H1 => if c = true then q true H1 else tu σ H1 q) := ⟨u_or⟩
theorem u_not {q : Bool → Hp → Prop} (k : tt σ H fun c H1 => q (!c) H1) : tNot tt σ H q := k
instance iu_not {q : Bool → Hp → Prop} : US (tNot tt σ H q) (tt σ H fun c H1 => q (!c) H1) := ⟨u_not⟩
theorem u_andV (q : ta σ H fun x H1 => ∃ c, x = .bl c ∧ if c = true then tb σ H1 Q else Q (.bl false) H1) : tAndV ta tb σ H Q := q
instance iu_andV  : US (tAndV ta tb σ H Q) (ta σ H fun x H1 => ∃ c, x = .bl c ∧ if c = true then tb σ H1 Q else Q (.bl false) H1) := ⟨u_andV⟩
theorem u_orV (q : ta σ H fun x H1 => ∃ c, x = .bl c ∧ if c = true then Q (.bl true) H1 else tb σ H1 Q) : tOrV ta tb σ H Q := q
instance iu_orV  : US (tOrV ta tb σ H Q) (ta σ H fun x H1 => ∃ c, x = .bl c ∧ if c = true then Q (.bl true) H1 else tb σ H1 Q) := ⟨u_orV⟩
theorem u_notV (q : ta σ H fun x H1 => ∃ c, x = .bl c ∧ Q (.bl (!c)) H1) : tNotV ta σ H Q := q
instance iu_notV  : US (tNotV ta σ H Q) (ta σ H fun x H1 => ∃ c, x = .bl c ∧ Q (.bl (!c)) H1) := ⟨u_notV⟩
theorem u_if (q : tt σ H fun c H1 => if c = true then ta σ H1 Q else tb σ H1 Q) : tIf tt ta tb σ H Q := q
instance iu_if  : US (tIf tt ta tb σ H Q) (tt σ H fun c H1 => if c = true then ta σ H1 Q else tb σ H1 Q) := ⟨u_if⟩
theorem u_test {q : Bool → Hp → Prop} (k : te σ H fun x H' => ∃ k, x = .bl k ∧ q k H') : tTest te σ H q := k
instance iu_test {q : Bool → Hp → Prop} : US (tTest te σ H q) (te σ H fun x H' => ∃ k, x = .bl k ∧ q k H') := ⟨u_test⟩
theorem u_B {q : Bool → Hp → Prop} (k : te σ H fun x H1 => ∃ c, x = .bl c ∧ q c H1) : tB te σ H q := k
instance iu_B {q : Bool → Hp → Prop} : US (tB te σ H q) (te σ H fun x H1 => ∃ c, x = .bl c ∧ q c H1) := ⟨u_B⟩
theorem u_chain (q : ta σ H fun x H1 => tb σ H1 fun y H2 => r x y H2 fun z H3 => ∃ k, z = .bl k ∧ (if k = true then tc σ H3 fun w' H4 => r' y w' H4 Q else Q (.bl false) H3)) : tChain r r' ta tb tc σ H Q := q
instance iu_chain  : US (tChain r r' ta tb tc σ H Q) (ta σ H fun x H1 => tb σ H1 fun y H2 => r x y H2 fun z H3 => ∃ k, z = .bl k ∧ (if k = true then tc σ H3 fun w' H4 => r' y w' H4 Q else Q (.bl false) H3)) := ⟨u_chain⟩
theorem u_name {i : Nat} {q : L2.St → Hp → Prop} (k : q (σ.set i (some v)) H) : gName i v σ H q := k
instance iu_name {i : Nat} {q : L2.St → Hp → Prop} : US (gName i v σ H q) (q (σ.set i (some v)) H) := ⟨u_name⟩
theorem u_sub {s : TSet} {q : L2.St → Hp → Prop} (k : ta σ H fun o H1 => tb σ H1 fun i H2 => s o i v H2 fun H3 => q σ H3) : gSub ta tb s v σ H q := k
instance iu_sub {s : TSet} {q : L2.St → Hp → Prop} : US (gSub ta tb s v σ H q) (ta σ H fun o H1 => tb σ H1 fun i H2 => s o i v H2 fun H3 => q σ H3) := ⟨u_sub⟩
theorem u_nil {q : List V → Hp → Prop} (k : q [] H) : tNil σ H q := k
instance iu_nil {q : List V → Hp → Prop} : US (tNil σ H q) (q [] H) := ⟨u_nil⟩
theorem u_cons {q : List V → Hp → Prop} (k : ta σ H fun x H1 => T σ H1 fun xs H2 => q (x :: xs) H2) : tCons ta T σ H q := k
instance iu_cons {q : List V → Hp → Prop} : US (tCons ta T σ H q) (ta σ H fun x H1 => T σ H1 fun xs H2 => q (x :: xs) H2) := ⟨u_cons⟩
theorem u_call {sp : Sp} {E : XK} (k : T σ H fun vs H1 => sp vs H1 Q E) : tCall sp [] E T σ H Q := by
  show T σ H fun vs H1 => sp (vs ++ []) H1 Q E
  simpa only [List.append_nil] using k
instance iu_call {sp : Sp} {E : XK} : US (tCall sp [] E T σ H Q) (T σ H fun vs H1 => sp vs H1 Q E) := ⟨u_call⟩
theorem u_CB {f : List V → Hp → VK → Prop} (k : T σ H fun vs H1 => f vs H1 Q) : tCB f T σ H Q := k
instance iu_CB {f : List V → Hp → VK → Prop} : US (tCB f T σ H Q) (T σ H fun vs H1 => f vs H1 Q) := ⟨u_CB⟩
theorem u_tup (k : T σ H fun xs H1 => xs.length ≤ sizeLine ∧ ∀ p, H1 p = none → Q (.ref p) (upd H1 p (.tup xs))) : tTup T σ H Q := k
theorem u_lst (k : T σ H fun xs H1 => xs.length ≤ sizeLine ∧ ∀ p, H1 p = none → Q (.ref p) (upd H1 p (.lst xs))) : tLst T σ H Q := k
theorem u_cut {M : L2.St → Hp → Prop} (h : t { D with nx := M } σ H) (k : ∀ σ' H', M σ' H' → u D σ' H') : Evl.tCut t u D σ H := ⟨M, h, k⟩
end

theorem divW {i m : Int} (hm : 0 < m) (hl : m < 18446744073709551616) : CDivW i m := wide_div (b := 64) hm (by
  have e : (2 : Nat) ^ 64 = 18446744073709551616 := by decide
  rw [e]; omega) (by decide) (by decide)
theorem sz {n : Nat} (h : n ≤ 1000) : n ≤ sizeLine := Nat.le_trans h (by decide)
theorem sz16 {n : Nat} (h : n ≤ 16777216) : n ≤ sizeLine := Nat.le_trans h (by rw [sizeLine_eq]; decide)
theorem But.same {b : Addr} {H H1 H2 : Hp} (x : But b H1 H2) (s : Same H H1) (n : H b = none) : Same H H2 := fun a o e => x a o (ne_of_none e n) (s a o e)

/-! ### loops -/
section
variable {K : PySem.W.Frag} {H : Hp} {Q : VK} {σ : L2.St} {D : Ends} {c : TT} {tb : TS} {v : V} {a : Addr} {xs : List V}
theorem w_while (W : Nat → L2.St → Hp → Prop) (m : Nat) (h0 : W m σ H)
    (hs : ∀ m σ H, W m σ H → c σ H fun b H1 => if b = true then ∃ N : L2.St → Hp → Prop, (∀ σ' H', N σ' H' → ∃ m', m' < m ∧ W m' σ' H') ∧ tb { D with nx := N, ct := N, bk := D.nx } σ H1 else D.nx σ H1) : tWhile c tb D σ H := ⟨W, ⟨m, h0⟩, hs⟩
theorem w_turn {W : Nat → L2.St → Hp → Prop} {m : Nat} (k : tb { D with nx := fun σ' H' => ∃ m', m' < m ∧ W m' σ' H', ct := fun σ' H' => ∃ m', m' < m ∧ W m' σ' H', bk := D.nx } σ H) :
    ∃ N : L2.St → Hp → Prop, (∀ σ' H', N σ' H' → ∃ m', m' < m ∧ W m' σ' H') ∧ tb { D with nx := N, ct := N, bk := D.nx } σ H := ⟨_, fun _ _ n => n, k⟩
theorem u_for {wi : TI} {g : TG} (k : wi σ H fun J H1 => ∃ W : Nat → Nat → L2.St → Hp → Prop, (∃ m, W 0 m σ H1) ∧ ∀ i m σ H, W i m σ H →
      (J.stop i H ∧ D.nx σ H) ∨ (J.go i H ∧ ∃ N : L2.St → Hp → Prop, (∀ σ' H', N σ' H' → ∃ m', m' < m ∧ W (i + 1) m' σ' H') ∧ ∀ x H', J.yld i H x H' → g x σ H' fun σ2 H2 => tb { D with nx := N, ct := N, bk := D.nx } σ2 H2)) : tFor wi g tb D σ H := k
theorem u_iList {tl : TE} {R : It → Hp → Prop} (k : tl σ H fun x H1 => ∃ a, x = .ref a ∧ (∃ xs, SqL K H1 a xs) ∧ R (Itl K a) H1) : iList K tl σ H R := k
instance iu_iList {tl : TE} {R : It → Hp → Prop} : US (iList K tl σ H R) (tl σ H fun x H1 => ∃ a, x = .ref a ∧ (∃ xs, SqL K H1 a xs) ∧ R (Itl K a) H1) := ⟨u_iList⟩
theorem u_iTup {tl : TE} {R : It → Hp → Prop} (k : tl σ H fun x H1 => ∃ a, x = .ref a ∧ (∃ xs, SqT K H1 a xs) ∧ R (Itt K a) H1) : iTup K tl σ H R := k
instance iu_iTup {tl : TE} {R : It → Hp → Prop} : US (iTup K tl σ H R) (tl σ H fun x H1 => ∃ a, x = .ref a ∧ (∃ xs, SqT K H1 a xs) ∧ R (Itt K a) H1) := ⟨u_iTup⟩
theorem u_iRng1 {ta : TA} {R : It → Hp → Prop} (k : ta σ H fun vs H1 => ∃ j : Int, vs = [.int j] ∧ -(2 ^ 62) ≤ j ∧ j < 2 ^ 62 ∧ R (Itr 0 j.toNat) H1) : iRng1 ta σ H R := k
instance iu_iRng1 {ta : TA} {R : It → Hp → Prop} : US (iRng1 ta σ H R) (ta σ H fun vs H1 => ∃ j : Int, vs = [.int j] ∧ -(2 ^ 62) ≤ j ∧ j < 2 ^ 62 ∧ R (Itr 0 j.toNat) H1) := ⟨u_iRng1⟩
theorem u_iRng2 {ta : TA} {R : It → Hp → Prop} (k : ta σ H fun vs H1 => ∃ i j : Int, vs = [.int i, .int j] ∧ (-(2 ^ 62) ≤ i ∧ i < 2 ^ 62 ∧ -(2 ^ 62) ≤ j ∧ j < 2 ^ 62) ∧ R (Itr i (j - i).toNat) H1) : iRng2 ta σ H R := k
instance iu_iRng2 {ta : TA} {R : It → Hp → Prop} : US (iRng2 ta σ H R) (ta σ H fun vs H1 => ∃ i j : Int, vs = [.int i, .int j] ∧ (-(2 ^ 62) ≤ i ∧ i < 2 ^ 62 ∧ -(2 ^ 62) ≤ j ∧ j < 2 ^ 62) ∧ R (Itr i (j - i).toNat) H1) := ⟨u_iRng2⟩
theorem u_gcons {t : TG} {u : TGs} {r : List V} {q : L2.St → Hp → Prop} (k : t v σ H fun σ' H' => u r σ' H' q) : gCons t u (v :: r) σ H q := ⟨v, r, rfl, k⟩
instance iu_gcons {t : TG} {u : TGs} {r : List V} {q : L2.St → Hp → Prop} : US (gCons t u (v :: r) σ H q) (t v σ H fun σ' H' => u r σ' H' q) := ⟨u_gcons⟩
theorem u_gnil {q : L2.St → Hp → Prop} (k : q σ H) : gNil [] σ H q := ⟨rfl, k⟩
instance iu_gnil {q : L2.St → Hp → Prop} : US (gNil [] σ H q) (q σ H) := ⟨u_gnil⟩
theorem s_gtup {n : Nat} {t : TGs} {q : L2.St → Hp → Prop} (h : SqT K H a xs) (l : xs.length = n) (k : t xs σ H q) : gTup K n t (.ref a) σ H q := ⟨a, xs, rfl, h, l, k⟩
theorem s_isi {x : V} {t T : String} {b : Bool} (ty : TyX K H x (.type t)) (k : kitB t T = some b) (q : Q (.bl b) H) : rIsi K [x, .ty T] H Q := ⟨x, .ty T, .type t, .type T, b, rfl, .ty T, ty, kit_ty k, q⟩
end

/-! ### a law's first helpers -/
/-- a cell of the script: some number -/
def spCell (K : PySem.W.Frag) : Sp := fun vs H Q _ => ∃ (a : Addr) (ns : List Int) (i : Int), vs = [.ref a, .int i] ∧ SqL K H a (ns.map V.int) ∧ 0 ≤ i ∧ ∀ r : Int, Q (.int r) H
/-- a new box -/
def spBox : Sp := fun vs H Q _ => ∃ c : Int, vs = [.int c] ∧ ∀ (p : Addr) (H' : Hp), H p = none → Same H H' → BoxAt H' p → Q (.ref p) H'

theorem pow2_pos (k : Nat) : (0 : Int) < 2 ^ k := by
  induction k with
  | zero => decide
  | succ k ih => rw [Int.pow_succ]; omega
theorem pow2_mono {a b : Nat} (h : a ≤ b) : (2 : Int) ^ a ≤ 2 ^ b := by
  induction b with
  | zero => have : a = 0 := by omega
            subst this; exact Int.le_refl _
  | succ b ih =>
    by_cases e : a = b + 1
    · subst e; exact Int.le_refl _
    · have := ih (by omega)
      have := pow2_pos b
      rw [Int.pow_succ]; omega
section
variable {X : Cx} {x : Str} {pos : Pos}
theorem pe_ty (T : String) (hg : Gl X x) (hm : X.mg x = none) (hv : bootBuiltins x = some (.type T)) (hn : x ≠ "__name__" := by decide) (hd : (x == ("__debug__" : Str)) = false := by decide) : PE X (.Name x pos) (tC (.ty T)) := pe_bltn hg hm hv rfl hn hd
end
theorem kb_int_int : kitB "int" "int" = some true := by decide +kernel
theorem kb_int_bool : kitB "int" "bool" = some false := by decide +kernel
theorem kb_int_str : kitB "int" "str" = some false := by decide +kernel
theorem kb_int_list : kitB "int" "list" = some false := by decide +kernel
theorem kb_int_tuple : kitB "int" "tuple" = some false := by decide +kernel
theorem kb_bool_int : kitB "bool" "int" = some true := by decide +kernel
theorem kb_bool_bool : kitB "bool" "bool" = some true := by decide +kernel
theorem kb_bool_str : kitB "bool" "str" = some false := by decide +kernel
theorem kb_bool_list : kitB "bool" "list" = some false := by decide +kernel
theorem kb_bool_tuple : kitB "bool" "tuple" = some false := by decide +kernel
theorem kb_str_int : kitB "str" "int" = some false := by decide +kernel
theorem kb_str_bool : kitB "str" "bool" = some false := by decide +kernel
theorem kb_str_str : kitB "str" "str" = some true := by decide +kernel
theorem kb_str_list : kitB "str" "list" = some false := by decide +kernel
theorem kb_str_tuple : kitB "str" "tuple" = some false := by decide +kernel
theorem kb_NoneType_int : kitB "NoneType" "int" = some false := by decide +kernel
theorem kb_NoneType_bool : kitB "NoneType" "bool" = some false := by decide +kernel
theorem kb_NoneType_str : kitB "NoneType" "str" = some false := by decide +kernel
theorem kb_NoneType_list : kitB "NoneType" "list" = some false := by decide +kernel
theorem kb_NoneType_tuple : kitB "NoneType" "tuple" = some false := by decide +kernel
theorem kb_list_int : kitB "list" "int" = some false := by decide +kernel
theorem kb_list_bool : kitB "list" "bool" = some false := by decide +kernel
theorem kb_list_str : kitB "list" "str" = some false := by decide +kernel
theorem kb_list_list : kitB "list" "list" = some true := by decide +kernel
theorem kb_list_tuple : kitB "list" "tuple" = some false := by decide +kernel
theorem kb_tuple_int : kitB "tuple" "int" = some false := by decide +kernel
theorem kb_tuple_bool : kitB "tuple" "bool" = some false := by decide +kernel
theorem kb_tuple_str : kitB "tuple" "str" = some false := by decide +kernel
theorem kb_tuple_list : kitB "tuple" "list" = some false := by decide +kernel
theorem kb_tuple_tuple : kitB "tuple" "tuple" = some true := by decide +kernel
theorem kb_dict_int : kitB "dict" "int" = some false := by decide +kernel
theorem kb_dict_bool : kitB "dict" "bool" = some false := by decide +kernel
theorem kb_dict_str : kitB "dict" "str" = some false := by decide +kernel
theorem kb_dict_list : kitB "dict" "list" = some false := by decide +kernel
theorem kb_dict_tuple : kitB "dict" "tuple" = some false := by decide +kernel
instance i_iteF {A B : Prop} : US (if false = true then A else B) B := ⟨iteF⟩
instance i_iteT {A B : Prop} : US (if true = true then A else B) A := ⟨iteT⟩
theorem ntT {A B : Prop} (h : A) : if (!false) = true then A else B := iteT h
instance intT {A B : Prop} : US (if (!false) = true then A else B) (A) := ⟨ntT⟩
theorem ntF {A B : Prop} (h : B) : if (!true) = true then A else B := iteF h
instance intF {A B : Prop} : US (if (!true) = true then A else B) (B) := ⟨ntF⟩
section
variable {K : PySem.W.Frag} {H : Hp} {Q : VK} {σ : L2.St} {te : TE} {tl th : TO} {a : Addr} {xs : List V} {lo hi : Option Int} {z : Str}
theorem u_sl {r : V → Option Int → Option Int → Hp → VK → Prop} (k : te σ H fun x H1 => tl σ H1 fun l H2 => th σ H2 fun u H3 => r x l u H3 Q) : tSl r te tl th σ H Q := k
instance iu_sl {r : V → Option Int → Option Int → Hp → VK → Prop} : US (tSl r te tl th σ H Q) (te σ H fun x H1 => tl σ H1 fun l H2 => th σ H2 fun u H3 => r x l u H3 Q) := ⟨u_sl⟩
theorem u_part {q : Option Int → Hp → Prop} (k : te σ H fun x H1 => ∃ i, x = .int i ∧ q (some i) H1) : tPart te σ H q := k
instance iu_part {q : Option Int → Hp → Prop} : US (tPart te σ H q) (te σ H fun x H1 => ∃ i, x = .int i ∧ q (some i) H1) := ⟨u_part⟩
theorem u_nopart {q : Option Int → Hp → Prop} (k : q none H) : tNoPart σ H q := k
instance iu_nopart {q : Option Int → Hp → Prop} : US (tNoPart σ H q) (q none H) := ⟨u_nopart⟩
theorem s_slL (h : SqL K H a xs) (q : ∀ p, H p = none → Q (.ref p) (upd H p (.lst (cutV xs lo hi)))) : rSlL K (.ref a) lo hi H Q := ⟨a, xs, rfl, h, q⟩
theorem s_slS (h : z.length ≤ sizeLine) (q : Q (.str (cutS z lo hi)) H) : rSlS (.str z) lo hi H Q := ⟨z, rfl, h, q⟩
/-- a part of a list of ints is a list of ints -/
theorem cutV_ints (ns : List Int) (lo hi : Option Int) : ∃ ms : List Int, cutV (ns.map V.int) lo hi = ms.map V.int ∧ ms.length ≤ ns.length := by
  refine ⟨(ns.drop (HT.sIx (ns.map V.int).length 0 lo)).take (HT.sIx (ns.map V.int).length (ns.map V.int).length hi - HT.sIx (ns.map V.int).length 0 lo), ?_, ?_⟩
  · unfold cutV; rw [List.map_take, List.map_drop]
  · rw [List.length_take, List.length_drop]; omega
theorem sql_new {p : Addr} {o : HO} (h : SqL K H a xs) (n : H p = none) : SqL K (upd H p o) a xs := (Same.new (Same.refl H) n).seq h
theorem Same.ne {H H1 : Hp} {b p : Addr} {o : HO} (_ : Same H H1) (h : H1 b = some o) (n : H1 p = none) : b ≠ p := ne_of_none h n
theorem ints_get {ns : List Int} {i : Nat} {x : V} (h : (ns.map V.int)[i]? = some x) : ∃ n, ns[i]? = some n ∧ x = .int n := by
  rw [List.getElem?_map] at h
  cases e : ns[i]? with
  | none => rw [e] at h; cases h
  | some n => rw [e] at h; exact ⟨n, rfl, (Option.some.inj h).symm⟩
end

/-! ### rules whose reading speaks of K, with K told (for a comprehension's block) -/
section
variable {X : Cx} {K : PySem.W.Frag}
theorem pg_tupK {es : List Expr} {k : Nat} {t : TGs} {n : Nat} {pos : Pos} (hK : X.K = K) (hc : X.calm = true) (h : PGs X es t)
    (hn : (assignEach es X.env).length = n := by rfl) (hst : (assignEach es X.env).findIdx? (·.1) = none := by rfl) : PG X (.Tuple es k pos) (gTup K n t) := hK ▸ pg_tup hc h hn hst
theorem pe_fldK {e : Expr} {f : Str} {pos : Pos} {ta : TE} (hK : X.K = K) (he : PE X e ta) (hb : attributeBase e f X.env (eval e X.env) = eval e X.env) : PE X (.Attribute e f pos) (tFld K ta f) := hK ▸ pe_fld he hb
theorem call_len_seqK (hK : X.K = K) : CallR X (.builtin "len") (fun xs H Q => ∃ p ys, xs = [.ref p] ∧ (SqL K H p ys ∨ SqT K H p ys) ∧ Q (.int ys.length) H) := hK ▸ call_len_seq
theorem ix_listK (hK : X.K = K) : IxR X (rIxL K) := hK ▸ ix_list
theorem ix_tupK (hK : X.K = K) : IxR X (rIxT K) := hK ▸ ix_tup
theorem op_in_seqK (hK : X.K = K) : OpR X (compareOp .In) (rIn K false) := hK ▸ op_in_seq
theorem op_notIn_seqK (hK : X.K = K) : OpR X (compareOp .NotIn) (rIn K true) := hK ▸ op_notIn_seq
theorem op_eqDK (hK : X.K = K) (hu : X.A.units + 64 < cLine) : OpR X (compareOp .Eq) (rEqD K) := hK ▸ op_eqD hu
theorem op_neDK (hK : X.K = K) (hu : X.A.units + 64 < cLine) : OpR X (compareOp .NotEq) (rNeD K) := hK ▸ op_neD hu
theorem call_isiK' (hK : X.K = K) : CallR X (.builtin "isinstance") (rIsi K) := hK ▸ call_isi
theorem call_isiTK (hK : X.K = K) : CallR X (.builtin "isinstance") (rIsiT K) := hK ▸ call_isiT
theorem sl_listK (hK : X.K = K) : SlR X (rSlL K) := hK ▸ sl_list
theorem cr_maxK (hK : X.K = K) (hc : X.calm = true) : CallR X (.builtin "max") (rMax K) := hK ▸ cr_max hc
theorem cr_minK' (hK : X.K = K) (hc : X.calm = true) : CallR X (.builtin "min") (rMin K) := hK ▸ cr_min hc
end
section
variable {X : Cx} {x : Str} {pos : Pos}
theorem pe_gstr {z : Str} (h : ∃ t, X.mg x = some (.str z t)) (hg : Gl X x := by rfl) (hd : (x == ("__debug__" : Str)) = false := by decide) : PE X (.Name x pos) (tC (.str z)) := by
  obtain ⟨t, h⟩ := h
  exact pe_glob hg h ⟨t, rfl⟩ hd
theorem pe_gint {z : Int} (h : ∃ t, X.mg x = some (.int z t)) (hg : Gl X x := by rfl) (hd : (x == ("__debug__" : Str)) = false := by decide) : PE X (.Name x pos) (tC (.int z)) := by
  obtain ⟨t, h⟩ := h
  exact pe_glob hg h ⟨t, rfl⟩ hd
end
section
variable {H : Hp} {Q : VK} {σ : L2.St}
theorem u_iStr {te : TE} {R : It → Hp → Prop} (k : te σ H fun v H1 => ∃ x, v = .str x ∧ R (Its x) H1) : iStr te σ H R := k
instance iu_iStr {te : TE} {R : It → Hp → Prop} : US (iStr te σ H R) (te σ H fun v H1 => ∃ x, v = .str x ∧ R (Its x) H1) := ⟨u_iStr⟩
theorem u_M0 {r : V → List V → Hp → VK → Prop} {to : TE} (k : to σ H fun x H1 => (∃ a, x = .str a) ∧ r x [] H1 Q) : tM0 r to σ H Q := k
instance iu_M0 {r : V → List V → Hp → VK → Prop} {to : TE} : US (tM0 r to σ H Q) (to σ H fun x H1 => (∃ a, x = .str a) ∧ r x [] H1 Q) := ⟨u_M0⟩
theorem u_M1 {r : V → List V → Hp → VK → Prop} {to te : TE} (k : to σ H fun x H1 => (∃ a, x = .str a) ∧ te σ H1 fun y H2 => r x [y] H2 Q) : tM1 r to te σ H Q := k
instance iu_M1 {r : V → List V → Hp → VK → Prop} {to te : TE} : US (tM1 r to te σ H Q) (to σ H fun x H1 => (∃ a, x = .str a) ∧ te σ H1 fun y H2 => r x [y] H2 Q) := ⟨u_M1⟩
theorem s_isStr {z : Str} {B : Prop} (k : B) : (∃ a, V.str z = .str a) ∧ B := ⟨⟨z, rfl⟩, k⟩
instance is_isStr {z : Str} {B : Prop} : US ((∃ a, V.str z = .str a) ∧ B) (B) := ⟨s_isStr⟩
end
theorem keepN {H : Hp} {p q : Addr} {o u : HO} (h : H p = some o) (n : H q = none) : upd H q u p = some o := by rw [upd_ne (ne_of_none h n)]; exact h
theorem tyX_tup {K : PySem.W.Frag} {H : Hp} {a : Addr} {xs : List V} (h : SqT K H a xs) : TyX K H (.ref a) (.type "tuple") := by
  rcases h with (h | ⟨o, h⟩) | ⟨o, _, _, e, c, _⟩
  · exact .base (.tup h)
  · exact .fTuple h
  · exact .kTuple e c
end Ah
set_option Elab.async false
set_option linter.all false
set_option maxRecDepth 100000
set_option maxHeartbeats 4000000
/-! worths in plain numbers -/
namespace Ah
open PySem PySem.Spec PyProof.Rows L2
/-- a count c of the era e is worth so much at the era n -/
def worth (c e n : Int) : Int := c / 2 ^ (n - e).toNat
theorem worth_at_begin {c e n : Int} (h : n ≤ e) : worth c e n = c := by
  unfold worth
  have : (n - e).toNat = 0 := by omega
  rw [this]; simp
theorem worth_step {c e n : Int} (h : e < n) : worth c e n = worth (c / 2) (e + 1) n := by
  unfold worth
  have h1 : (n - e).toNat = (n - (e + 1)).toNat + 1 := by omega
  rw [h1, Int.pow_succ, Int.mul_comm, Int.ediv_ediv_of_nonneg (by decide)]
theorem worth_zero (e n : Int) : worth 0 e n = 0 := by unfold worth; simp
theorem worth_nonneg {c e n : Int} (h : 0 ≤ c) : 0 ≤ worth c e n := Int.ediv_nonneg h (Int.le_of_lt (pow2_pos _))
theorem worth_le {c e n : Int} (h : 0 ≤ c) : worth c e n ≤ c := Int.ediv_le_self _ h
theorem worth_mono {c d e n : Int} (h : c ≤ d) : worth c e n ≤ worth d e n := Int.ediv_le_ediv (pow2_pos _) h
/-- halved some eras and then some more -/
theorem worth_worth {c e m n : Int} (h1 : e ≤ m) (h2 : m ≤ n) : worth (worth c e m) m n = worth c e n := by
  unfold worth
  rw [Int.ediv_ediv_of_nonneg (Int.le_of_lt (pow2_pos _)), ← Int.pow_add]
  congr 2; omega

/-! ### worth_at, used_mark -/
def spWorth (K : PySem.W.Frag) : Sp := fun vs H Q _ => ∃ (t : Addr) (c e n : Int), vs = [.ref t, .int n] ∧ SqT K H t [.int c, .int e] ∧ 0 ≤ c ∧ Q (.int (worth c e n)) H
def spUsed (K : PySem.W.Frag) : Sp := fun vs H Q _ => ∃ (t : Addr) (c e n m : Int), vs = [.ref t, .int n, .int m] ∧ SqT K H t [.int c, .int e] ∧ 0 ≤ c ∧ ∀ p, H p = none → Q (.ref p) (upd H p (.tup [.int (worth c e n + m), .int n]))
theorem pick2 {a b : Int} {r : Int} {P : Int → Prop} (h0 : 0 ≤ r) (h1 : r < 2) (ha : P a) (hb : P b) : ∃ c : Int, atI [V.int a, V.int b] r = some (.int c) ∧ P c := by
  have : r = 0 ∨ r = 1 := by omega
  rcases this with rfl | rfl
  · exact ⟨_, rfl, ha⟩
  · exact ⟨_, rfl, hb⟩
theorem pick3 {a b c : Int} {r : Int} {P : Int → Prop} (h0 : 0 ≤ r) (h1 : r < 3) (ha : P a) (hb : P b) (hc : P c) : ∃ x : Int, atI [V.int a, V.int b, V.int c] r = some (.int x) ∧ P x := by
  have : r = 0 ∨ r = 1 ∨ r = 2 := by omega
  rcases this with rfl | rfl | rfl
  · exact ⟨_, rfl, ha⟩
  · exact ⟨_, rfl, hb⟩
  · exact ⟨_, rfl, hc⟩
theorem pick4 {a b c d : Int} {r : Int} {P : Int → Prop} (h0 : 0 ≤ r) (h1 : r < 4) (ha : P a) (hb : P b) (hc : P c) (hd : P d) : ∃ x : Int, atI [V.int a, V.int b, V.int c, V.int d] r = some (.int x) ∧ P x := by
  have : r = 0 ∨ r = 1 ∨ r = 2 ∨ r = 3 := by omega
  rcases this with rfl | rfl | rfl | rfl
  · exact ⟨_, rfl, ha⟩
  · exact ⟨_, rfl, hb⟩
  · exact ⟨_, rfl, hc⟩
  · exact ⟨_, rfl, hd⟩
end Ah
set_option Elab.async false
set_option linter.all false
set_option maxRecDepth 100000
set_option maxHeartbeats 4000000
/-! data in the heap -/
namespace Ah
open PySem PySem.Spec PyProof.Rows L2
section
variable {K : PySem.W.Frag} {H H' : Hp}
theorem Same.seqT {a : Addr} {xs : List V} (e : Same H H') (h : SqT K H a xs) : SqT K H' a xs := by
  rcases h with (h | ⟨o, h⟩) | h
  · exact .inl (.inl (e _ _ h))
  · exact .inl (.inr ⟨o, e _ _ h⟩)
  · exact .inr h
mutual
theorem Dp.same (e : Same H H') : ∀ {v : V} {d : PyData}, Dp K H v d → Dp K H' v d
  | _, _, .non => .non
  | _, _, .bl b => .bl b
  | _, _, .int i => .int i
  | _, _, .str x => .str x
  | _, _, .lst h a => .lst (e.seq h) (DpAll.same e a)
  | _, _, .tup h a => .tup (Same.seqT e h) (DpAll.same e a)
theorem DpAll.same (e : Same H H') : ∀ {vs : List V} {ds : List PyData}, DpAll K H vs ds → DpAll K H' vs ds
  | _, _, .nil => .nil
  | _, _, .cons h t => .cons (Dp.same e h) (DpAll.same e t)
end
theorem DpAll.length {vs : List V} {ds : List PyData} : DpAll K H vs ds → vs.length = ds.length := by
  intro h
  induction vs generalizing ds with
  | nil => cases h; rfl
  | cons v vs ih => cases h with | cons _ t => simp [ih t]
theorem DpAll.append : ∀ {vs ws : List V} {ds es : List PyData}, DpAll K H vs ds → DpAll K H ws es → DpAll K H (vs ++ ws) (ds ++ es)
  | [], _, _, _, .nil, b => b
  | _ :: _, _, _, _, .cons h t, b => .cons h (DpAll.append t b)
theorem DpAll.get : ∀ {vs : List V} {ds : List PyData} {i : Nat} {v : V}, DpAll K H vs ds → vs[i]? = some v → ∃ d, ds[i]? = some d ∧ Dp K H v d
  | _, _, 0, _, .cons h _, e => by cases e; exact ⟨_, rfl, h⟩
  | _, _, i + 1, v, .cons _ t, e => by
    obtain ⟨d, h1, h2⟩ := DpAll.get (i := i) (v := v) t (by simpa using e)
    exact ⟨d, by simpa using h1, h2⟩
theorem DpAll.of_map {α : Type} {f : α → V} {g : α → PyData} : ∀ {l : List α}, (∀ a ∈ l, Dp K H (f a) (g a)) → DpAll K H (l.map f) (l.map g)
  | [], _ => .nil
  | a :: l, h => .cons (h a (by simp)) (DpAll.of_map fun b hb => h b (by simp [hb]))
theorem DpAll.mem : ∀ {vs : List V} {ds : List PyData} {v : V}, DpAll K H vs ds → v ∈ vs → ∃ d, d ∈ ds ∧ Dp K H v d
  | _, _, v, .cons h t, hm => by
    rcases List.mem_cons.mp hm with e | hm
    · subst e; exact ⟨_, by simp, h⟩
    · obtain ⟨d, h1, h2⟩ := DpAll.mem t hm
      exact ⟨d, by simp [h1], h2⟩
end
/-! ### flat data, of any depth: what == asks -/
mutual
/-- texts short, depth small -/
def okD : Nat → PyData → Bool
  | _, .none => true
  | _, .bool _ => true
  | _, .int _ => true
  | _, .str x => PyData.strOk x
  | 0, .list _ => false
  | n + 1, .list xs => okDs n xs
  | 0, .tuple _ => false
  | n + 1, .tuple xs => okDs n xs
  | _, .dict _ => false
def okDs : Nat → List PyData → Bool
  | _, [] => true
  | n, x :: xs => okD n x && okDs n xs
end
mutual
theorem okD_shape : ∀ (n : Nat) (d : PyData), okD n d = true → d.canLay0 = true ∧ d.depth ≤ n
  | n, .none, _ => by constructor <;> simp [PyData.canLay0, PyData.depth]
  | n, .bool _, _ => by constructor <;> simp [PyData.canLay0, PyData.depth]
  | n, .int _, _ => by constructor <;> simp [PyData.canLay0, PyData.depth]
  | n, .str x, h => by
    have h' : PyData.strOk x = true := by simpa [okD] using h
    constructor
    · simpa [PyData.canLay0] using h'
    · simp [PyData.depth]
  | 0, .list _, h => by simp [okD] at h
  | n + 1, .list xs, h => by
    obtain ⟨a, b⟩ := okDs_shape n xs (by simpa [okD] using h)
    exact ⟨by simpa [PyData.canLay0] using a, by simp only [PyData.depth]; omega⟩
  | 0, .tuple _, h => by simp [okD] at h
  | n + 1, .tuple xs, h => by
    obtain ⟨a, b⟩ := okDs_shape n xs (by simpa [okD] using h)
    exact ⟨by simpa [PyData.canLay0] using a, by simp only [PyData.depth]; omega⟩
  | n, .dict _, h => by cases n <;> simp [okD] at h
theorem okDs_shape : ∀ (n : Nat) (ds : List PyData), okDs n ds = true → PyData.canLayAll0 ds = true ∧ PyData.depthAll ds ≤ n
  | n, [], _ => by constructor <;> simp [PyData.canLayAll0, PyData.depthAll]
  | n, d :: ds, h => by
    have h' : okD n d = true ∧ okDs n ds = true := by simpa [okDs] using h
    obtain ⟨a, b⟩ := okD_shape n d h'.1
    obtain ⟨a', b'⟩ := okDs_shape n ds h'.2
    exact ⟨by simp [PyData.canLayAll0, a, a'], by simp only [PyData.depthAll]; omega⟩
end
theorem shaped_of {n : Nat} {d : PyData} (h : okD n d = true) (hn : n ≤ 64 := by decide) : SeqAt.shaped d = true := by
  obtain ⟨a, b⟩ := okD_shape n d h
  unfold SeqAt.shaped
  rw [a, Bool.true_and]
  exact decide_eq_true (by omega)
theorem okDs_map {α : Type} {n : Nat} {f : α → PyData} : ∀ {l : List α}, (∀ a ∈ l, okD n (f a) = true) → okDs n (l.map f) = true
  | [], _ => by simp [okDs]
  | a :: l, h => by
    show okDs n (f a :: l.map f) = true
    simp only [okDs, h a (by simp), Bool.true_and]
    exact okDs_map fun b hb => h b (by simp [hb])
theorem eqv_same {n : Nat} {d : PyData} (h : okD n d = true) : PyData.eqv d d = true := SeqAt.eqv_refl d (okD_shape n d h).1
section
variable {K : PySem.W.Frag} {H : Hp} {Q : VK} {x y : V} {d e : PyData}
theorem s_eqD (hx : Dp K H x d) (hy : Dp K H y e) (h1 : SeqAt.shaped d = true) (h2 : SeqAt.shaped e = true) (q : Q (.bl (PyData.eqv d e)) H) : rEqD K x y H Q := ⟨d, e, hx, hy, h1, h2, q⟩
theorem s_neD (hx : Dp K H x d) (hy : Dp K H y e) (h1 : SeqAt.shaped d = true) (h2 : SeqAt.shaped e = true) (q : Q (.bl (!PyData.eqv d e)) H) : rNeD K x y H Q := ⟨d, e, hx, hy, h1, h2, q⟩
end
/-! ### lists of marks: refs to tuples (count, era) -/
def mref (m : Addr × Int × Int) : V := .ref m.1
structure MarksAt (K : PySem.W.Frag) (H : Hp) (p : Addr) (ms : List (Addr × Int × Int)) : Prop where
  seq : SqL K H p (ms.map mref)
  tup : ∀ m ∈ ms, SqT K H m.1 [.int m.2.1, .int m.2.2] ∧ 0 ≤ m.2.1
theorem MarksAt.same {K : PySem.W.Frag} {H H' : Hp} {p : Addr} {ms : List (Addr × Int × Int)} (h : MarksAt K H p ms) (e : Same H H') : MarksAt K H' p ms := ⟨e.seq h.seq, fun m hm => ⟨Same.seqT e (h.tup m hm).1, (h.tup m hm).2⟩⟩
def dMarks (ms : List (Addr × Int × Int)) : PyData := .list (ms.map fun m => .tuple [.int m.2.1, .int m.2.2])
theorem MarksAt.data {K : PySem.W.Frag} {H : Hp} {p : Addr} {ms : List (Addr × Int × Int)} (h : MarksAt K H p ms) : Dp K H (.ref p) (dMarks ms) :=
  .lst h.seq (DpAll.of_map fun m hm => .tup (h.tup m hm).1 (.cons (.int _) (.cons (.int _) .nil)))
theorem ok_marks (ms : List (Addr × Int × Int)) : okD 2 (dMarks ms) = true := by
  unfold dMarks
  simp only [okD]
  exact okDs_map fun m _ => by simp [okD, okDs]
theorem map_get {α β : Type} {f : α → β} {l : List α} {i : Nat} {y : β} (h : (l.map f)[i]? = some y) : ∃ a, l[i]? = some a ∧ y = f a := by
  rw [List.getElem?_map] at h
  cases e : l[i]? with
  | none => rw [e] at h; cases h
  | some n => rw [e] at h; exact ⟨n, rfl, (Option.some.inj h).symm⟩
theorem take_more {α : Type} {l : List α} {i : Nat} {x : α} (h : l[i]? = some x) : l.take (i + 1) = l.take i ++ [x] := by
  obtain ⟨hi, e⟩ := List.getElem?_eq_some_iff.mp h
  rw [List.take_succ, h]; rfl
/-- a list's greatest worth -/
def spGreat (K : PySem.W.Frag) : Sp := fun vs H Q _ => ∃ (p : Addr) (ms : List (Addr × Int × Int)) (n : Int), vs = [.ref p, .int n] ∧ MarksAt K H p ms ∧ ms.length ≤ 1000 ∧
  (ms = [] → ∀ H', Same H H' → Q .non H') ∧ (∀ (g : Int) (H' : Hp), Same H H' → (∃ m ∈ ms, g = worth m.2.1 m.2.2 n) → (∀ m ∈ ms, worth m.2.1 m.2.2 n ≤ g) → Q (.int g) H')

/-! ### comprehensions whose values are told by the turn alone -/
def PvV (res : Nat → List V) (H1 : Hp) (D : Addr) (i : Nat) (H : Hp) : Prop := Same H1 H ∧ H D = some (.lst (res i))
section
variable {res : Nat → List V} {H1 H H4 : Hp} {D : Addr} {i : Nat} {y : V}
theorem lc_begin (hD : H1 D = none) (r0 : res 0 = []) : PvV res H1 D 0 (upd H1 D (.lst [])) := ⟨Same.new (Same.refl _) hD, by rw [upd_same, r0]⟩
theorem Same.mut {H1 H : Hp} {D : Addr} {o : HO} (s : Same H1 H) (hD : H1 D = none) : Same H1 (upd H D o) := fun a u e => by
  rw [upd_ne (ne_of_none e hD)]; exact s a u e
theorem lc_put (p : PvV res H1 D i H) (hD : H1 D = none) (e : Same H H4) (er : res (i + 1) = res i ++ [y]) (hl : (res i).length < sizeLine) :
    ∃ acc, H4 D = some (.lst acc) ∧ acc.length < sizeLine ∧ PvV res H1 D (i + 1) (upd H4 D (.lst (acc ++ [y]))) :=
  ⟨res i, e _ _ p.2, hl, Same.mut (p.1.trans e) hD, by rw [upd_same, er]⟩
theorem lc_skip (p : PvV res H1 D i H) (e : Same H H4) (er : res (i + 1) = res i) : PvV res H1 D (i + 1) H4 := ⟨p.1.trans e, by rw [er]; exact e _ _ p.2⟩
end
/-- the values of a map, so far -/
def resM {α : Type} (l : List α) (g : α → V) (i : Nat) : List V := (l.take i).map g
theorem resM_0 {α : Type} {l : List α} {g : α → V} : resM l g 0 = [] := by simp [resM]
theorem resM_s {α : Type} {l : List α} {g : α → V} {i : Nat} {x : α} (h : l[i]? = some x) : resM l g (i + 1) = resM l g i ++ [g x] := by
  unfold resM; rw [take_more h, List.map_append]; rfl
theorem resM_all {α : Type} {l : List α} {g : α → V} {n : Nat} (h : n = l.length) : resM l g n = l.map g := by subst h; simp [resM]
theorem resM_len {α : Type} {l : List α} {g : α → V} {i : Nat} (h : l.length ≤ 100000) : (resM l g i).length < sizeLine := by
  have : (resM l g i).length ≤ l.length := by simp [resM]; omega
  rw [sizeLine_eq]; omega
/-- those of a filter, then mapped, so far -/
def resF {α : Type} (l : List α) (p : α → Bool) (g : α → V) (i : Nat) : List V := ((l.take i).filter p).map g
theorem resF_0 {α : Type} {l : List α} {p : α → Bool} {g : α → V} : resF l p g 0 = [] := by simp [resF]
theorem resF_y {α : Type} {l : List α} {p : α → Bool} {g : α → V} {i : Nat} {x : α} (h : l[i]? = some x) (c : p x = true) : resF l p g (i + 1) = resF l p g i ++ [g x] := by
  unfold resF; rw [take_more h, List.filter_append, List.map_append]; simp [c]
theorem resF_n {α : Type} {l : List α} {p : α → Bool} {g : α → V} {i : Nat} {x : α} (h : l[i]? = some x) (c : p x = false) : resF l p g (i + 1) = resF l p g i := by
  unfold resF; rw [take_more h, List.filter_append, List.map_append]; simp [c]
theorem resF_all {α : Type} {l : List α} {p : α → Bool} {g : α → V} {n : Nat} (h : n = l.length) : resF l p g n = (l.filter p).map g := by subst h; simp [resF]
theorem resF_len {α : Type} {l : List α} {p : α → Bool} {g : α → V} {i : Nat} (h : l.length ≤ 100000) : (resF l p g i).length < sizeLine := by
  have h1 : (resF l p g i).length ≤ (l.take i).length := by unfold resF; rw [List.length_map]; exact List.length_filter_le _ _
  have h2 : (l.take i).length ≤ l.length := by simp; omega
  rw [sizeLine_eq]; omega
section
variable {H : Hp} {Q : VK} {σ : L2.St}
theorem u_lc {wi : TI} {g : TG} {tt : TT} {te : TE} {vs : List Nat} (k : wi σ H fun J H1 => ∀ D, H1 D = none → ∃ W : Nat → Nat → Hp → Prop, (∃ m, W 0 m (upd H1 D (.lst []))) ∧ ∀ i m H, W i m H →
  (J.stop i H ∧ Q (.ref D) H) ∨ (J.go i H ∧ ∃ Nx : Hp → Prop, (∀ H', Nx H' → ∃ m', m' < m ∧ W (i + 1) m' H') ∧ ∀ x H', J.yld i H x H' → g x (wipe σ vs) H' fun σ2 H2 => wipe σ2 vs = wipe σ vs ∧ tt σ2 H2 fun b H3 =>
    if b = true then te σ2 H3 fun y H4 => ∃ acc, H4 D = some (.lst acc) ∧ acc.length < sizeLine ∧ Nx (upd H4 D (.lst (acc ++ [y]))) else Nx H3)) : tLc wi g tt te vs σ H Q := k
theorem u_yes {q : Bool → Hp → Prop} (k : q true H) : tYes σ H q := k
instance iu_yes {q : Bool → Hp → Prop} : US (tYes σ H q) (q true H) := ⟨u_yes⟩
end

section
variable {K : PySem.W.Frag} {H : Hp} {Q : VK} {σ : L2.St} {T : String} {r : V → List V → Hp → VK → Prop} {to : TE} {t : TA} {p : Addr} {xs : List V} {B : Prop}
theorem u_bm (k : to σ H fun x H1 => tyV K T x H1 ∧ t σ H1 fun xs H2 => r x xs H2 Q) : tBM K T r to t σ H Q := k
instance iu_bm  : US (tBM K T r to t σ H Q) (to σ H fun x H1 => tyV K T x H1 ∧ t σ H1 fun xs H2 => r x xs H2 Q) := ⟨u_bm⟩
theorem u_bm0 (k : to σ H fun x H1 => tyV K T x H1 ∧ r x [] H1 Q) : tBM0 K T r to σ H Q := k
instance iu_bm0  : US (tBM0 K T r to σ H Q) (to σ H fun x H1 => tyV K T x H1 ∧ r x [] H1 Q) := ⟨u_bm0⟩
theorem s_tyL (h : SqL K H p xs) (k : B) : tyV K "list" (.ref p) H ∧ B := ⟨.inl ⟨rfl, _, h⟩, k⟩
theorem s_app {y : V} (h : H p = some (.lst xs)) (hl : xs.length < sizeLine) (q : Q .non (upd H p (.lst (xs ++ [y])))) : rAppend (.ref p) [y] H Q := ⟨p, xs, y, rfl, rfl, h, hl, q⟩
end
end Ah
set_option Elab.async false
set_option linter.all false
set_option maxRecDepth 100000
set_option maxHeartbeats 4000000
/-! words: texts as lists of signs -/
namespace Ah
open PySem PySem.Spec PyProof.Rows L2 TL
def low (c : Nat) : Bool := decide (97 ≤ c) && decide (c ≤ 122)
def partL (l : List Nat) : Bool := decide (1 ≤ l.length) && decide (l.length ≤ 12) && l.all low
/-- cut at the blanks, acc ahead -/
def spA : List Nat → List Nat → List (List Nat)
  | acc, [] => [acc]
  | acc, c :: r => if c = 32 then acc :: spA [] r else spA (acc ++ [c]) r
theorem spl_spA : ∀ (l acc : List Nat), spl [32] 0 acc l = spA acc l
  | [], acc => by simp [spl, spA]
  | c :: r, acc => by
    by_cases h : c = 32
    · subst h
      rw [spl_hit (by simp [pre])]
      show acc :: spl [32] 0 [] r = _
      rw [spl_spA r []]; simp [spA]
    · rw [spl_miss (by simp [pre, h]), spl_spA r]; simp [spA, h]
def wordL (l : List Nat) : Bool := decide (l.length ≤ 24) && decide ((spA [] l).length ≤ 4) && (spA [] l).all partL
def isW (s : Str) : Bool := wordL (tl s)
theorem tl_blank : tl (Str.ofString " ") = [32] := by rw [tl_ofString]; rfl
theorem split_blank (s : Str) : (Txt.split s (Str.ofString " ")).map tl = spA [] (tl s) := by
  rw [split_spl s _ (by rw [tl_blank]; simp) (kind_ok (by decide +kernel)), tl_blank, spl_spA]
theorem spA_ne : ∀ (l acc : List Nat), spA acc l ≠ []
  | [], acc => by simp [spA]
  | c :: r, acc => by
    unfold spA; split
    · simp
    · exact spA_ne r _
theorem joinL_cons (p : List Nat) {ps : List (List Nat)} (h : ps ≠ []) : joinL [32] (p :: ps) = p ++ 32 :: joinL [32] ps := by
  cases ps with
  | nil => exact absurd rfl h
  | cons q r => rfl
theorem join_spA : ∀ (l acc : List Nat), joinL [32] (spA acc l) = acc ++ l
  | [], acc => by simp [spA, joinL]
  | c :: r, acc => by
    unfold spA; split
    · rename_i h; subst h
      rw [joinL_cons _ (spA_ne r []), join_spA r []]; rfl
    · rw [join_spA r]; simp
theorem spA_app : ∀ (p acc : List Nat) (r : List Nat), 32 ∉ p → spA acc (p ++ r) = spA (acc ++ p) r
  | [], acc, r, _ => by simp
  | c :: p, acc, r, h => by
    have hc : c ≠ 32 := fun e => h (by simp [e])
    show spA acc (c :: (p ++ r)) = _
    unfold spA
    rw [if_neg hc, spA_app p _ r (fun e => h (by simp [e]))]
    simp
    cases r <;> simp [spA]
theorem spA_one {p : List Nat} (h : 32 ∉ p) : spA [] p = [p] := by
  have := spA_app p [] [] h
  simpa [spA] using this
theorem spA_join : ∀ {ps : List (List Nat)}, ps ≠ [] → (∀ p ∈ ps, 32 ∉ p) → spA [] (joinL [32] ps) = ps
  | [], h, _ => absurd rfl h
  | [p], _, hp => spA_one (hp p (by simp))
  | p :: q :: r, _, hp => by
    show spA [] (p ++ (32 :: joinL [32] (q :: r))) = _
    rw [spA_app p [] _ (hp p (by simp))]
    show spA ([] ++ p) (32 :: joinL [32] (q :: r)) = _
    unfold spA
    rw [if_pos rfl, spA_join (by simp) fun z hz => hp z (by simp [hz])]
    rfl
/-- the first part begins with acc -/
theorem spA_head : ∀ (l acc : List Nat), ∃ q ps, spA acc l = (acc ++ q) :: ps
  | [], acc => ⟨[], [], by simp [spA]⟩
  | c :: r, acc => by
    unfold spA; split
    · exact ⟨[], spA [] r, by simp⟩
    · obtain ⟨q, ps, e⟩ := spA_head r (acc ++ [c])
      exact ⟨c :: q, ps, by rw [e]; simp⟩
theorem low_ne {c : Nat} (h : low c = true) : c ≠ 32 := by
  rintro rfl; simp [low] at h
theorem partL_no {p : List Nat} (h : partL p = true) : 32 ∉ p := fun hm => by
  unfold partL at h
  simp only [Bool.and_eq_true, List.all_eq_true] at h
  exact low_ne (h.2 32 hm) rfl
theorem partL_ne {p : List Nat} (h : partL p = true) : p ≠ [] := by
  rintro rfl; simp [partL] at h
/-- a word by its parts -/
theorem wordL_iff {l : List Nat} : wordL l = true ↔ ∃ ps : List (List Nat), ps ≠ [] ∧ ps.length ≤ 4 ∧ (∀ p ∈ ps, partL p = true) ∧ l = joinL [32] ps ∧ l.length ≤ 24 := by
  constructor
  · intro h
    unfold wordL at h
    simp only [Bool.and_eq_true, decide_eq_true_eq, List.all_eq_true] at h
    exact ⟨spA [] l, spA_ne _ _, h.1.2, h.2, by rw [join_spA]; rfl, h.1.1⟩
  · rintro ⟨ps, h1, h2, h3, rfl, h4⟩
    unfold wordL
    rw [spA_join h1 fun p hp => partL_no (h3 p hp)]
    simp only [Bool.and_eq_true, decide_eq_true_eq, List.all_eq_true]
    exact ⟨⟨h4, h2⟩, h3⟩
/-! ### going over the signs -/
def scan : Nat → Nat → List Nat → Bool
  | n, p, [] => decide (0 < n) && decide (p < 5)
  | n, p, c :: r => if c = 32 then (if n = 0 then false else scan 0 (p + 1) r) else if low c = true then (if 12 < n + 1 then false else scan (n + 1) p r) else false
theorem all_head_false {q : List Nat} {acc : List Nat} {l : List Nat} (h : ∀ q, partL (acc ++ q) = false) : (spA acc l).all partL = false := by
  obtain ⟨q, ps, e⟩ := spA_head l acc
  rw [e, List.all_cons, h q, Bool.false_and]
theorem scan_eq : ∀ (l acc : List Nat) (p : Nat), 1 ≤ p → acc.all low = true → acc.length ≤ 12 → scan acc.length p l = (decide (p - 1 + (spA acc l).length ≤ 4) && (spA acc l).all partL)
  | [], acc, p, hp, ha, hl => by
    have e : spA acc [] = [acc] := rfl
    rw [e]
    simp only [scan, List.length_singleton, List.all_cons, List.all_nil, Bool.and_true, partL, ha]
    rw [Bool.eq_iff_iff]
    simp only [Bool.and_eq_true, decide_eq_true_eq]
    omega
  | c :: r, acc, p, hp, ha, hl => by
    by_cases h : c = 32
    · subst h
      unfold scan spA
      rw [if_pos rfl, if_pos rfl]
      by_cases h0 : acc.length = 0
      · rw [if_pos h0]
        have : acc = [] := List.eq_nil_of_length_eq_zero h0
        subst this
        simp [partL]
      · rw [if_neg h0]
        have ih := scan_eq r [] (p + 1) (by omega) rfl (by simp)
        simp only [List.length_nil] at ih
        rw [ih, List.all_cons, List.length_cons]
        have : partL acc = true := by
          unfold partL
          rw [ha]; simp; omega
        rw [this, Bool.true_and]
        congr 1
        exact decide_eq_decide.mpr (by omega)
    · unfold scan spA
      rw [if_neg h, if_neg h]
      by_cases h1 : low c = true
      · rw [if_pos h1]
        by_cases h2 : 12 < acc.length + 1
        · rw [if_pos h2, all_head_false (q := []) (fun q => by
            unfold partL
            have : ¬ (acc ++ [c] ++ q).length ≤ 12 := by simp; omega
            simp only [decide_eq_false this, Bool.and_false, Bool.false_and]), Bool.and_false]
        · rw [if_neg h2]
          have ih := scan_eq r (acc ++ [c]) p hp (by simp only [List.all_append, ha, List.all_cons, h1, List.all_nil, Bool.and_true]) (by simp; omega)
          rw [List.length_append] at ih
          exact ih
      · rw [if_neg h1, all_head_false (q := []) (fun q => by
          unfold partL
          have : (acc ++ [c] ++ q).all low = false := by
            simp [List.all_append, h1]
          rw [this, Bool.and_false]), Bool.and_false]
theorem scan_word {l : List Nat} (h1 : l.length ≤ 24) : scan 0 1 l = wordL l := by
  have := scan_eq l [] 1 (by omega) rfl (by simp)
  simp only [List.length_nil] at this
  rw [this]
  unfold wordL
  rw [decide_eq_true h1, Bool.true_and]
  congr 1
  exact decide_eq_decide.mpr (by omega)
theorem wordL_nil : wordL [] = false := by decide
/-! ### cutting -/
theorem tl_cut_to {z : Str} {n : Int} (h : 0 ≤ n) : tl (cutS z none (some n)) = (tl z).take n.toNat := by
  obtain ⟨k, rfl⟩ := Int.eq_ofNat_of_zero_le h
  unfold cutS
  rw [tl_mk, HT.sIx_none, List.drop_zero, HT.sIx_nat, Nat.sub_zero, len_tl, Int.toNat_natCast, List.take_eq_take_iff]
  simp only [tl]
  omega
theorem tl_cut_from {z : Str} {n : Int} (h : 0 ≤ n) : tl (cutS z (some n) none) = (tl z).drop n.toNat := by
  obtain ⟨k, rfl⟩ := Int.eq_ofNat_of_zero_le h
  unfold cutS
  rw [tl_mk, HT.sIx_nat, HT.sIx_none, Int.toNat_natCast, len_tl, List.take_of_length_le (by rw [List.length_drop]; exact Nat.le_refl _)]
  by_cases c : k ≤ (tl z).length
  · rw [Nat.min_eq_left c]
  · rw [Nat.min_eq_right (by omega), List.drop_of_length_le (Nat.le_refl _), List.drop_of_length_le (by omega)]
theorem tl_cut_last {z : Str} : tl (cutS z none (some (-1))) = (tl z).dropLast := by
  unfold cutS
  have e : HT.sIx z.length z.length (some (-1)) = z.length - 1 := by
    show (if (-1 : Int) < 0 then ((-1 : Int) + (z.length : Int)).toNat else min (-1 : Int).toNat z.length) = z.length - 1
    rw [if_pos (by decide)]; omega
  rw [tl_mk, HT.sIx_none, List.drop_zero, e, Nat.sub_zero, len_tl, List.dropLast_eq_take]
/-! ### blanks struck at both ends -/
theorem getD_ne {l : List Nat} {k : Nat} (h : ∀ c ∈ l, c ≠ 32) (hk : k < l.length) : l.getD k 0 ≠ 32 := by
  have : l.getD k 0 = l[k] := by simp [List.getD, hk]
  rw [this]; exact h _ (List.getElem_mem hk)
theorem strip_keep {l t : List Nat} {s : Str} (e : tl s = l ++ t) (hl : l ≠ []) (h0 : l.getD 0 0 ≠ 32) (h1 : l.getD (l.length - 1) 0 ≠ 32) (ht : ∀ c ∈ t, c = 32) : tl (Txt.stripChars s (Str.ofString " ")) = l := by
  have hg : ∀ k, (Str.ofString " ").cps.contains k = decide (k = 32) := fun k => by
    have : (Str.ofString " ").cps = #[32] := by decide +kernel
    rw [this]; simp [eq_comm]
  unfold Txt.stripChars
  rw [stripBy_eq, tl_strSub, e]
  obtain ⟨a1, a2, a3⟩ := lo_facts (Str.ofString " ").cps.contains s
  have gd : ∀ k, s.cps.getD k 0 = (l ++ t).getD k 0 := fun k => by rw [← getD_list]; exact congrArg (fun z => z.getD k 0) e
  have ln : s.length = l.length + t.length := by rw [len_tl, e, List.length_append]
  have lp : 0 < l.length := List.length_pos_iff.mpr hl
  have hleft : ∀ k, k < l.length → (l ++ t).getD k 0 = l.getD k 0 := fun k hk => by simp [List.getD, List.getElem?_append_left hk]
  have lo0 : stripLo (Str.ofString " ").cps.contains true s = 0 := by
    rcases Nat.eq_zero_or_pos (stripLo (Str.ofString " ").cps.contains true s) with z | z
    · exact z
    · have := a2 0 z
      rw [hg, gd, hleft 0 lp] at this
      exact absurd (of_decide_eq_true this) h0
  rw [lo0]
  obtain ⟨b1, b2, b3, b4⟩ := hi_facts (Str.ofString " ").cps.contains s 0 (Nat.zero_le _)
  have hi : stripHi (Str.ofString " ").cps.contains true s 0 = l.length := by
    generalize stripHi (Str.ofString " ").cps.contains true s 0 = q at b1 b2 b3 b4
    by_cases c : q < l.length
    · have := b3 (l.length - 1) (by omega) (by omega)
      rw [hg, gd, hleft _ (by omega)] at this
      exact absurd (of_decide_eq_true this) h1
    · by_cases c2 : q = l.length
      · exact c2
      · exfalso
        rcases b4 with z | z
        · omega
        · rw [hg, gd] at z
          have : (l ++ t).getD (q - 1) 0 = 32 := by
            have hlt : q - 1 - l.length < t.length := by omega
            have : (l ++ t).getD (q - 1) 0 = t[q - 1 - l.length] := by
              simp [List.getD, List.getElem?_append_right (show l.length ≤ q - 1 by omega), List.getElem?_eq_getElem hlt]
            rw [this]; exact ht _ (List.getElem_mem hlt)
          rw [this] at z; simp at z
  rw [hi]; simp
/-- ends of a joined row of parts -/
theorem join_ends : ∀ {ps : List (List Nat)}, ps ≠ [] → (∀ p ∈ ps, partL p = true) → joinL [32] ps ≠ [] ∧ (joinL [32] ps).getD 0 0 ≠ 32 ∧ (joinL [32] ps).getD ((joinL [32] ps).length - 1) 0 ≠ 32
  | [], h, _ => absurd rfl h
  | [p], _, hp => by
    have h := hp p (by simp)
    have hn := partL_ne h
    have lp : 0 < p.length := List.length_pos_iff.mpr hn
    have a : ∀ c ∈ p, c ≠ 32 := fun c hc e => partL_no h (e ▸ hc)
    exact ⟨hn, getD_ne a lp, getD_ne a (by show p.length - 1 < p.length; omega)⟩
  | p :: q :: r, _, hp => by
    have h := hp p (by simp)
    have lp : 0 < p.length := List.length_pos_iff.mpr (partL_ne h)
    have a : ∀ c ∈ p, c ≠ 32 := fun c hc e => partL_no h (e ▸ hc)
    obtain ⟨i1, i2, i3⟩ := join_ends (ps := q :: r) (by simp) fun z hz => hp z (by simp [hz])
    rw [joinL_cons p (by simp)]
    have li : 0 < (joinL [32] (q :: r)).length := List.length_pos_iff.mpr i1
    refine ⟨by simp, ?_, ?_⟩
    · have : (p ++ 32 :: joinL [32] (q :: r)).getD 0 0 = p.getD 0 0 := by simp [List.getD, List.getElem?_append_left lp]
      rw [this]; exact getD_ne a lp
    · have : (p ++ 32 :: joinL [32] (q :: r)).getD ((p ++ 32 :: joinL [32] (q :: r)).length - 1) 0 = (joinL [32] (q :: r)).getD ((joinL [32] (q :: r)).length - 1) 0 := by
        simp only [List.length_append, List.length_cons, List.getD]
        rw [List.getElem?_append_right (by omega)]
        congr 1
        rw [show p.length + ((joinL [32] (q :: r)).length + 1) - 1 - p.length = ((joinL [32] (q :: r)).length - 1) + 1 by omega, List.getElem?_cons_succ]
      rw [this]; exact i3
theorem partL_take {p : List Nat} (h : partL p = true) {n : Nat} (h1 : 1 ≤ n) : partL (p.take n) = true := by
  unfold partL at h ⊢
  simp only [Bool.and_eq_true, decide_eq_true_eq, List.all_eq_true, List.length_take] at h ⊢
  exact ⟨⟨by omega, by omega⟩, fun c hc => h.2 c (List.mem_of_mem_take hc)⟩
/-- a beginning of a joined row: a joined row, or one and a blank -/
theorem join_take : ∀ {ps : List (List Nat)} {n : Nat}, ps ≠ [] → (∀ p ∈ ps, partL p = true) → 1 ≤ n → ∃ qs : List (List Nat), qs ≠ [] ∧ qs.length ≤ ps.length ∧ (∀ p ∈ qs, partL p = true) ∧
    ((joinL [32] ps).take n = joinL [32] qs ∨ (joinL [32] ps).take n = joinL [32] qs ++ [32])
  | [], _, h, _, _ => absurd rfl h
  | [p], n, _, hp, h1 => ⟨[p.take n], by simp, by simp, by simpa using partL_take (hp p (by simp)) h1, .inl rfl⟩
  | p :: q :: r, n, _, hp, h1 => by
    have h := hp p (by simp)
    rw [joinL_cons p (by simp)]
    by_cases c : n ≤ p.length
    · exact ⟨[p.take n], by simp, by simp, by simpa using partL_take h h1, .inl (by rw [List.take_append_of_le_length c]; rfl)⟩
    · by_cases c2 : n = p.length + 1
      · subst c2
        exact ⟨[p], by simp, by simp, by simpa using h, .inr (by rw [List.take_append, List.take_of_length_le (by omega), show p.length + 1 - p.length = 1 by omega]; rfl)⟩
      · obtain ⟨qs, i1, i2, i3, i4⟩ := join_take (ps := q :: r) (n := n - p.length - 1) (by simp) (fun z hz => hp z (by simp [hz])) (by omega)
        have et : (p ++ 32 :: joinL [32] (q :: r)).take n = p ++ 32 :: (joinL [32] (q :: r)).take (n - p.length - 1) := by
          rw [List.take_append, List.take_of_length_le (by omega)]
          congr 1
          rw [show n - p.length = (n - p.length - 1) + 1 by omega, List.take_succ_cons]
          rfl
        refine ⟨p :: qs, by simp, by simp at i2 ⊢; omega, fun z hz => ?_, ?_⟩
        · rcases List.mem_cons.mp hz with rfl | hz
          · exact h
          · exact i3 z hz
        · rw [et, joinL_cons p i1]
          rcases i4 with e | e
          · left; rw [e]
          · right; rw [e]; simp

/-! ### is_part, is_word: what is promised -/
def spPart : Sp := fun vs H Q _ => ∃ s : Str, vs = [.str s] ∧ s.length ≤ sizeLine ∧ Q (.bl (partL (tl s))) H
/-- any thing: a text, or a thing of another kind -/
def spIsWord (K : PySem.W.Frag) : Sp := fun vs H Q _ => ∃ x : V, vs = [x] ∧ ((∃ s : Str, x = .str s ∧ s.length ≤ 1000000 ∧ PyData.strOk s = true ∧ ∀ H', Same H H' → Q (.bl (isW s)) H') ∨ (∃ t : String, TyX K H x (.type t) ∧ kitB t "str" = some false ∧ Q (.bl false) H))
theorem mem_letters {c : Nat} : decide (c ∈ (Str.ofString "abcdefghijklmnopqrstuvwxyz").cps.toList) = low c := by
  rw [show (Str.ofString "abcdefghijklmnopqrstuvwxyz").cps.toList = [97,98,99,100,101,102,103,104,105,106,107,108,109,110,111,112,113,114,115,116,117,118,119,120,121,122] by decide +kernel]
  unfold low
  rw [Bool.eq_iff_iff]
  simp only [decide_eq_true_eq, Bool.and_eq_true, List.mem_cons, List.not_mem_nil, or_false]
  omega
theorem sign_take {s : Str} {i : Nat} {c : Nat} (h : s.cps[i]? = some c) : (tl s).take (i + 1) = (tl s).take i ++ [c] := take_more (by rw [tl, Array.getElem?_toList]; exact h)
theorem sign_mem {s : Str} {i : Nat} {c : Nat} (h : s.cps[i]? = some c) : c ∈ tl s := List.mem_of_getElem? (i := i) (by rw [tl, Array.getElem?_toList]; exact h)

theorem mem_join : ∀ {ps : List (List Nat)} {p : List Nat}, p ∈ ps → p.length ≤ (joinL [32] ps).length ∧ ∀ c ∈ p, c ∈ joinL [32] ps
  | [q], p, h => by
    have : p = q := by simpa using h
    subst this
    exact ⟨Nat.le_refl _, fun c hc => hc⟩
  | q :: r :: t, p, h => by
    rw [joinL_cons q (by simp)]
    rcases List.mem_cons.mp h with rfl | h
    · exact ⟨by simp, fun c hc => by simp [hc]⟩
    · obtain ⟨a, b⟩ := mem_join h
      exact ⟨by simp; omega, fun c hc => by simp [b c hc]⟩
theorem strOk_iff {s : Str} : PyData.strOk s = true ↔ ∀ c ∈ tl s, c < 1114112 := by
  unfold PyData.strOk
  rw [← Array.all_toList, List.all_eq_true]
  simp [tl]
/-- the parts of a text that is cut at the blanks -/
theorem split_mem {s y : Str} (h : y ∈ Txt.split s (Str.ofString " ")) : (tl y).length ≤ (tl s).length ∧ ∀ c ∈ tl y, c ∈ tl s := by
  have e := split_blank s
  have hm : tl y ∈ spA [] (tl s) := by rw [← e]; exact List.mem_map.mpr ⟨y, h, rfl⟩
  have := mem_join hm
  rw [join_spA] at this
  exact this
theorem eqv_strs_nil (l : List Str) : PyData.eqv (.list (l.map .str)) (.list []) = l.isEmpty := by
  cases l <;> rfl
theorem ok_strs {l : List Str} (h : ∀ s ∈ l, PyData.strOk s = true) : okD 1 (.list (l.map .str)) = true := by
  simp only [okD]
  exact okDs_map fun s hs => by simp [okD, h s hs]

theorem eq_blank {c : Nat} : decide (V.str ⟨#[c]⟩ = V.str (Str.ofString " ")) = decide (c = 32) := by
  rw [show (Str.ofString " ") = (⟨#[32]⟩ : Str) by decide +kernel, Bool.eq_iff_iff]
  simp

/-- a joined row cut and struck of blanks is a word -/
theorem word_cut {s : Str} {ps : List (List Nat)} {n : Int} (e : tl s = joinL [32] ps) (h1 : ps ≠ []) (h2 : ps.length ≤ 4) (h3 : ∀ p ∈ ps, partL p = true) (hn : 1 ≤ n) (hl : n ≤ 24 ∨ (tl s).length ≤ 24) :
    isW (Txt.stripChars (cutS s none (some n)) (Str.ofString " ")) = true := by
  have ec := tl_cut_to (z := s) (n := n) (by omega)
  rw [e] at ec
  obtain ⟨qs, q1, q2, q3, q4⟩ := join_take (n := n.toNat) h1 h3 (by omega)
  obtain ⟨a1, a2, a3⟩ := join_ends q1 q3
  have hlen : (joinL [32] qs).length ≤ 24 := by
    have h4 : (joinL [32] qs).length ≤ ((joinL [32] ps).take n.toNat).length := by
      rcases q4 with z | z
      · rw [z]; exact Nat.le_refl _
      · rw [z]; simp
    rw [List.length_take] at h4
    rw [e] at hl
    omega
  have et : ∃ t, tl (cutS s none (some n)) = joinL [32] qs ++ t ∧ ∀ c ∈ t, c = 32 := by
    rcases q4 with z | z
    · exact ⟨[], by rw [ec, z]; simp, fun _ h => nomatch h⟩
    · exact ⟨[32], by rw [ec, z], fun c hc => by simpa using hc⟩
  obtain ⟨t, et, ht⟩ := et
  unfold isW
  rw [strip_keep et a1 a2 a3 ht]
  exact wordL_iff.mpr ⟨qs, q1, by omega, q3, rfl, hlen⟩
theorem word_cut_word {s : Str} {n : Int} (h : isW s = true) (hn : 1 ≤ n) : isW (Txt.stripChars (cutS s none (some n)) (Str.ofString " ")) = true := by
  obtain ⟨ps, h1, h2, h3, e, hl⟩ := wordL_iff.mp h
  exact word_cut e h1 h2 h3 hn (.inr hl)
def sgn (c : Nat) : Str := ⟨#[c]⟩
theorem tl_sgn (c : Nat) : tl (sgn c) = [c] := rfl
theorem tl_empty : tl (Str.ofString "") = [] := by rw [tl_ofString]; rfl
theorem tl_join_nil (cs : List Nat) : tl (Txt.join (Str.ofString "") (cs.map sgn)) = cs := by
  rw [join_eq, tl_join, tl_empty]
  have : ∀ cs : List Nat, joinL [] ((cs.map sgn).map tl) = cs := by
    intro cs
    induction cs with
    | nil => rfl
    | cons c cs ih =>
      cases cs with
      | nil => rfl
      | cons d r =>
        show [c] ++ ([] ++ joinL [] (((d :: r).map sgn).map tl)) = _
        rw [ih]; rfl
  exact this cs
theorem tl_join_blank (ps : List Str) : tl (Txt.join (Str.ofString " ") ps) = joinL [32] (ps.map tl) := by rw [join_eq, tl_join, tl_blank]
/-- a drawn word: the box changes, a word comes -/
def spWord : Sp := fun vs H Q _ => ∃ b : Addr, vs = [.ref b] ∧ BoxAt H b ∧ ∀ (s : Str) (H' : Hp), isW s = true → BoxAt H' b → But b H H' → Q (.str s) H'
/-- the three rows of letters -/
def isLets (z : Str) : Prop := z = Str.ofString "ab" ∨ z = Str.ofString "abc" ∨ z = Str.ofString "abcdefghijklmnopqrstuvwxyz"
theorem isLets.len {z : Str} (h : isLets z) : 2 ≤ (tl z).length ∧ (tl z).length ≤ 26 := by
  rcases h with rfl | rfl | rfl <;> rw [tl_ofString] <;> decide +kernel
theorem isLets.low {z : Str} (h : isLets z) : ∀ c ∈ tl z, low c = true := by
  rcases h with rfl | rfl | rfl <;> rw [tl_ofString] <;> decide +kernel
theorem isLets.pick {r : Int} (h0 : 0 ≤ r) (h1 : r < 3) : ∃ z, atI [V.str (Str.ofString "ab"), V.str (Str.ofString "abc"), V.str (Str.ofString "abcdefghijklmnopqrstuvwxyz")] r = some (.str z) ∧ isLets z := by
  have : r = 0 ∨ r = 1 ∨ r = 2 := by omega
  rcases this with rfl | rfl | rfl
  · exact ⟨_, rfl, .inl rfl⟩
  · exact ⟨_, rfl, .inr (.inl rfl)⟩
  · exact ⟨_, rfl, .inr (.inr rfl)⟩
theorem partL_of {cs : List Nat} (h : ∀ c ∈ cs, low c = true) (h1 : 1 ≤ cs.length) (h2 : cs.length ≤ 12) : partL cs = true := by
  unfold partL
  rw [decide_eq_true h1, decide_eq_true h2, List.all_eq_true.mpr h]; rfl
section
variable {H : Hp} {Q : VK}
theorem s_ixS {z : Str} {i : Int} {c : Nat} (h : z.length ≤ sizeLine) (a : atI z.cps.toList i = some c) (q : Q (.str ⟨#[c]⟩) H) : rIxS (.str z) (.int i) H Q := ⟨z, i, c, rfl, rfl, h, a, q⟩
end
theorem atI_get' {α : Type} {l : List α} {i : Int} (h0 : 0 ≤ i) (h1 : i < l.length) : ∃ c, atI l i = some c ∧ c ∈ l := by
  obtain ⟨k, rfl⟩ := Int.eq_ofNat_of_zero_le h0
  have hk : k < l.length := by omega
  exact ⟨l[k], atI_nat (by simp [hk]), List.getElem_mem hk⟩
theorem sum_len_le {α : Type} {f : α → Nat} {n : Nat} : ∀ {l : List α}, (∀ a ∈ l, f a ≤ n) → (l.map f).sum ≤ l.length * n
  | [], _ => by simp
  | a :: l, h => by
    have h1 := h a (by simp)
    have h2 := sum_len_le (l := l) fun b hb => h b (by simp [hb])
    simp only [List.map_cons, List.sum_cons, List.length_cons]
    rw [Nat.add_mul]; omega

/-! ### texts in bounds -/
structure Tx (n : Nat) (s : Str) : Prop where
  len : s.length ≤ n
  ok : PyData.strOk s = true
theorem Tx.mono {n m : Nat} {s : Str} (h : Tx n s) (l : n ≤ m) : Tx m s := ⟨Nat.le_trans h.len l, h.ok⟩
theorem mem_cutS {z : Str} {lo hi : Option Int} {c : Nat} (h : c ∈ tl (cutS z lo hi)) : c ∈ tl z := by
  unfold cutS at h
  exact List.mem_of_mem_drop (List.mem_of_mem_take h)
theorem Tx.cut {n : Nat} {s : Str} (h : Tx n s) (lo hi : Option Int) : Tx n (cutS s lo hi) :=
  ⟨Nat.le_trans (cutS_length _ _ _) h.len, strOk_iff.mpr fun c hc => strOk_iff.mp h.ok c (mem_cutS hc)⟩
theorem Tx.app {n m : Nat} {x y : Str} (h : Tx n x) (g : Tx m y) : Tx (n + m) (x ++ y) :=
  ⟨by
    have := h.len
    have := g.len
    rw [len_tl] at *
    rw [tl_append, List.length_append]; omega, strOk_iff.mpr fun c hc => by
    rw [tl_append] at hc
    rcases List.mem_append.mp hc with hc | hc
    · exact strOk_iff.mp h.ok c hc
    · exact strOk_iff.mp g.ok c hc⟩
theorem wordL_len {l : List Nat} (h : wordL l = true) : 1 ≤ l.length ∧ l.length ≤ 24 := by
  obtain ⟨ps, h1, h2, h3, e, hl⟩ := wordL_iff.mp h
  obtain ⟨a, _, _⟩ := join_ends h1 h3
  rw [← e] at a
  exact ⟨List.length_pos_iff.mpr a, hl⟩
theorem mem_joinL : ∀ {ps : List (List Nat)} {c : Nat}, c ∈ joinL [32] ps → c = 32 ∨ ∃ p ∈ ps, c ∈ p
  | [], c, h => by simp [joinL] at h
  | [p], c, h => .inr ⟨p, by simp, h⟩
  | p :: q :: r, c, h => by
    rw [joinL_cons p (by simp)] at h
    rcases List.mem_append.mp h with h | h
    · exact .inr ⟨p, by simp, h⟩
    · rcases List.mem_cons.mp h with h | h
      · exact .inl h
      · rcases mem_joinL h with h | ⟨z, hz, hc⟩
        · exact .inl h
        · exact .inr ⟨z, by simp [hz], hc⟩
theorem partL_low {p : List Nat} (h : partL p = true) : ∀ c ∈ p, low c = true := by
  unfold partL at h
  simp only [Bool.and_eq_true, List.all_eq_true] at h
  exact h.2
/-- a word's signs -/
theorem wordL_signs {l : List Nat} (h : wordL l = true) : ∀ c ∈ l, low c = true ∨ c = 32 := fun c hc => by
  obtain ⟨ps, h1, h2, h3, rfl, hl⟩ := wordL_iff.mp h
  rcases mem_joinL hc with e | ⟨p, hp, hcp⟩
  · exact .inr e
  · exact .inl (partL_low (h3 p hp) c hcp)
theorem low_lt {c : Nat} (h : low c = true ∨ c = 32) : c < 1114112 := by
  rcases h with h | h
  · unfold low at h
    simp only [Bool.and_eq_true, decide_eq_true_eq] at h
    omega
  · omega
theorem Tx.word {s : Str} (h : isW s = true) : Tx 24 s := ⟨by rw [len_tl]; exact (wordL_len h).2, strOk_iff.mpr fun c hc => low_lt (wordL_signs h c hc)⟩
theorem isW_len {s : Str} (h : isW s = true) : 1 ≤ s.length ∧ s.length ≤ 24 := by
  have := wordL_len h
  rw [len_tl]; exact this
theorem Tx.join {ps : List Str} {n : Nat} (h : ∀ p ∈ ps, Tx n p) : Tx (ps.length * n + ps.length) (Txt.join (Str.ofString " ") ps) :=
  ⟨by
    have h1 := PySem.StrLaws.join_length_le (Str.ofString " ") ps
    rw [← join_eq, len_tl (Str.ofString " "), tl_blank] at h1
    simp only [List.length_singleton] at h1
    have h2 := sum_len_le (f := fun p : Str => p.length) (n := n) (l := ps) fun p hp => (h p hp).len
    omega, strOk_iff.mpr fun c hc => by
    rw [tl_join_blank] at hc
    rcases mem_joinL hc with e | ⟨p, hp, hcp⟩
    · omega
    · obtain ⟨q, hq, rfl⟩ := List.mem_map.mp hp
      exact strOk_iff.mp (h q hq).ok c hcp⟩
theorem cutV_strs (ss : List Str) (lo hi : Option Int) : ∃ ms : List Str, cutV (ss.map V.str) lo hi = ms.map V.str ∧ ms.length ≤ ss.length ∧ ∀ m ∈ ms, m ∈ ss := by
  refine ⟨(ss.drop (HT.sIx (ss.map V.str).length 0 lo)).take (HT.sIx (ss.map V.str).length (ss.map V.str).length hi - HT.sIx (ss.map V.str).length 0 lo), ?_, ?_, ?_⟩
  · unfold cutV; rw [List.map_take, List.map_drop]
  · rw [List.length_take, List.length_drop]; omega
  · intro m hm; exact List.mem_of_mem_drop (List.mem_of_mem_take hm)
/-! ### things of any kind -/
inductive Thing (H : Hp) : V → Prop where
  | str (s : Str) : Tx 1000 s → Thing H (.str s)
  | non : Thing H .non
  | bl (b : Bool) : Thing H (.bl b)
  | int (i : Int) : Thing H (.int i)
  | lst {a : Addr} {xs : List V} : H a = some (.lst xs) → Thing H (.ref a)
  | tup {a : Addr} {xs : List V} : H a = some (.tup xs) → Thing H (.ref a)
theorem Thing.same {H H' : Hp} {x : V} (h : Thing H x) (e : Same H H') : Thing H' x := by
  cases h with
  | str s t => exact .str s t
  | non => exact .non
  | bl b => exact .bl b
  | int i => exact .int i
  | lst h => exact .lst (e _ _ h)
  | tup h => exact .tup (e _ _ h)
theorem Thing.ty {K : PySem.W.Frag} {H : Hp} {x : V} (h : Thing H x) : (∃ s, x = .str s ∧ Tx 1000 s) ∨ (∃ t : String, TyX K H x (.type t) ∧ kitB t "str" = some false) := by
  cases h with
  | str s t => exact .inl ⟨s, rfl, t⟩
  | non => exact .inr ⟨_, .base .non, kb_NoneType_str⟩
  | bl b => exact .inr ⟨_, .base (.bl b), kb_bool_str⟩
  | int i => exact .inr ⟨_, .base (.int i), kb_int_str⟩
  | lst h => exact .inr ⟨_, .base (.lst h), kb_list_str⟩
  | tup h => exact .inr ⟨_, .base (.tup h), kb_tuple_str⟩
def spThing : Sp := fun vs H Q _ => ∃ b : Addr, vs = [.ref b] ∧ BoxAt H b ∧ ∀ (x : V) (H' : Hp), Thing H' x → BoxAt H' b → But b H H' → Q x H'
section
variable {H : Hp} {Q : VK}
theorem s_addS {x y : Str} (h : x.length + y.length ≤ sizeLine) (q : Q (.str (x ++ y)) H) : (fun (x y : V) (H : Hp) (Q : VK) => ∃ i j, x = V.str i ∧ y = V.str j ∧ i.length + j.length ≤ sizeLine ∧ Q (.str (i ++ j)) H) (.str x) (.str y) H Q := ⟨x, y, rfl, rfl, h, q⟩
end
end Ah
set_option Elab.async false
set_option linter.all false
set_option maxRecDepth 100000
set_option maxHeartbeats 4000000
/-! sorted, min, remove over data -/
namespace Ah
open PySem PySem.Spec PyProof.Rows L2
/-- the values go with the items, one by one -/
theorem each_of_paired {α : Type} {β : Type} {R : V → β → Prop} : ∀ {xs : List V} {bs : List β} {us : List Value}, Paired R xs bs → Vals xs us → PySem.W.EachIs (fun u b => ∃ x, RelV x u ∧ R x b) us bs
  | _, _, _, .nil, .nil => .nil
  | _, _, _, .cons h t, .cons r s => .cons ⟨_, r, h⟩ (each_of_paired (α := α) t s)
theorem paired_of_each {β : Type} {R : V → β → Prop} : ∀ {us : List Value} {bs : List β}, PySem.W.EachIs (fun u b => ∃ x, RelV x u ∧ R x b) us bs → ∃ ys, Vals ys us ∧ Paired R ys bs
  | _, _, .nil => ⟨[], .nil, .nil⟩
  | _, _, .cons ⟨x, r, h⟩ t => by
    obtain ⟨ys, a, b⟩ := paired_of_each t
    exact ⟨x :: ys, .cons r a, .cons h b⟩
/-- sorted(xs): xs stands for the items bs, each by R; enc tells their data -/
def rSortD (K : PySem.W.Frag) : List V → Hp → VK → Prop := fun vs H Q => ∃ (β : Type) (a : Addr) (xs : List V) (bs : List β) (enc : β → PyData) (R : V → β → Prop), vs = [V.ref a] ∧ SqL K H a xs ∧ Paired R xs bs ∧ (∀ x b, R x b → Dp K H x (enc b)) ∧
  PySem.W.AllAlike (bs.map enc) ∧ PySem.W.Sortable (bs.map enc) ∧ (∀ b ∈ bs, (enc b).depth ≤ 50) ∧
  ∀ (ys : List V) (p : Addr), Paired R ys (bs.mergeSort (PySem.W.dataLe false enc)) → H p = none → Q (.ref p) (upd H p (.lst ys))
theorem Paired.len {α β : Type} {R : α → β → Prop} : ∀ {xs : List α} {bs : List β}, Paired R xs bs → xs.length = bs.length
  | _, _, .nil => rfl
  | _, _, .cons _ t => by simp [Paired.len t]
section
variable {X : Cx}
theorem cr_sortD (hu : X.A.units + 64 < cLine) : CallR X (.builtin "sorted") (rSortD X.K) := by
  intro pins s σ H vs us Q I r h
  obtain ⟨β, a, xs, bs, enc, R, rfl, hS, hR, hE, hal, hk, hd, q⟩ := h
  obtain ⟨its, rv, hl, hz⟩ := I.list hS
  obtain ⟨u, rfl, ru⟩ := vals1 r
  cases ru
  have e := each_of_paired (α := Unit) hR rv
  have er : PySem.W.EachIs (fun v b => ∃ as, Reads s.heap v (enc b) as) its bs := e.mono fun v b ⟨x, rx, hx⟩ => Dp.reads I (enc b) x v (hE x b hx) rx
  have lb : bs.length ≤ sizeLine := by rw [← Paired.len hR]; exact hz
  refine PySem.W.sorted_data hl.isList e er hal hk lb (fun b hb => by have := hd b hb; omega) fun out ol oe => ?_
  obtain ⟨ys, g1, g2⟩ := paired_of_each oe
  obtain ⟨n, hn⟩ := sortedAll_at s.heap its out.toArray
  have hnew : s.heap.objs.size ≤ s.heap.objs.size + 1 := Nat.le_succ _
  refine ⟨.ref (s.heap.objs.size + 1), upd H (s.heap.objs.size + 1) (.lst ys), I.laid (t' := s.toks) (fun b o eo => sortedAll_old eo) hnew ⟨by rw [g1.length, ol]; exact lb, out, n, g1, hn⟩, rfl, q ys _ g2 (I.hok.fresh hnew)⟩
/-- min(xs) of data: an item of the least datum -/
def rMinD (K : PySem.W.Frag) : List V → Hp → VK → Prop := fun vs H Q => ∃ (a : Addr) (xs : List V) (d : PyData) (ds : List PyData), vs = [V.ref a] ∧ SqL K H a xs ∧ DpAll K H xs (d :: ds) ∧ PySem.W.AlikeAll (d :: ds) ∧ PyData.depthAll (d :: ds) ≤ 50 ∧
  ∀ (i : Nat) (x : V), xs[i]? = some x → (d :: ds)[i]? = some (PySem.W.minD d ds) → Q x H
theorem minD_mem (d : PyData) : ∀ ds : List PyData, PySem.W.minD d ds ∈ d :: ds := by
  intro ds
  unfold PySem.W.minD
  induction ds generalizing d with
  | nil => simp
  | cons e ds ih =>
    rw [List.foldl_cons]
    by_cases h : PySem.W.dataLt e d = true
    · rw [if_pos h]
      have := ih e
      rcases List.mem_cons.mp this with h1 | h1
      · rw [h1]; simp
      · simp [h1]
    · rw [if_neg h]
      have := ih d
      rcases List.mem_cons.mp this with h1 | h1
      · rw [h1]; simp
      · simp [h1]
theorem cr_minD (hc : X.calm = true) (hu : X.A.units + 64 < cLine) : CallR X (.builtin "min") (rMinD X.K) := by
  intro pins s σ H vs us Q I r h
  obtain ⟨a, xs, d, ds, rfl, hS, hD, hal, hdp, q⟩ := h
  obtain ⟨its, rv, hl, hz⟩ := I.list hS
  obtain ⟨u, rfl, ru⟩ := vals1 r
  cases ru
  obtain ⟨as, hr⟩ := Dp.readsAll I (d :: ds) xs its hD rv
  refine PySem.W.min_list_data (I.ok.hd hc) hl.isList hr hal (by omega) fun i v h' tk bs hv hm hk => ?_
  have hv' : its[i]? = some v := by simpa using hv
  have hx : ∃ x, xs[i]? = some x := by
    cases e : xs[i]? with
    | some x => exact ⟨x, rfl⟩
    | none => rw [Vals.none_of rv e] at hv'; cases hv'
  obtain ⟨x, hx⟩ := hx
  obtain ⟨v', hv2, rx⟩ := Vals.get rv hx
  rw [hv'] at hv2; cases hv2
  obtain ⟨bs', hb', hi, hmem, _⟩ := PySem.W.readsAll_at hr i v hv'
  have hb2 := PyProof.Rows.Reads.keeps hk hb'
  have e := PySem.W.alike_unique _ _ _ _ _ (hal.1 _ hmem _ (minD_mem d ds)) hb2 hm
  have I1 : Inv X pins σ H { s with heap := h', toks := tk } := I.kept hk
  refine ⟨x, H, I1, rx, q i x hx ?_⟩
  rw [← e]
  simp [List.getD, List.getElem?_eq_getElem hi]
/-- xs.remove(y) of data: the first item that is the same datum -/
def rRemD (K : PySem.W.Frag) : V → List V → Hp → VK → Prop := fun x vs H Q => ∃ (l : Addr) (xs : List V) (y : V) (ds : List PyData) (d : PyData) (j : Nat), x = .ref l ∧ vs = [y] ∧ H l = some (.lst xs) ∧ DpAll K H xs ds ∧ Dp K H y d ∧ PyData.plainAll ds = true ∧ d.plain = true ∧ PyData.depthAll ds ≤ 50 ∧
  PySem.SeqAt.dataPlace ds d = some j ∧ Q .non (upd H l (.lst (xs.eraseIdx j)))
theorem mt_remD (hu : X.A.units + 64 < cLine) : MtM X "list.remove" (rRemD X.K) := by
  intro pins s σ H x vs v us Q I rx rxs h
  obtain ⟨l, xs, y, ds, d, j, rfl, rfl, hH, hD, hd, hp, hpd, hdp, hj, q⟩ := h
  cases rx
  obtain ⟨u, rfl, ru⟩ := rxs.one
  obtain ⟨z, its, n, r, hl, e⟩ := I.lstM hH
  obtain ⟨as, hr⟩ := Dp.readsAll I ds xs its hD r
  obtain ⟨bs, hb⟩ := Dp.reads I d y u hd ru
  refine PySem.SeqAt.remove_list_data ⟨_, e, rfl, n, rfl⟩ hr hb hp hpd (by omega) hj (by rw [List.size_toArray]; omega) ?_
  have rr := r.eraseIdx j
  refine ⟨.non, _, I.lset (its' := its.eraseIdx j) (t' := s.toks) hH e ?_ rr ?_, rfl, q⟩
  · show its.toArray.eraseIdxIfInBounds j = (its.eraseIdx j).toArray
    rw [List.eraseIdxIfInBounds_toArray]
  · exact Nat.le_trans (List.length_eraseIdx_le ..) z
/-- x > y, x < y of data -/
def rGtD (K : PySem.W.Frag) : R2 := fun x y H Q => ∃ d e, Dp K H x d ∧ Dp K H y e ∧ PySem.W.alike d e = true ∧ d ≠ .none ∧ d.depth ≤ 50 ∧ Q (.bl (PySem.W.dataLt e d)) H
def rLtD (K : PySem.W.Frag) : R2 := fun x y H Q => ∃ d e, Dp K H x d ∧ Dp K H y e ∧ PySem.W.alike d e = true ∧ d ≠ .none ∧ d.depth ≤ 50 ∧ Q (.bl (PySem.W.dataLt d e)) H
theorem op_gtD (hu : X.A.units + 64 < cLine) : OpR X (compareOp .Gt) (rGtD X.K) := by
  intro pins s σ H x y v u Q I rx ry h
  obtain ⟨d, e, hx, hy, hal, hn, hdp, q⟩ := h
  obtain ⟨as, ra⟩ := Dp.reads I d x v hx rx
  obtain ⟨bs, rb⟩ := Dp.reads I e y u hy ry
  exact PySem.W.gt_data ra rb hal hn (by have := Nat.min_le_left d.depth e.depth; omega) (fin_bl I q rfl)
theorem op_ltD (hu : X.A.units + 64 < cLine) : OpR X (compareOp .Lt) (rLtD X.K) := by
  intro pins s σ H x y v u Q I rx ry h
  obtain ⟨d, e, hx, hy, hal, hn, hdp, q⟩ := h
  obtain ⟨as, ra⟩ := Dp.reads I d x v hx rx
  obtain ⟨bs, rb⟩ := Dp.reads I e y u hy ry
  exact PySem.W.lt_data ra rb hal hn (by have := Nat.min_le_left d.depth e.depth; omega) (fin_bl I q rfl)
theorem op_gtDK {K : PySem.W.Frag} (hK : X.K = K) (hu : X.A.units + 64 < cLine) : OpR X (compareOp .Gt) (rGtD K) := hK ▸ op_gtD hu
theorem op_ltDK {K : PySem.W.Frag} (hK : X.K = K) (hu : X.A.units + 64 < cLine) : OpR X (compareOp .Lt) (rLtD K) := hK ▸ op_ltD hu
/-- sorted(d) of a dict whose keys are texts -/
def rSortDict : List V → Hp → VK → Prop := fun xs H Q => ∃ (a : Addr) (kvs : List (Key × V)) (ks : List Str), xs = [.ref a] ∧ Rd H a (.dK kvs) ∧ kvs.map (·.1) = ks.map Sum.inr ∧
    ∀ p, H p = none → Q (.ref p) (upd H p (.lst ((ks.mergeSort (PySem.W.dataLe false PyData.str)).map V.str)))
theorem each_strs {h : Heap} : ∀ {us : List Value} {ks : List Str}, StrsAre us ks → PySem.W.EachIs (fun u b => ∃ as, Reads h u (PyData.str b) as) us ks
  | _, _, .nil => .nil
  | _, _, .cons x t r => .cons ⟨_, Reads.str x t⟩ (each_strs r)
theorem each_strs2 : ∀ {us : List Value} {ks : List Str}, StrsAre us ks → PySem.W.EachIs (fun u b => ∃ t, u = Value.str b t) us ks
  | _, _, .nil => .nil
  | _, _, .cons x t r => .cons ⟨t, rfl⟩ (each_strs2 r)
theorem vals_each : ∀ {us : List Value} {ks : List Str}, PySem.W.EachIs (fun u b => ∃ t, u = Value.str b t) us ks → Vals (ks.map V.str) us
  | _, _, .nil => .nil
  | _, _, .cons ⟨t, e⟩ r => .cons ⟨t, e⟩ (vals_each r)
theorem alike_strs (ks : List Str) : PySem.W.AllAlike (ks.map PyData.str) := PySem.W.AllAlike.of fun a b => by simp [PySem.W.alike]
theorem sortable_strs (ks : List Str) : PySem.W.Sortable (ks.map PyData.str) := PySem.W.Sortable.others fun b => ⟨by simp, by simp⟩
theorem call_sortDict (hcalm : X.calm = true) (hu : X.A.units + 64 < cLine) : CallR X (.builtin "sorted") rSortDict := by
  intro pins s σ H xs us Q I r q
  obtain ⟨a, kvs, ks, ex, hd, hks, q⟩ := q
  subst ex
  obtain ⟨u, eu, rx⟩ := vals1 r
  subst eu
  cases rx
  obtain ⟨z, lo, vs, rel, dd⟩ := dk_rd I.hok hd
  obtain ⟨ep, hat⟩ := dd.dictAt
  have hkeys : vs.map (·.1) = ks.map Sum.inr := rel.keys.symm.trans hks
  have hl : vs.length = ks.length := by
    have e := congrArg List.length hkeys
    rw [List.length_map, List.length_map] at e
    exact e
  have h16 : vs.length ≤ sizeLine := by rw [← rel.length]; exact z
  refine Calls.call_function_entry PyProof.Rows.kind_sorted PyProof.Rows.plain_sorted PyProof.Rows.entry_sorted (PyProof.Rows.args_sorted1 _) ?_
  unfold Builtin.«sorted»
  refine wpAny_bind (m := checkCount "sorted" 1 1 _) (wpAny_pure ?_)
  refine wpAny_bind (PySem.W.kdu_collect (A := X.A.in1) (PySem.W.kdl_dict (knd := mixKind X.prog X.w) (kvs := vs) (ep := ep) lo) (I.ok.hd hcalm) hat h16 fun h' tk acc hk hacc => ?_)
  have hal : acc.toList.length = ks.length := by rw [Array.length_toList, hacc.1, hl]
  have hS : StrsAre acc.toList ks := strs_at hal fun j v e => by
    obtain ⟨k, x, e1, e2⟩ := hacc.2 j v (by rw [← Array.getElem?_toList]; exact e)
    have e3 : (vs.map (·.1))[j]? = some k := by rw [List.getElem?_map, e1]; all_goals rfl
    rw [hkeys, List.getElem?_map] at e3
    cases e4 : ks[j]? with
    | none => rw [e4] at e3; cases e3
    | some y =>
      rw [e4] at e3
      have e5 : Sum.inr y = k := Option.some.inj e3
      subst e5
      obtain ⟨t, ev⟩ := Value.isStrOf_shape (x := y) (v := v) e2
      exact ⟨y, t, rfl, ev⟩
  have I1 : Inv X pins σ H { s with heap := h', toks := tk } := I.kept hk
  have ln : acc.toList.length ≤ sizeLine := by rw [hal, ← hl]; exact h16
  refine wpAny_bind (wpAny_newList ?_ ln)
  have hoL : (h'.push (seqObj "list" acc.toList.toArray 0)).get? h'.objs.size = some (seqObj "list" acc.toList.toArray 0) := Heap.get?_push_size _ rfl
  show wpAny _ _ _ _ _ { s with heap := h'.push (seqObj "list" acc.toList.toArray 0), toks := tk }
  have er := each_strs (h := PySem.W.sortingHeap (h'.push (seqObj "list" acc.toList.toArray 0)) h'.objs.size acc.toList) hS
  have oe := PySem.W.sortVals_data (enc := PyData.str) false (each_strs2 hS) er (alike_strs ks)
  refine wpAny_bind (wpAny_holding (wpAny_call_entry PyProof.Rows.slot_list_sort ⟨_, hoL, rfl⟩ PyProof.Rows.entry_list_sort
    (PySem.W.list_sort_vals (s := { s with heap := h'.push (seqObj "list" acc.toList.toArray 0), toks := tk }) hoL
      (PySem.W.SortsAt.data (s := { s with heap := PySem.W.sortingHeap (h'.push (seqObj "list" acc.toList.toArray 0)) h'.objs.size acc.toList, toks := tk }) (PySem.W.each_map (R := fun v d => ∃ as, Reads (PySem.W.sortingHeap (h'.push (seqObj "list" acc.toList.toArray 0)) h'.objs.size acc.toList) v d as) PyData.str er) (alike_strs ks) (sortable_strs ks) (fun d hd => by
        obtain ⟨y, _, rfl⟩ := List.mem_map.mp hd
        show X.A.in1.in1.units + PyData.depth (.str y) < cLine
        simp only [PyData.depth]
        show X.A.units + 1 + 1 + 0 < cLine
        omega)) ln ⟨_, rfl, ?_⟩)
    (PyProof.Rows.args_list_sort _)))
  obtain ⟨e', he'⟩ := PyProof.Rows.sortedHeap_at (vs := acc.toList) (out := (PySem.W.sortVals (PySem.W.dataKind (PySem.W.sortingHeap (h'.push (seqObj "list" acc.toList.toArray 0)) h'.objs.size acc.toList) (ks.map PyData.str)) false acc.toList acc.toList).toArray) hoL
  have hlen : ((ks.mergeSort (PySem.W.dataLe false PyData.str)).map V.str).length ≤ sizeLine := by
    rw [List.length_map, List.length_mergeSort, ← hal]; exact ln
  refine wpAny_pure ⟨_, rfl, .ref h'.objs.size, upd H h'.objs.size (.lst ((ks.mergeSort (PySem.W.dataLe false PyData.str)).map V.str)), I1.laid (t' := tk) (fun b u e => ?_) (Nat.le_refl _)
    (show ObjOk X.prog X.w _ _ _ (.lst _) from ⟨hlen, _, e', vals_each oe, he'⟩), rfl, q _ (I1.hok.fresh (Nat.le_refl _))⟩
  have hb : b < h'.objs.size := Heap.lt_size e
  rw [PyProof.Rows.sortedHeap_old (Nat.ne_of_lt hb) (by rw [size_push']; exact Nat.lt_succ_of_lt hb)]
  exact Heap.get?_push_of_some _ e
end
end Ah
set_option Elab.async false
set_option linter.all false
set_option maxRecDepth 100000
set_option maxHeartbeats 4000000
/-! rated words -/
namespace Ah
open PySem PySem.Spec PyProof.Rows L2 TL
/-! ### comprehensions that lay data -/
def PvD (K : PySem.W.Frag) (res : Nat → List PyData) (H1 : Hp) (D : Addr) (i : Nat) (H : Hp) : Prop :=
  Same H1 H ∧ ∃ (xs : List V) (G : Hp), H D = some (.lst xs) ∧ G D = none ∧ Same H1 G ∧ Same G H ∧ DpAll K G xs (res i)
section
variable {K : PySem.W.Frag} {res : Nat → List PyData} {H1 H H4 : Hp} {D : Addr} {i : Nat} {y : V} {d : PyData}
theorem lcD_begin (hD : H1 D = none) (r0 : res 0 = []) : PvD K res H1 D 0 (upd H1 D (.lst [])) :=
  ⟨Same.new (Same.refl _) hD, [], H1, upd_same, hD, Same.refl _, Same.new (Same.refl _) hD, by rw [r0]; exact .nil⟩
/-- an item that reads in every heap -/
theorem lcD_put (p : PvD K res H1 D i H) (hD : H1 D = none) (hy : ∀ G, Dp K G y d) (er : res (i + 1) = res i ++ [d]) (hl : (res i).length < sizeLine) :
    ∃ acc, H D = some (.lst acc) ∧ acc.length < sizeLine ∧ PvD K res H1 D (i + 1) (upd H D (.lst (acc ++ [y]))) := by
  obtain ⟨s, xs, G, e1, e2, e3, e4, e5⟩ := p
  refine ⟨xs, e1, by rw [DpAll.length e5]; exact hl, Same.mut s hD, xs ++ [y], G, upd_same, e2, e3, Same.mut e4 e2, ?_⟩
  rw [er]
  exact DpAll.append e5 (.cons (hy G) .nil)
/-- an item that reads ahead of the loop -/
theorem lcD_putO (p : PvD K res H1 D i H) (hD : H1 D = none) (hy : Dp K H1 y d) (er : res (i + 1) = res i ++ [d]) (hl : (res i).length < sizeLine) :
    ∃ acc, H D = some (.lst acc) ∧ acc.length < sizeLine ∧ PvD K res H1 D (i + 1) (upd H D (.lst (acc ++ [y]))) := by
  obtain ⟨s, xs, G, e1, e2, e3, e4, e5⟩ := p
  refine ⟨xs, e1, by rw [DpAll.length e5]; exact hl, Same.mut s hD, xs ++ [y], G, upd_same, e2, e3, Same.mut e4 e2, ?_⟩
  rw [er]
  exact DpAll.append e5 (.cons (Dp.same e3 hy) .nil)
/-- a new tuple -/
theorem lcD_putT {t : Addr} {zs : List V} {es : List PyData} (p : PvD K res H1 D i H) (hD : H1 D = none) (ht : H t = none) (hz : ∀ G, DpAll K G zs es) (er : res (i + 1) = res i ++ [.tuple es]) (hl : (res i).length < sizeLine) :
    ∃ acc, (upd H t (.tup zs)) D = some (.lst acc) ∧ acc.length < sizeLine ∧ PvD K res H1 D (i + 1) (upd (upd H t (.tup zs)) D (.lst (acc ++ [.ref t]))) := by
  obtain ⟨s, xs, G, e1, e2, e3, e4, e5⟩ := p
  have nt : D ≠ t := ne_of_none e1 ht
  have gt : G t = none := e4.free ht
  have sG : Same G (upd G t (.tup zs)) := Same.new (Same.refl _) gt
  refine ⟨xs, keepN e1 ht, by rw [DpAll.length e5]; exact hl, Same.mut (Same.new s ht) hD, xs ++ [.ref t], upd G t (.tup zs), upd_same, by rw [upd_ne nt]; exact e2, e3.trans sG, ?_, ?_⟩
  · intro a o e
    have na : a ≠ D := fun z => by
      rw [z, upd_ne nt, e2] at e; cases e
    rw [upd_ne na]
    by_cases c : a = t
    · subst c; rw [upd_same] at e ⊢; exact e
    · rw [upd_ne c] at e ⊢; exact e4 _ _ e
  · rw [er]
    exact DpAll.append (DpAll.same sG e5) (.cons (.tup (SqT.of upd_same) (hz _)) .nil)
theorem lcD_skip (p : PvD K res H1 D i H) (er : res (i + 1) = res i) : PvD K res H1 D (i + 1) H := by
  obtain ⟨s, xs, G, e⟩ := p
  exact ⟨s, xs, G, by rw [er]; exact e⟩
theorem lcD_end {n : Nat} {ds : List PyData} (p : PvD K res H1 D n H) (e : res n = ds) : Same H1 H ∧ ∃ xs, H D = some (.lst xs) ∧ DpAll K H xs ds := by
  obtain ⟨s, xs, G, e1, e2, e3, e4, e5⟩ := p
  exact ⟨s, xs, e1, by rw [← e]; exact DpAll.same e4 e5⟩
end
/-- the data of a map, of a filter and a map, so far -/
def rsM {α : Type} (l : List α) (g : α → PyData) (i : Nat) : List PyData := (l.take i).map g
theorem rsM_0 {α : Type} {l : List α} {g : α → PyData} : rsM l g 0 = [] := by simp [rsM]
theorem rsM_s {α : Type} {l : List α} {g : α → PyData} {i : Nat} {x : α} (h : l[i]? = some x) : rsM l g (i + 1) = rsM l g i ++ [g x] := by
  unfold rsM; rw [take_more h, List.map_append]; rfl
theorem rsM_all {α : Type} {l : List α} {g : α → PyData} {n : Nat} (h : n = l.length) : rsM l g n = l.map g := by subst h; simp [rsM]
theorem rsM_len {α : Type} {l : List α} {g : α → PyData} {i : Nat} (h : l.length ≤ 100000) : (rsM l g i).length < sizeLine := by
  have : (rsM l g i).length ≤ l.length := by simp [rsM]; omega
  rw [sizeLine_eq]; omega
def rsF {α : Type} (l : List α) (p : α → Bool) (g : α → PyData) (i : Nat) : List PyData := ((l.take i).filter p).map g
theorem rsF_0 {α : Type} {l : List α} {p : α → Bool} {g : α → PyData} : rsF l p g 0 = [] := by simp [rsF]
theorem rsF_y {α : Type} {l : List α} {p : α → Bool} {g : α → PyData} {i : Nat} {x : α} (h : l[i]? = some x) (c : p x = true) : rsF l p g (i + 1) = rsF l p g i ++ [g x] := by
  unfold rsF; rw [take_more h, List.filter_append, List.map_append]; simp [c]
theorem rsF_n {α : Type} {l : List α} {p : α → Bool} {g : α → PyData} {i : Nat} {x : α} (h : l[i]? = some x) (c : p x = false) : rsF l p g (i + 1) = rsF l p g i := by
  unfold rsF; rw [take_more h, List.filter_append, List.map_append]; simp [c]
theorem rsF_all {α : Type} {l : List α} {p : α → Bool} {g : α → PyData} {n : Nat} (h : n = l.length) : rsF l p g n = (l.filter p).map g := by subst h; simp [rsF]
theorem rsF_len {α : Type} {l : List α} {p : α → Bool} {g : α → PyData} {i : Nat} (h : l.length ≤ 100000) : (rsF l p g i).length < sizeLine := by
  have h1 : (rsF l p g i).length ≤ (l.take i).length := by unfold rsF; rw [List.length_map]; exact List.length_filter_le _ _
  have h2 : (l.take i).length ≤ l.length := by simp; omega
  rw [sizeLine_eq]; omega
/-! ### rated words -/
abbrev RW := Str × Int
def dP (e : RW) : PyData := .tuple [.str e.1, .int e.2]
def dRated (l : List RW) : PyData := .list (l.map dP)
theorem dP_inv {K : PySem.W.Frag} {H : Hp} {x : V} {e : RW} (h : Dp K H x (dP e)) : ∃ t, x = .ref t ∧ SqT K H t [.str e.1, .int e.2] := by
  unfold dP at h
  cases h with
  | tup s a =>
    cases a with
    | cons h1 t =>
      cases t with
      | cons h2 t =>
        cases t
        cases h1
        cases h2
        exact ⟨_, rfl, s⟩
theorem dRated_inv {K : PySem.W.Frag} {H : Hp} {x : V} {l : List RW} (h : Dp K H x (dRated l)) : ∃ p xs, x = .ref p ∧ SqL K H p xs ∧ DpAll K H xs (l.map dP) := by
  unfold dRated at h
  cases h with
  | lst s a => exact ⟨_, _, rfl, s, a⟩
theorem mapdP_get {K : PySem.W.Frag} {H : Hp} {xs : List V} {l : List RW} {i : Nat} {x : V} (h : DpAll K H xs (l.map dP)) (hi : xs[i]? = some x) : ∃ e t, l[i]? = some e ∧ x = .ref t ∧ SqT K H t [.str e.1, .int e.2] := by
  obtain ⟨d, h1, h2⟩ := DpAll.get h hi
  obtain ⟨e, he, rfl⟩ := map_get h1
  obtain ⟨t, rfl, ht⟩ := dP_inv h2
  exact ⟨e, t, he, rfl, ht⟩
/-- a comes no later than b: the greater worth, then the lesser word -/
def leR (a b : RW) : Bool := decide (b.2 < a.2) || (decide (a.2 = b.2) && !decide (tl b.1 < tl a.1))
def encR (e : RW) : PyData := .tuple [.int (0 - e.2), .str e.1]

theorem encR_inv {K : PySem.W.Frag} {H : Hp} {x : V} {e : RW} (h : Dp K H x (encR e)) : ∃ t, x = .ref t ∧ SqT K H t [.int (0 - e.2), .str e.1] := by
  unfold encR at h
  cases h with
  | tup s a =>
    cases a with
    | cons h1 t =>
      cases t with
      | cons h2 t =>
        cases t
        cases h1
        cases h2
        exact ⟨_, rfl, s⟩
theorem sortable_encR (l : List RW) : PySem.W.Sortable (l.map encR) := PySem.W.Sortable.tuples fun b => ⟨_, _, rfl⟩
theorem alike_encR (l : List RW) : PySem.W.AllAlike (l.map encR) := PySem.W.AllAlike.of fun a b => by simp [encR, PySem.W.alike, PySem.W.alikeAll]
theorem dataLt_is (i j : Int) (x y : Str) : PySem.W.dataLt (.tuple [.int i, .str x]) (.tuple [.int j, .str y]) = (decide (i < j) || (decide (i = j) && decide (tl x < tl y))) := by
  rw [PySem.W.dataLt_tuple]
  by_cases h : i = j
  · subst h
    rw [PySem.W.dataLt_all_yes (by simp [PySem.W.alike]) (by simp [PyData.eqv])]
    by_cases h2 : x = y
    · subst h2
      rw [PySem.W.dataLt_all_yes (by simp [PySem.W.alike]) (by simp [PyData.eqv])]
      have e1 : ¬ (tl x < tl x) := List.lt_irrefl _
      simp [e1, PySem.W.keyToksAll]
      rfl
    · rw [PySem.W.dataLt_all_no (by simp [PySem.W.alike]) (by simp [PyData.eqv, h2]), PySem.W.dataLt_str]
      simp
  · rw [PySem.W.dataLt_all_no (by simp [PySem.W.alike]) (by simp [PyData.eqv, h]), PySem.W.dataLt_int]
    simp [h]
theorem dataLe_R : PySem.W.dataLe false encR = leR := by
  funext a b
  show (!PySem.W.dataLt (encR b) (encR a)) = leR a b
  unfold encR leR
  rw [dataLt_is]
  have h1 : decide (0 - b.2 < 0 - a.2) = decide (a.2 < b.2) := decide_eq_decide.mpr (by omega)
  have h2 : decide (0 - b.2 = 0 - a.2) = decide (a.2 = b.2) := decide_eq_decide.mpr (by omega)
  rw [h1, h2]
  by_cases c1 : a.2 < b.2
  · have c2 : ¬ a.2 = b.2 := by omega
    have c3 : ¬ b.2 < a.2 := by omega
    simp [c1, c2, c3]
  · by_cases c2 : a.2 = b.2
    · have c3 : ¬ b.2 < a.2 := by omega
      simp [c1, c2]
    · have c3 : b.2 < a.2 := by omega
      simp [c1, c2, c3]
def bestOf (l : List RW) (many : Int) : List RW := (l.mergeSort leR).take many.toNat
/-- best_of -/
def spBest (K : PySem.W.Frag) : Sp := fun vs H Q _ => ∃ (x : V) (l : List RW) (many : Int), vs = [x, .int many] ∧ Dp K H x (dRated l) ∧ l.length ≤ 10000 ∧ 0 ≤ many ∧
  ∀ (q : Addr) (H' : Hp) (xs : List V), Same H H' → H q = none → H' q = some (.lst xs) → DpAll K H' xs ((bestOf l many).map dP) → Q (.ref q) H'
/-- ahead_of -/
def aheadR (a b : RW) : Bool := if a.2 = b.2 then decide (tl a.1 < tl b.1) else decide (b.2 < a.2)
def spAhead (K : PySem.W.Frag) : Sp := fun vs H Q _ => ∃ (t u : Addr) (a b : RW), vs = [.ref t, .ref u] ∧ SqT K H t [.str a.1, .int a.2] ∧ SqT K H u [.str b.1, .int b.2] ∧ Q (.bl (aheadR a b)) H
theorem cutV_map {α : Type} (f : α → V) (l : List α) {n : Int} (h : 0 ≤ n) : cutV (l.map f) none (some n) = (l.take n.toNat).map f := by
  obtain ⟨k, rfl⟩ := Int.eq_ofNat_of_zero_le h
  unfold cutV
  rw [HT.sIx_none, List.drop_zero, HT.sIx_nat, Nat.sub_zero, List.length_map, Int.toNat_natCast, ← List.map_take]
  congr 1
  rw [List.take_eq_take_iff]; omega
theorem cutV_to (xs : List V) {n : Int} (h : 0 ≤ n) : cutV xs none (some n) = xs.take n.toNat := by
  have := cutV_map (fun x : V => x) xs h
  simpa using this
theorem DpAll.take {K : PySem.W.Frag} {H : Hp} : ∀ {xs : List V} {ds : List PyData} (n : Nat), DpAll K H xs ds → DpAll K H (xs.take n) (ds.take n)
  | _, _, 0, _ => by simpa using .nil
  | _, _, _ + 1, .nil => .nil
  | _, _, n + 1, .cons h t => .cons h (DpAll.take n t)
theorem cutV_from (xs : List V) {n : Int} (h : 0 ≤ n) : cutV xs (some n) none = xs.drop n.toNat := by
  obtain ⟨k, rfl⟩ := Int.eq_ofNat_of_zero_le h
  unfold cutV
  rw [HT.sIx_nat, HT.sIx_none, Int.toNat_natCast, List.take_of_length_le (by rw [List.length_drop]; exact Nat.le_refl _)]
  by_cases c : k ≤ xs.length
  · rw [Nat.min_eq_left c]
  · rw [Nat.min_eq_right (by omega), List.drop_of_length_le (Nat.le_refl _), List.drop_of_length_le (by omega)]
theorem DpAll.drop {K : PySem.W.Frag} {H : Hp} : ∀ {xs : List V} {ds : List PyData} (n : Nat), DpAll K H xs ds → DpAll K H (xs.drop n) (ds.drop n)
  | _, _, 0, h => by simpa using h
  | _, _, _ + 1, .nil => .nil
  | _, _, n + 1, .cons h t => DpAll.drop n t
/-! ### the order -/
theorem tl_inj {s t : Str} (h : tl s = tl t) : s = t := by
  cases s; cases t
  simp only [tl] at h
  rw [Str.mk.injEq]
  exact Array.toList_inj.mp h
theorem tl_tri (x y : Str) (h1 : ¬ tl x < tl y) (h2 : ¬ tl y < tl x) : x = y := tl_inj (List.le_antisymm (List.not_lt.mp h2) (List.not_lt.mp h1))
/-- a comes ahead of b -/
def ahead (a b : RW) : Bool := decide (b.2 < a.2) || (decide (a.2 = b.2) && decide (tl a.1 < tl b.1))
theorem ahead_is (a b : RW) : aheadR a b = ahead a b := by
  unfold aheadR ahead
  by_cases h : a.2 = b.2
  · rw [if_pos h]
    have : ¬ b.2 < a.2 := by omega
    simp [h]
  · rw [if_neg h]; simp [h]
theorem ahead_iff {a b : RW} : ahead a b = true ↔ b.2 < a.2 ∨ (a.2 = b.2 ∧ tl a.1 < tl b.1) := by
  unfold ahead; simp
theorem leR_is (a b : RW) : leR a b = !ahead b a := by
  unfold leR ahead
  by_cases h : b.2 < a.2
  · have h1 : ¬ a.2 < b.2 := by omega
    have h2 : ¬ b.2 = a.2 := by omega
    simp [h, h1, h2]
  · by_cases h1 : a.2 < b.2
    · have h2 : ¬ a.2 = b.2 := by omega
      simp [h1, h2, h]
    · have h2 : a.2 = b.2 := by omega
      simp [h2]
theorem leR_iff {a b : RW} : leR a b = true ↔ ¬ ahead b a = true := by rw [leR_is]; simp
theorem tl_lt_trans {x y z : List Nat} (h : x < y) (g : y < z) : x < z := List.lt_trans h g
theorem ahead_trans {a b c : RW} (h : ahead a b = true) (g : ahead b c = true) : ahead a c = true := by
  rw [ahead_iff] at *
  rcases h with h | ⟨h, h'⟩
  · rcases g with g | ⟨g, g'⟩
    · left; omega
    · left; omega
  · rcases g with g | ⟨g, g'⟩
    · left; omega
    · right; exact ⟨by omega, List.lt_trans h' g'⟩
theorem ahead_asymm {a b : RW} (h : ahead a b = true) : ¬ ahead b a = true := by
  rw [ahead_iff] at *
  rintro (g | ⟨g, g'⟩)
  · rcases h with h | ⟨h, h'⟩ <;> omega
  · rcases h with h | ⟨h, h'⟩
    · omega
    · exact List.lt_asymm h' g'
theorem ahead_tri {a b : RW} (h : ¬ ahead a b = true) (g : ¬ ahead b a = true) : a = b := by
  rw [ahead_iff] at *
  have e : a.2 = b.2 := by
    by_cases h1 : b.2 < a.2
    · exact absurd (.inl h1) h
    · by_cases h2 : a.2 < b.2
      · exact absurd (.inl h2) g
      · omega
  have w : a.1 = b.1 := tl_tri _ _ (fun z => h (.inr ⟨e, z⟩)) (fun z => g (.inr ⟨e.symm, z⟩))
  exact Prod.ext w e
theorem leR_trans (a b c : RW) (h : leR a b = true) (g : leR b c = true) : leR a c = true := by
  rw [leR_iff] at *
  intro z
  by_cases e : ahead b a = true
  · exact h e
  · by_cases e2 : ahead a b = true
    · exact g (ahead_trans z e2)
    · have := ahead_tri e e2
      subst this; exact g z
theorem leR_total (a b : RW) : (leR a b || leR b a) = true := by
  rw [Bool.or_eq_true, leR_iff, leR_iff]
  by_cases e : ahead b a = true
  · exact .inr (ahead_asymm e)
  · exact .inl e
theorem leR_anti {a b : RW} (h : leR a b = true) (g : leR b a = true) : a = b := by
  rw [leR_iff] at *
  exact ahead_tri g h
theorem leR_of_ahead {a b : RW} (h : ahead a b = true) : leR a b = true := leR_iff.mpr (ahead_asymm h)
/-- the sorted list is the one -/
theorem sorted_is {l m : List RW} (h : m.Perm l) (s : m.Pairwise fun a b => leR a b = true) : m = l.mergeSort leR :=
  List.Perm.eq_of_pairwise (le := fun a b => leR a b = true) (fun _ _ _ _ => leR_anti) s (List.pairwise_mergeSort leR_trans leR_total l) (h.trans (List.mergeSort_perm l leR).symm)
theorem mem_best {l : List RW} {e : RW} : e ∈ l.mergeSort leR ↔ e ∈ l := (List.mergeSort_perm l leR).mem_iff
/-- laid in at its place -/
theorem ins_sorted {L : List RW} {e : RW} {a : Nat} (s : L.Pairwise fun a b => leR a b = true) (h : ∀ x ∈ L.take a, ahead x e = true) (g : L.length ≤ a ∨ ∃ y, L[a]? = some y ∧ ahead y e = false) :
    (L.take a ++ e :: L.drop a).Pairwise fun a b => leR a b = true := by
  have s2 : (L.take a ++ L.drop a).Pairwise fun a b => leR a b = true := by rw [List.take_append_drop]; exact s
  rw [List.pairwise_append] at s2 ⊢
  obtain ⟨s3, s4, s5⟩ := s2
  have le : ∀ z ∈ L.drop a, leR e z = true := by
    intro z hz
    rcases g with g | ⟨y, hy, g⟩
    · rw [List.drop_of_length_le g] at hz; cases hz
    · obtain ⟨hl, hy2⟩ := List.getElem?_eq_some_iff.mp hy
      have ed : L.drop a = y :: L.drop (a + 1) := by rw [List.drop_eq_getElem_cons hl, hy2]
      have ey : leR e y = true := leR_iff.mpr (by rw [g]; decide)
      rw [ed] at hz s4
      rcases List.mem_cons.mp hz with rfl | hz
      · exact ey
      · exact leR_trans _ _ _ ey ((List.pairwise_cons.mp s4).1 z hz)
  refine ⟨s3, List.pairwise_cons.mpr ⟨le, s4⟩, fun x hx z hz => ?_⟩
  rcases List.mem_cons.mp hz with rfl | hz
  · exact leR_of_ahead (h x hx)
  · exact s5 x hx z hz
theorem ins_perm {L : List RW} {e : RW} {a : Nat} : (L.take a ++ e :: L.drop a).Perm (L ++ [e]) := by
  have h1 : (L.take a ++ e :: L.drop a).Perm (e :: (L.take a ++ L.drop a)) := List.perm_middle
  rw [List.take_append_drop] at h1
  exact h1.trans (List.perm_append_singleton e L).symm
theorem paired_of_dp {α : Type} {K : PySem.W.Frag} {H : Hp} {enc : α → PyData} : ∀ {xs : List V} {l : List α}, DpAll K H xs (l.map enc) → Paired (fun x e => Dp K H x (enc e)) xs l
  | [], [], _ => .nil
  | _ :: _, [], h => nomatch h
  | [], _ :: _, h => nomatch h
  | _ :: _, _ :: _, .cons h t => .cons h (paired_of_dp t)
theorem dp_of_paired {α : Type} {K : PySem.W.Frag} {H : Hp} {enc : α → PyData} : ∀ {xs : List V} {l : List α}, Paired (fun x e => Dp K H x (enc e)) xs l → DpAll K H xs (l.map enc)
  | [], [], _ => .nil
  | _ :: _, _ :: _, .cons h t => .cons h (dp_of_paired t)
/-- rank_of -/
def spRank (K : PySem.W.Frag) : Sp := fun vs H Q _ => ∃ (x : V) (l : List RW) (z : Str), vs = [x, .str z] ∧ Dp K H x (dRated l) ∧ l.length ≤ 10000 ∧ (∀ e ∈ l, PyData.strOk e.1 = true) ∧
  ((∀ e ∈ l, e.1 ≠ z) → ∀ H', Same H H' → Q .non H') ∧ (∀ e0 ∈ l, e0.1 = z → ∀ H', Same H H' → Q (.int (l.countP fun e => ahead e e0)) H')
/-! ### the laws' draws of words and counts -/
def spCount : Sp := fun vs H Q _ => ∃ b : Addr, vs = [.ref b] ∧ BoxAt H b ∧ ∀ (r : Int) (H' : Hp), 0 ≤ r → r ≤ 1000000000 → BoxAt H' b → But b H H' → Q (.int r) H'
/-- a word near the words told -/
def spNext (K : PySem.W.Frag) : Sp := fun vs H Q _ => ∃ (b a : Addr) (ss : List Str), vs = [.ref b, .ref a] ∧ BoxAt H b ∧ SqL K H a (ss.map V.str) ∧ a ≠ b ∧ ss.length ≤ 10000 ∧ (∀ s ∈ ss, isW s = true) ∧
  ∀ (s : Str) (H' : Hp), isW s = true → BoxAt H' b → But b H H' → Q (.str s) H'
/-- the values are tuples that stand in the heap -/
def RatedIn (H : Hp) : List V → List RW → Prop := Paired fun x e => ∃ t, x = .ref t ∧ H t = some (.tup [.str e.1, .int e.2])
theorem RatedIn.mono {H H' : Hp} {xs : List V} {l : List RW} (k : ∀ t zs, H t = some (.tup zs) → H' t = some (.tup zs)) (h : RatedIn H xs l) : RatedIn H' xs l := by
  induction h with
  | nil => exact .nil
  | cons h _ ih =>
    obtain ⟨t, rfl, e⟩ := h
    exact .cons ⟨t, rfl, k _ _ e⟩ ih
theorem RatedIn.but {H H' : Hp} {xs : List V} {l : List RW} {b : Addr} (h : RatedIn H xs l) (s : But b H H') (hb : BoxAt H b) : RatedIn H' xs l := h.mono fun t zs e => s _ _ (by
  rintro rfl
  obtain ⟨_, _, _, _, e2⟩ := hb
  rw [e2] at e; cases e) e
theorem RatedIn.new {H : Hp} {xs : List V} {l : List RW} {p : Addr} {o : HO} (h : RatedIn H xs l) (n : H p = none) : RatedIn (upd H p o) xs l := h.mono fun _ _ e => keepN e n
theorem RatedIn.upd {H : Hp} {xs : List V} {l : List RW} {p : Addr} {o o' : HO} (h : RatedIn H xs l) (e : H p = some o') (n : ∀ zs, o' ≠ .tup zs) : RatedIn (upd H p o) xs l := h.mono fun t zs e2 => by
  rw [upd_ne (by rintro rfl; rw [e] at e2; exact n _ (Option.some.inj e2))]; exact e2
theorem RatedIn.app {H : Hp} {xs : List V} {l : List RW} {t : Addr} {s : Str} {c : Int} (h : RatedIn H xs l) (e : H t = some (.tup [.str s, .int c])) : RatedIn H (xs ++ [.ref t]) (l ++ [(s, c)]) := by
  induction h with
  | nil => exact .cons ⟨t, rfl, e⟩ .nil
  | cons h _ ih => exact .cons h ih
theorem RatedIn.dp {K : PySem.W.Frag} {H : Hp} {xs : List V} {l : List RW} (h : RatedIn H xs l) : DpAll K H xs (l.map dP) := by
  induction h with
  | nil => exact .nil
  | cons h _ ih =>
    obtain ⟨t, rfl, e⟩ := h
    exact .cons (.tup (SqT.of e) (.cons (.str _) (.cons (.int _) .nil))) ih
theorem But.mut {b : Addr} {H1 H : Hp} {D : Addr} {o : HO} (s : But b H1 H) (hD : H1 D = none) : But b H1 (L2.upd H D o) := fun a u n e => by
  rw [upd_ne (ne_of_none e hD)]; exact s a u n e
/-- drawn rated words -/
def spRated (K : PySem.W.Frag) : Sp := fun vs H Q _ => ∃ b : Addr, vs = [.ref b] ∧ BoxAt H b ∧ ∀ (q : Addr) (H' : Hp) (xs : List V) (l : List RW), H' q = some (.lst xs) → DpAll K H' xs (l.map dP) → (l.map Prod.fst).Nodup → (∀ e ∈ l, isW e.1 = true) → l.length ≤ 100 →
  H q = none → BoxAt H' b → But b H H' → Q (.ref q) H'
theorem flat_strs (ss : List Str) : (ss.map V.str).all flatV = true := by
  rw [List.all_eq_true]
  intro x hx
  obtain ⟨s, _, rfl⟩ := List.mem_map.mp hx
  rfl
theorem inV_strs (s : Str) (ss : List Str) : inV (.str s) (ss.map V.str) = decide (s ∈ ss) := by
  unfold inV
  rw [Bool.eq_iff_iff, List.any_eq_true, decide_eq_true_eq]
  constructor
  · rintro ⟨y, hy, e⟩
    obtain ⟨z, hz, rfl⟩ := List.mem_map.mp hy
    have : z = s := by simpa [eqV] using e
    rw [← this]; exact hz
  · intro h
    exact ⟨.str s, List.mem_map.mpr ⟨s, h, rfl⟩, by simp [eqV]⟩
theorem BoxAt.some {H : Hp} {b : Addr} (h : BoxAt H b) : H b = Option.some (.lst [.int h.choose, .int h.choose_spec.choose, .int h.choose_spec.choose_spec.choose, .int h.choose_spec.choose_spec.choose_spec.choose]) := h.choose_spec.choose_spec.choose_spec.choose_spec
/-! ### the place of each -/
theorem nodup_of_map {l : List RW} (h : (l.map Prod.fst).Nodup) : l.Nodup := by
  induction l with
  | nil => exact .nil
  | cons a l ih =>
    rw [List.map_cons, List.nodup_cons] at h
    exact List.nodup_cons.mpr ⟨fun hm => h.1 (List.mem_map.mpr ⟨a, hm, rfl⟩), ih h.2⟩
theorem rank_is {l : List RW} {j : Nat} {e : RW} (hnd : (l.map Prod.fst).Nodup) (h : (l.mergeSort leR)[j]? = some e) : (l.countP fun x => ahead x e) = j := by
  have hp := List.mergeSort_perm l leR
  rw [← hp.countP_eq]
  have hs : (l.mergeSort leR).Pairwise fun a b => leR a b = true := List.pairwise_mergeSort leR_trans leR_total l
  have hn : (l.mergeSort leR).Nodup := hp.nodup_iff.mpr (nodup_of_map hnd)
  generalize l.mergeSort leR = m at h hs hn
  obtain ⟨hj, he⟩ := List.getElem?_eq_some_iff.mp h
  have ed : m = m.take j ++ e :: m.drop (j + 1) := by
    rw [← he, ← List.drop_eq_getElem_cons hj, List.take_append_drop]
  rw [ed, List.countP_append]
  rw [ed] at hs hn
  obtain ⟨s1, s2, s3⟩ := List.pairwise_append.mp hs
  have c1 : (m.take j).countP (fun x => ahead x e) = j := by
    have : (m.take j).countP (fun x => ahead x e) = (m.take j).length := List.countP_eq_length.mpr fun x hx => by
      have h1 := s3 x hx e (by simp)
      have h2 : x ≠ e := by
        rintro rfl
        exact (List.nodup_append.mp hn).2.2 x hx x (by simp) rfl
      by_cases c : ahead x e = true
      · exact c
      · exact absurd (ahead_tri c (leR_iff.mp h1)) h2
    rw [this, List.length_take]; omega
  have c2 : (e :: m.drop (j + 1)).countP (fun x => ahead x e) = 0 := List.countP_eq_zero.mpr fun x hx => by
    rcases List.mem_cons.mp hx with rfl | hx
    · intro z; exact ahead_asymm z z
    · exact leR_iff.mp ((List.pairwise_cons.mp s2).1 x hx)
  rw [c1, c2]; omega
theorem nodup_fst : ∀ {l : List RW} {a b : RW}, (l.map Prod.fst).Nodup → a ∈ l → b ∈ l → a.1 = b.1 → a = b
  | c :: l, a, b, h, ha, hb, e => by
    rw [List.map_cons, List.nodup_cons] at h
    rcases List.mem_cons.mp ha with ea | ha2
    · rcases List.mem_cons.mp hb with eb | hb2
      · exact ea.trans eb.symm
      · exact absurd (List.mem_map.mpr ⟨b, hb2, e.symm⟩) (ea ▸ h.1)
    · rcases List.mem_cons.mp hb with eb | hb2
      · exact absurd (List.mem_map.mpr ⟨a, ha2, e⟩) (eb ▸ h.1)
      · exact nodup_fst h.2 ha2 hb2 e
end Ah
set_option Elab.async false
set_option linter.all false
set_option maxRecDepth 100000
set_option maxHeartbeats 4000000
/-! objects: methods, classes made, fields; raising -/
namespace Ah
open PySem PySem.Spec PyProof.Rows L2 TL
/-- a method of the class at C stands as the text st says; dv: its defaults -/
structure MethAt (K : PySem.W.Frag) (C : Addr) (m qual : Str) (st : Stmt) (ps : List Str) (dv : List V) : Prop where
  ex : ∃ (f : Addr) (fd : FuncData), FunD K m qual (defArgs st) (defBody st) (defScope st) dv [] f fd ∧ Cls K C ∧ Meth K C m f ∧ Binds K fd ps [] ∧ ∃ us, Vals dv us ∧ Binds K fd ps us
/-- a method keeps the promise sp -/
structure FnM (P : Program) (w : World) (K : PySem.W.Frag) (mg : Str → Option Value) (base : Heap) (k : Nat) (C : Addr) (m : Str) (ps : List Str) (dv : List V) (sp : Sp) : Prop where
  ex : ∃ (f : Addr) (fd : FuncData), FnOk P w K mg base (L2.CX P w) k f fd ps sp ∧ Cls K C ∧ Meth K C m f ∧ Binds K fd ps [] ∧ ∃ us, Vals dv us ∧ Binds K fd ps us
/-- the class x at C is made by its __init__ -/
structure InitAt (K : PySem.W.Frag) (mg : Str → Option Value) (C : Addr) (x qual : Str) (st : Stmt) (ps : List Str) : Prop where
  ex : ∃ (f : Addr) (fd : FuncData), FunD K "__init__" qual (defArgs st) (defBody st) (defScope st) [] [] f fd ∧ Mk K C f ∧ mg x = some (.ref C) ∧ Binds K fd ps []
structure FnI (P : Program) (w : World) (K : PySem.W.Frag) (mg : Str → Option Value) (base : Heap) (k : Nat) (C : Addr) (x : Str) (ps : List Str) (sp : Sp) : Prop where
  ex : ∃ (f : Addr) (fd : FuncData), FnOk P w K mg base (L2.CX P w) k f fd ps sp ∧ Mk K C f ∧ mg x = some (.ref C) ∧ Binds K fd ps []
section
variable {P : Program} {w : World} {K : PySem.W.Frag} {mg : Str → Option Value} {base : Heap} {j k : Nat} {C : Addr} {m x qual : Str} {ps : List Str} {dv : List V} {sp : Sp} {st : Stmt} {N : List Str}
theorem MethAt.okX (D : MethAt K C m qual st ps dv) (S : FnScope N ps (defScope st)) (len : ∀ vs H Q E, sp vs H Q E → vs.length = ps.length)
    (hbody : ∀ (f : Addr) (cdv : Value) (A : Around) (outer : List Env) (s : Shared) (H : Hp) (vs : List V) (Q : VK) (E : XK), Room k (A.deeper (envOfC qual (defScope st) s.heap.objs.size f cdv)) → sp vs H Q E →
      ∃ t, PSs (cxOf (L2.CX P w) P w K mg base N qual (defScope st) f cdv A outer s H E) (defBody st) t ∧ t { nx := fun _ H' => Q .non H', rt := Q } (start N vs) H) : FnM P w K mg base (k + 1) C m ps dv sp := by
  obtain ⟨f, fd, F, r⟩ := D.ex
  exact ⟨f, fd, F.ok S len fun cdv A outer s H vs Q E hr h => hbody f cdv A outer s H vs Q E hr h, r⟩
theorem MethAt.ok (D : MethAt K C m qual st ps dv) (S : FnScope N ps (defScope st)) (len : ∀ vs H Q E, sp vs H Q E → vs.length = ps.length)
    (hbody : ∀ (f : Addr) (cdv : Value) (A : Around) (outer : List Env) (s : Shared) (H : Hp) (vs : List V) (Q : VK) (E : XK), Room k (A.deeper (envOfC qual (defScope st) s.heap.objs.size f cdv)) → sp vs H Q E →
      ∃ t, PSs (cxOf (L2.CX P w) P w K mg base N qual (defScope st) f cdv A outer s H E).nox (defBody st) t ∧ t { nx := fun _ H' => Q .non H', rt := Q } (start N vs) H) : FnM P w K mg base (k + 1) C m ps dv sp :=
  D.okX S len fun f cdv A outer s H vs Q E hr h => by
    obtain ⟨t, h1, h2⟩ := hbody f cdv A outer s H vs Q E hr h
    exact ⟨t, h1.nox, h2⟩
theorem InitAt.okX (D : InitAt K mg C x qual st ps) (S : FnScope N ps (defScope st)) (len : ∀ vs H Q E, sp vs H Q E → vs.length = ps.length)
    (hbody : ∀ (f : Addr) (cdv : Value) (A : Around) (outer : List Env) (s : Shared) (H : Hp) (vs : List V) (Q : VK) (E : XK), Room k (A.deeper (envOfC qual (defScope st) s.heap.objs.size f cdv)) → sp vs H Q E →
      ∃ t, PSs (cxOf (L2.CX P w) P w K mg base N qual (defScope st) f cdv A outer s H E) (defBody st) t ∧ t { nx := fun _ H' => Q .non H', rt := Q } (start N vs) H) : FnI P w K mg base (k + 1) C x ps sp := by
  obtain ⟨f, fd, F, r⟩ := D.ex
  exact ⟨f, fd, F.ok S len fun cdv A outer s H vs Q E hr h => hbody f cdv A outer s H vs Q E hr h, r⟩
theorem InitAt.ok (D : InitAt K mg C x qual st ps) (S : FnScope N ps (defScope st)) (len : ∀ vs H Q E, sp vs H Q E → vs.length = ps.length)
    (hbody : ∀ (f : Addr) (cdv : Value) (A : Around) (outer : List Env) (s : Shared) (H : Hp) (vs : List V) (Q : VK) (E : XK), Room k (A.deeper (envOfC qual (defScope st) s.heap.objs.size f cdv)) → sp vs H Q E →
      ∃ t, PSs (cxOf (L2.CX P w) P w K mg base N qual (defScope st) f cdv A outer s H E).nox (defBody st) t ∧ t { nx := fun _ H' => Q .non H', rt := Q } (start N vs) H) : FnI P w K mg base (k + 1) C x ps sp :=
  D.okX S len fun f cdv A outer s H vs Q E hr h => by
    obtain ⟨t, h1, h2⟩ := hbody f cdv A outer s H vs Q E hr h
    exact ⟨t, h1.nox, h2⟩
/-- a method without defaults -/
theorem meth_mk {f : Addr} {oc : Value} {od an : Option Addr} {osl : Array (Option Value)} {kV doc pm cdv ct : Value} (c : Cls K C) (a : PySem.W.findIn K (.ref C) m = some (some (.ref f))) (i : PySem.W.isFn K (.ref f) = true)
    (l : K.lookup f = some ⟨oc, od, .func (PySem.W.fnOf m qual (defArgs st) (defBody st) (defScope st) .none kV doc pm an cdv ct), osl⟩) (q : PySem.W.codeIn K cdv qual = true) (kp : PySem.W.keepIn K (.ref f) = true)
    (b : ∀ (kV doc pm : Value) (an : Option Addr) (cdv ct : Value) (us : List Value), us.length = ps.length → bindArgs (PySem.W.fnOf m qual (defArgs st) (defBody st) (defScope st) .none kV doc pm an cdv ct) ⟨us, []⟩ = pure (ps.zip us)) : MethAt K C m qual st ps [] := by
  have F : FunD K m qual (defArgs st) (defBody st) (defScope st) [] [] f (PySem.W.fnOf m qual (defArgs st) (defBody st) (defScope st) .none kV doc pm an cdv ct) := ⟨⟨oc, od, .none, kV, doc, pm, an, cdv, ct, osl, rfl, l, q, .inl ⟨rfl, rfl⟩, .inl rfl⟩, kp⟩
  exact ⟨f, _, F, c, ⟨a, i, kp⟩, F.bindsN b, [], .nil, F.bindsN b⟩
/-- a method whose last parameter has a default -/
theorem meth_mkD {f TD : Addr} {oc : Value} {od an : Option Addr} {osl : Array (Option Value)} {kV doc pm cdv ct u : Value} {oT : Obj} {nT : Nat} {v : V} (c : Cls K C) (a : PySem.W.findIn K (.ref C) m = some (some (.ref f))) (i : PySem.W.isFn K (.ref f) = true)
    (l : K.lookup f = some ⟨oc, od, .func (PySem.W.fnOf m qual (defArgs st) (defBody st) (defScope st) (.ref TD) kV doc pm an cdv ct), osl⟩) (q : PySem.W.codeIn K cdv qual = true) (kp : PySem.W.keepIn K (.ref f) = true)
    (lT : K.lookup TD = some oT) (dT : oT.data = .seq #[u] nT) (hv : RelV v u) (n : Nat) (hn : ps.length = n + 1)
    (b1 : ∀ (T : Addr) (kV doc pm : Value) (an : Option Addr) (cdv ct : Value) (us its : List Value), us.length = n + 1 → its.length = 1 →
      ∃ k, bindArgs (PySem.W.fnOf m qual (defArgs st) (defBody st) (defScope st) (.ref T) kV doc pm an cdv ct) ⟨us, []⟩ = seqItems? (.ref T) >>= k ∧ k (some its.toArray) = pure (ps.zip (us ++ its.drop 1)))
    (b2 : ∀ (T : Addr) (kV doc pm : Value) (an : Option Addr) (cdv ct : Value) (us its : List Value), us.length = n → its.length = 1 →
      ∃ k, bindArgs (PySem.W.fnOf m qual (defArgs st) (defBody st) (defScope st) (.ref T) kV doc pm an cdv ct) ⟨us, []⟩ = seqItems? (.ref T) >>= k ∧ k (some its.toArray) = pure (ps.zip (us ++ its.drop 0))) : MethAt K C m qual st ps [v] := by
  have F : FunD K m qual (defArgs st) (defBody st) (defScope st) [v] [] f (PySem.W.fnOf m qual (defArgs st) (defBody st) (defScope st) (.ref TD) kV doc pm an cdv ct) := ⟨⟨oc, od, .ref TD, kV, doc, pm, an, cdv, ct, osl, rfl, l, q, .inr ⟨by simp, TD, oT, [u], nT, rfl, lT, dT, .cons hv .nil⟩, .inl rfl⟩, kp⟩
  obtain ⟨d1, v1, B1⟩ := F.binds1 (ps := ps) (n + 1) 1 (by simp) (by simp [hn]) b1
  obtain ⟨d2, v2, B2⟩ := F.binds1 (ps := ps) n 0 (by simp) (by simp [hn]) b2
  have e1 : d1 = [] := by cases v1; rfl
  subst e1
  exact ⟨f, _, F, c, ⟨a, i, kp⟩, B1, d2, v2, B2⟩
theorem init_mk {f : Addr} {oc : Value} {od an : Option Addr} {osl : Array (Option Value)} {kV doc pm cdv ct : Value} (g : mg x = some (.ref C)) (mk : PySem.W.makesIn K C = true) (kc : PySem.W.keepIn K (.ref C) = true) (a : PySem.W.findIn K (.ref C) "__init__" = some (some (.ref f))) (i : PySem.W.isFn K (.ref f) = true)
    (l : K.lookup f = some ⟨oc, od, .func (PySem.W.fnOf "__init__" qual (defArgs st) (defBody st) (defScope st) .none kV doc pm an cdv ct), osl⟩) (q : PySem.W.codeIn K cdv qual = true) (kp : PySem.W.keepIn K (.ref f) = true)
    (b : ∀ (kV doc pm : Value) (an : Option Addr) (cdv ct : Value) (us : List Value), us.length = ps.length → bindArgs (PySem.W.fnOf "__init__" qual (defArgs st) (defBody st) (defScope st) .none kV doc pm an cdv ct) ⟨us, []⟩ = pure (ps.zip us)) : InitAt K mg C x qual st ps := by
  have F : FunD K "__init__" qual (defArgs st) (defBody st) (defScope st) [] [] f (PySem.W.fnOf "__init__" qual (defArgs st) (defBody st) (defScope st) .none kV doc pm an cdv ct) := ⟨⟨oc, od, .none, kV, doc, pm, an, cdv, ct, osl, rfl, l, q, .inl ⟨rfl, rfl⟩, .inl rfl⟩, kp⟩
  exact ⟨f, _, F, ⟨mk, a, i, kc⟩, g, F.bindsN b⟩
end
section
variable {X : Cx} {k : Nat} {C : Addr} {x m : Str} {ps : List Str} {dv : List V} {sp : Sp} {E : XK} {p pos apos : Pos} {e o : Expr} {es : List Expr} {ta : TE} {t : TA}
theorem pe_mth {pl : Sem Bool} (F : FnM X.prog X.w X.K X.mg X.base k C m ps dv sp) (hr : Room k X.A) (hx : Passes (L2.CX X.prog X.w) X E) (he : PE X o ta) (ha : PA X (e :: es) t)
    (hst : starEach (e :: es) X.env = (false, eval e X.env) :: starEach es X.env := by rfl) (hpl : (backTo pos (starEach es X.env)).any (·.1) = false := by rfl)
    (ht : eval (.Call (.Attribute o m apos) (e :: es) [] pos) X.env = (do
      let ov ← eval o X.env
      standAt apos.atName
      let (f, first) ← holding [ov] (getMethod ov m pl)
      callWith pos f first (backTo pos (starEach (e :: es) X.env)) (backToKw pos (keywordEach [] X.env))) := by rfl) :
    PE X (.Call (.Attribute o m apos) (e :: es) [] pos) (tMeth C m sp [] E ta t) := by
  obtain ⟨f, fd, a, c, me, b, _⟩ := F.ex
  exact pe_meth (pl := pl) he c me a hr b .nil hx ha hst hpl ht
theorem pe_mth0 {pl : Sem Bool} (F : FnM X.prog X.w X.K X.mg X.base k C m ps dv sp) (hr : Room k X.A) (hx : Passes (L2.CX X.prog X.w) X E) (he : PE X o ta)
    (ht : eval (.Call (.Attribute o m apos) [] [] pos) X.env = (do
      let ov ← eval o X.env
      standAt apos.atName
      let (f, first) ← holding [ov] (getMethod ov m pl)
      callWith pos f first (backTo pos (starEach [] X.env)) (backToKw pos (keywordEach [] X.env))) := by rfl) :
    PE X (.Call (.Attribute o m apos) [] [] pos) (tMeth C m sp [] E ta tNil) := by
  obtain ⟨f, fd, a, c, me, b, _⟩ := F.ex
  exact pe_meth0 (pl := pl) he c me a hr b .nil hx ht
/-- the last parameter by its default -/
theorem pe_mthD {pl : Sem Bool} (F : FnM X.prog X.w X.K X.mg X.base k C m ps dv sp) (hr : Room k X.A) (hx : Passes (L2.CX X.prog X.w) X E) (he : PE X o ta) (ha : PA X (e :: es) t)
    (hst : starEach (e :: es) X.env = (false, eval e X.env) :: starEach es X.env := by rfl) (hpl : (backTo pos (starEach es X.env)).any (·.1) = false := by rfl)
    (ht : eval (.Call (.Attribute o m apos) (e :: es) [] pos) X.env = (do
      let ov ← eval o X.env
      standAt apos.atName
      let (f, first) ← holding [ov] (getMethod ov m pl)
      callWith pos f first (backTo pos (starEach (e :: es) X.env)) (backToKw pos (keywordEach [] X.env))) := by rfl) :
    PE X (.Call (.Attribute o m apos) (e :: es) [] pos) (tMeth C m sp dv E ta t) := by
  obtain ⟨f, fd, a, c, me, _, us, v, b⟩ := F.ex
  exact pe_meth (pl := pl) he c me a hr b v hx ha hst hpl ht
theorem pe_mthD0 {pl : Sem Bool} (F : FnM X.prog X.w X.K X.mg X.base k C m ps dv sp) (hr : Room k X.A) (hx : Passes (L2.CX X.prog X.w) X E) (he : PE X o ta)
    (ht : eval (.Call (.Attribute o m apos) [] [] pos) X.env = (do
      let ov ← eval o X.env
      standAt apos.atName
      let (f, first) ← holding [ov] (getMethod ov m pl)
      callWith pos f first (backTo pos (starEach [] X.env)) (backToKw pos (keywordEach [] X.env))) := by rfl) :
    PE X (.Call (.Attribute o m apos) [] [] pos) (tMeth C m sp dv E ta tNil) := by
  obtain ⟨f, fd, a, c, me, _, us, v, b⟩ := F.ex
  exact pe_meth0 (pl := pl) he c me a hr b v hx ht
theorem pe_nw (F : FnI X.prog X.w X.K X.mg X.base k C x ps sp) (hr : Room (k + 1) X.A) (hx : Passes (L2.CX X.prog X.w) X E) (ha : PA X (e :: es) t) (hg : Gl X x := by rfl)
    (hdb : (x == ("__debug__" : Str)) = false := by decide) (he : starEach (e :: es) X.env = (false, eval e X.env) :: starEach es X.env := by rfl) (hpl : (backTo pos (starEach es X.env)).any (·.1) = false := by rfl) :
    PE X (.Call (.Name x p) (e :: es) [] pos) (tMake C sp [] E t) := by
  obtain ⟨f, fd, a, mk, g, b⟩ := F.ex
  exact pe_make mk a hr hg g b .nil hx ha hdb he hpl
theorem pe_nw0 (F : FnI X.prog X.w X.K X.mg X.base k C x ps sp) (hr : Room (k + 1) X.A) (hx : Passes (L2.CX X.prog X.w) X E) (hg : Gl X x := by rfl)
    (hdb : (x == ("__debug__" : Str)) = false := by decide) : PE X (.Call (.Name x p) [] [] pos) (tMake C sp [] E tNil) := by
  obtain ⟨f, fd, a, mk, g, b⟩ := F.ex
  exact pe_make0 mk a hr hg g b .nil hx hdb
end
/-! ### steps -/
section
variable {K : PySem.W.Frag} {H : Hp} {Q : VK} {σ : L2.St} {D : Ends} {a C dx : Addr} {fs : List (Str × V)} {f : Str} {v y : V} {ta tv : TE}
def rFld (K : PySem.W.Frag) (f : Str) : V → Hp → VK → Prop := fun x H1 Q => ∃ a C dx fs v, x = .ref a ∧ H1 a = some (.ins C dx fs) ∧ Cls K C ∧ NoAttr K C f ∧ fs.lookup f = some v ∧ Q v H1
theorem u_fld (k : ta σ H fun x H1 => rFld K f x H1 Q) : tFld K ta f σ H Q := k
instance iu_fld  : US (tFld K ta f σ H Q) (ta σ H fun x H1 => rFld K f x H1 Q) := ⟨u_fld⟩
theorem s_fld (h : H a = some (.ins C dx fs)) (c : Cls K C) (n : NoAttr K C f) (l : fs.lookup f = some v) (q : Q v H) : rFld K f (.ref a) H Q := ⟨a, C, dx, fs, v, rfl, h, c, n, l, q⟩
def rSFld (K : PySem.W.Frag) (f : Str) (y : V) (D : Ends) (σ : L2.St) : V → Hp → Prop := fun x H2 => ∃ a C dx fs, x = .ref a ∧ H2 a = some (.ins C dx fs) ∧ Cls K C ∧ NoAttr K C f ∧ fs.length < 1000 ∧ D.nx σ (upd H2 a (.ins C dx (putF f y fs)))
theorem u_sfld (k : tv σ H fun y H1 => ta σ H1 fun x H2 => rSFld K f y D σ x H2) : sFld K ta tv f D σ H := k
instance iu_sfld  : US (sFld K ta tv f D σ H) (tv σ H fun y H1 => ta σ H1 fun x H2 => rSFld K f y D σ x H2) := ⟨u_sfld⟩
theorem s_sfld (h : H a = some (.ins C dx fs)) (c : Cls K C) (n : NoAttr K C f) (hl : fs.length < 1000) (q : D.nx σ (upd H a (.ins C dx (putF f y fs)))) : rSFld K f y D σ (.ref a) H := ⟨a, C, dx, fs, rfl, h, c, n, hl, q⟩
def rMeth (C : Addr) (m : Str) (sp : Sp) (dvs : List V) (E : XK) (t : TA) (σ : L2.St) (Q : VK) : V → Hp → Prop := fun x H1 => ∃ a dx fs, x = .ref a ∧ H1 a = some (.ins C dx fs) ∧ fs.lookup m = none ∧ t σ H1 fun vs H2 => sp (x :: (vs ++ dvs)) H2 Q E
theorem u_meth {m : Str} {sp : Sp} {dvs : List V} {E : XK} {t : TA} (k : ta σ H fun x H1 => rMeth C m sp dvs E t σ Q x H1) : tMeth C m sp dvs E ta t σ H Q := k
instance iu_meth {m : Str} {sp : Sp} {dvs : List V} {E : XK} {t : TA} : US (tMeth C m sp dvs E ta t σ H Q) (ta σ H fun x H1 => rMeth C m sp dvs E t σ Q x H1) := ⟨u_meth⟩
theorem s_meth {m : Str} {sp : Sp} {E : XK} {t : TA} (h : H a = some (.ins C dx fs)) (l : fs.lookup m = none) (q : t σ H fun vs H2 => sp (.ref a :: vs) H2 Q E) : rMeth C m sp [] E t σ Q (.ref a) H :=
  ⟨a, dx, fs, rfl, h, l, by simpa only [List.append_nil] using q⟩
theorem s_methD {m : Str} {sp : Sp} {E : XK} {t : TA} {d : V} {dvs : List V} (h : H a = some (.ins C dx fs)) (l : fs.lookup m = none) (q : t σ H fun vs H2 => sp (.ref a :: (vs ++ d :: dvs)) H2 Q E) : rMeth C m sp (d :: dvs) E t σ Q (.ref a) H :=
  ⟨a, dx, fs, rfl, h, l, q⟩
theorem u_make {sp : Sp} {E : XK} {t : TA} (k : t σ H fun vs H1 => ∀ x dx, H1 x = none → H1 dx = none → dx ≠ x → sp (.ref x :: vs) (upd (upd H1 dx (.own x)) x (.ins C dx [])) (fun v H2 => v = .non ∧ Q (.ref x) H2) E) : tMake C sp [] E t σ H Q := by
  show t σ H _
  simpa only [List.append_nil] using k
end
/-- a statement that is never reached -/
theorem ps_not {X : Cx} {s : Stmt} : PS X s (fun _ _ _ => False) := ⟨fun _ _ _ _ _ _ h => h.elim⟩
/-- what a callee lets out is let out -/
theorem passE {X : Cx} {E : XK} (tk : Takes X (fun cls d _ H => E cls d H)) : Passes (L2.CX X.prog X.w) X E := fun pins σ H s e s' I c => passAt tk σ pins H s e s' I c
/-- an exception's class of the program's own, without an __init__ -/
structure ExcAt (K : PySem.W.Frag) (mg : Str → Option Value) (x : Str) (C : Addr) : Prop where
  xc : PySem.W.excIn K C [.type "ValueError", .type "Exception", .type "BaseException", .type "object"] "ValueError.__new__" = true
  g : mg x = some (.ref C)
  kp : PySem.W.keepIn K (.ref C) = true
  sb : PySem.W.subIn K (.ref C) (.type "BaseException") = some true
  ty : PySem.W.typeIn K (.ref C) = some (.type "type")
theorem ps_rs {X : Cx} {W : WX} {x m : Str} {C : Addr} {j : Nat} {p p2 pos pos2 : Pos} (T : ExcAt X.K X.mg x C) (hc : X.calm = true) (tk : Takes X W) (hg : Gl X x := by rfl) (hdb : (x == ("__debug__" : Str)) = false := by decide) :
    PS X (.Raise (some (.Call (.Name x p) [.Constant (.str m) j p2] [] pos)) none pos2) (fun _ σ H => W (.ref C) none σ H) :=
  ps_raise hc tk (pmk_own PySem.F.excBase_ValueError T.xc T.g T.kp (raises_own T.sb T.ty) hg hdb)
/-- list(d) -/
def rListD2 : List V → Hp → VK → Prop := fun xs H Q => ∃ (a : Addr) (kvs : List (Key × V)), xs = [.ref a] ∧ Rd H a (.dK kvs) ∧ ∀ p, H p = none → Q (.ref p) (upd H p (.lst (kvs.map fun kv => kV kv.1)))
theorem call_listDN {X : Cx} (hcalm : X.calm = true) : CallR X (.type "list") rListD2 := call_listD hcalm
/-- len(d) -/
def rLenD : List V → Hp → VK → Prop := fun xs H Q => ∃ (a : Addr) (kvs : List (Key × V)), xs = [V.ref a] ∧ H a = some (.dK kvs) ∧ Q (.int kvs.length) H
theorem call_lenDN {X : Cx} : CallR X (.builtin "len") rLenD := call_lenD
end Ah
set_option Elab.async false
set_option linter.all false
set_option maxRecDepth 100000
set_option maxHeartbeats 4000000
/-! dicts with texts as keys -/
namespace Ah
open PySem PySem.Spec PyProof.Rows L2 TL
/-- at d stands a dict: its keys ks in their order, val tells its values -/
structure TD (H : Hp) (d : Addr) (val : Str → Option V) (ks : List Str) : Prop where
  ex : ∃ kvs : List (Key × V), H d = some (.dK kvs) ∧ kvs.map (·.1) = ks.map Sum.inr ∧ ks.Nodup ∧ ∀ w, valV kvs (Sum.inr w) = val w
def setv (val : Str → Option V) (w : Str) (v : V) : Str → Option V := fun x => if x = w then some v else val x
def delv (val : Str → Option V) (w : Str) : Str → Option V := fun x => if x = w then none else val x
def addK (ks : List Str) (w : Str) : List Str := if w ∈ ks then ks else ks ++ [w]
def remK (ks : List Str) (w : Str) : List Str := ks.filter fun k => decide (k ≠ w)
theorem addK_len (ks : List Str) (w : Str) : (addK ks w).length ≤ ks.length + 1 := by
  unfold addK; split <;> simp
theorem remK_len (ks : List Str) (w : Str) : (remK ks w).length ≤ ks.length := List.length_filter_le _ _
theorem mem_addK {ks : List Str} {w x : Str} : x ∈ addK ks w ↔ x ∈ ks ∨ x = w := by
  unfold addK
  split
  · rename_i h
    constructor
    · exact .inl
    · rintro (h1 | rfl)
      · exact h1
      · exact h
  · simp
theorem mem_remK {ks : List Str} {w x : Str} : x ∈ remK ks w ↔ x ∈ ks ∧ x ≠ w := by
  unfold remK
  rw [List.mem_filter, decide_eq_true_eq]
section
variable {κ : Type} [DecidableEq κ]
theorem valV_drop (k j : κ) : ∀ kvs : List (κ × V), valV (dropK kvs k) j = if j = k then none else valV kvs j
  | [] => by unfold dropK; simp [valV_nil]
  | p :: r => by
    have ih := valV_drop k j r
    by_cases e : p.1 = k
    · rw [dropK_pos e, ih]
      by_cases c : j = k
      · rw [if_pos c, if_pos c]
      · rw [if_neg c, if_neg c, valV_neg (by rw [e]; exact fun z => c z.symm)]
    · rw [dropK_neg e]
      by_cases c : p.1 = j
      · rw [valV_pos c, if_neg (by rw [← c]; exact e), valV_pos c]
      · rw [valV_neg c, ih, valV_neg c]
theorem keys_put (kvs : List (κ × V)) (k : κ) (v : V) : (putK kvs k v).map (·.1) = if k ∈ kvs.map (·.1) then kvs.map (·.1) else kvs.map (·.1) ++ [k] := by
  have h : (kvs.any fun kv => decide (kv.1 = k)) = true ↔ k ∈ kvs.map (·.1) := by
    rw [List.any_eq_true, List.mem_map]
    constructor
    · rintro ⟨p, hp, e⟩; exact ⟨p, hp, of_decide_eq_true e⟩
    · rintro ⟨p, hp, e⟩; exact ⟨p, hp, decide_eq_true e⟩
  unfold putK
  by_cases c : k ∈ kvs.map (·.1)
  · rw [if_pos (h.mpr c), if_pos c, List.map_map]
    apply List.map_congr_left
    intro p _
    show (if p.1 = k then (p.1, v) else p).1 = p.1
    split <;> rfl
  · rw [if_neg (fun z => c (h.mp z)), if_neg c, List.map_append]; rfl
theorem keys_drop (kvs : List (κ × V)) (k : κ) : (dropK kvs k).map (·.1) = (kvs.map (·.1)).filter fun j => decide (j ≠ k) := by
  unfold dropK
  rw [List.filter_map]; rfl
end
section
variable {H H' : Hp} {Q : VK} {σ : L2.St} {D : Ends} {d : Addr} {val : Str → Option V} {ks : List Str} {w : Str} {v : V}
theorem TD.keep (h : TD H d val ks) (e : H' d = H d) : TD H' d val ks := by
  obtain ⟨kvs, h1, r⟩ := h.ex
  exact ⟨kvs, e.trans h1, r⟩
theorem TD.there (h : TD H d val ks) : ∃ kvs, H d = some (.dK kvs) := by
  obtain ⟨kvs, h1, _⟩ := h.ex
  exact ⟨kvs, h1⟩
theorem TD.same (h : TD H d val ks) (s : Same H H') : TD H' d val ks := by
  obtain ⟨kvs, h1, r⟩ := h.ex
  exact ⟨kvs, s _ _ h1, r⟩
theorem TD.mem (h : TD H d val ks) : w ∈ ks ↔ (val w).isSome = true := by
  obtain ⟨kvs, h1, h2, h3, h4⟩ := h.ex
  rw [← h4 w, ← valV_any]
  have e : w ∈ ks ↔ (Sum.inr w : Key) ∈ kvs.map (·.1) := by
    rw [h2, List.mem_map]
    constructor
    · intro m; exact ⟨w, m, rfl⟩
    · rintro ⟨x, m, e⟩; injection e with e; subst e; exact m
  rw [e, List.any_eq_true, List.mem_map]
  constructor
  · rintro ⟨p, hp, e⟩; exact ⟨p, hp, decide_eq_true e⟩
  · rintro ⟨p, hp, e⟩; exact ⟨p, hp, of_decide_eq_true e⟩
theorem TD.nd (h : TD H d val ks) : ks.Nodup := by
  obtain ⟨kvs, h1, h2, h3, h4⟩ := h.ex
  exact h3
theorem TD.get (h : TD H d val ks) (w : Str) : DGet H d (.str w) (val w) := by
  obtain ⟨kvs, h1, h2, h3, h4⟩ := h.ex
  have := DGet.k (k := Sum.inr w) h1
  rw [h4] at this
  exact this
theorem TD.put (h : TD H d val ks) (w : Str) (v : V) (hl : ks.length < 10000000) : ∃ o, DPut H d (.str w) v (upd H d o) ∧ TD (upd H d o) d (setv val w v) (addK ks w) := by
  obtain ⟨kvs, h1, h2, h3, h4⟩ := h.ex
  have hlen : kvs.length = ks.length := by
    have := congrArg List.length h2
    rwa [List.length_map, List.length_map] at this
  refine ⟨_, DPut.k (k := Sum.inr w) h1 (by rw [hlen, sizeLine_eq]; omega), ⟨_, upd_same, ?_, ?_, fun x => ?_⟩⟩
  · rw [keys_put, h2]
    have e : ((Sum.inr w : Key) ∈ ks.map Sum.inr) ↔ w ∈ ks := by simp
    unfold addK
    by_cases c : w ∈ ks
    · rw [if_pos (e.mpr c), if_pos c]
    · rw [if_neg (fun z => c (e.mp z)), if_neg c, List.map_append]; rfl
  · unfold addK
    by_cases c : w ∈ ks
    · rw [if_pos c]; exact h3
    · rw [if_neg c]; exact nd_snoc h3 c
  · rw [valV_put, h4]
    unfold setv
    by_cases c : x = w
    · rw [if_pos c, if_pos (by rw [c])]
    · rw [if_neg c, if_neg (by simpa using c)]
theorem TD.drop (h : TD H d val ks) (w : Str) : ∃ kvs, H d = some (.dK kvs) ∧ valV kvs (Sum.inr w) = val w ∧ TD (upd H d (.dK (dropK kvs (Sum.inr w)))) d (delv val w) (remK ks w) := by
  obtain ⟨kvs, h1, h2, h3, h4⟩ := h.ex
  refine ⟨kvs, h1, h4 w, ⟨_, upd_same, ?_, h3.filter _, fun x => ?_⟩⟩
  · rw [keys_drop, h2]
    unfold remK
    rw [List.filter_map]
    congr 1
    apply List.filter_congr
    intro x _
    simp
  · rw [valV_drop, h4]
    unfold delv
    by_cases c : x = w
    · rw [if_pos c, if_pos (by rw [c])]
    · rw [if_neg c, if_neg (by simpa using c)]
theorem TD.new {p : Addr} : TD (upd H p (.dK [])) p (fun _ => none) [] := ⟨[], upd_same, rfl, .nil, fun _ => rfl⟩
theorem TD.len (h : TD H d val ks) : ∃ kvs, H d = some (.dK kvs) ∧ kvs.length = ks.length := by
  obtain ⟨kvs, h1, h2, h3, h4⟩ := h.ex
  refine ⟨kvs, h1, ?_⟩
  have := congrArg List.length h2
  rwa [List.length_map, List.length_map] at this
/-! ### steps -/
def rDIn : V → V → Hp → VK → Prop := fun y x H2 Q => ∃ a o, x = .ref a ∧ DGet H2 a y o ∧ Q (.bl o.isSome) H2
def rDNotIn : V → V → Hp → VK → Prop := fun y x H2 Q => ∃ a o, x = .ref a ∧ DGet H2 a y o ∧ Q (.bl (!o.isSome)) H2
def rDGet : V → V → Hp → VK → Prop := fun x y H2 Q => ∃ a v, x = .ref a ∧ DGet H2 a y (some v) ∧ Q v H2
def rDPut (v : V) (D : Ends) (σ : L2.St) : V → V → Hp → Prop := fun x y H3 => ∃ a H4, x = .ref a ∧ DPut H3 a y v H4 ∧ D.nx σ H4
theorem u_din {ty td : TE} (k : ty σ H fun y H1 => td σ H1 fun x H2 => rDIn y x H2 Q) : tDIn ty td σ H Q := k
instance iu_din {ty td : TE} : US (tDIn ty td σ H Q) (ty σ H fun y H1 => td σ H1 fun x H2 => rDIn y x H2 Q) := ⟨u_din⟩
theorem u_dnotin {ty td : TE} (k : ty σ H fun y H1 => td σ H1 fun x H2 => rDNotIn y x H2 Q) : tDNotIn ty td σ H Q := k
instance iu_dnotin {ty td : TE} : US (tDNotIn ty td σ H Q) (ty σ H fun y H1 => td σ H1 fun x H2 => rDNotIn y x H2 Q) := ⟨u_dnotin⟩
theorem u_dget {ty td : TE} (k : td σ H fun x H1 => ty σ H1 fun y H2 => rDGet x y H2 Q) : tDGet td ty σ H Q := k
instance iu_dget {ty td : TE} : US (tDGet td ty σ H Q) (td σ H fun x H1 => ty σ H1 fun y H2 => rDGet x y H2 Q) := ⟨u_dget⟩
theorem u_dput {ty td tv : TE} (k : tv σ H fun v H1 => td σ H1 fun x H2 => ty σ H2 fun y H3 => rDPut v D σ x y H3) : sDPut td ty tv D σ H := k
theorem u_dnew (k : ∀ p, H p = none → Q (.ref p) (upd H p (.dK []))) : tDNewK σ H Q := k
theorem s_din (h : TD H d val ks) (q : Q (.bl (val w).isSome) H) : rDIn (.str w) (.ref d) H Q := ⟨d, _, rfl, h.get w, q⟩
theorem s_dnotin (h : TD H d val ks) (q : Q (.bl (!(val w).isSome)) H) : rDNotIn (.str w) (.ref d) H Q := ⟨d, _, rfl, h.get w, q⟩
theorem s_dget (h : TD H d val ks) (e : val w = some v) (q : Q v H) : rDGet (.ref d) (.str w) H Q := ⟨d, v, rfl, e ▸ h.get w, q⟩
theorem s_dput (h : TD H d val ks) (hl : ks.length < 10000000) (q : ∀ o, TD (upd H d o) d (setv val w v) (addK ks w) → D.nx σ (upd H d o)) : rDPut v D σ (.ref d) (.str w) H := by
  obtain ⟨o, h1, h2⟩ := h.put w v hl
  exact ⟨d, _, rfl, h1, q o h2⟩
def rPop1 (ty : TE) (σ : L2.St) : V → Hp → VK → Prop := fun x H1 Q => ∃ a, x = .ref a ∧ IsD H1 a ∧ ty σ H1 fun y H2 => ∃ kvs k v, H2 a = some (.dK kvs) ∧ y = kV k ∧ valV kvs k = some v ∧ Q v (upd H2 a (.dK (dropK kvs k)))
theorem u_dpop1 {ty td : TE} (k : td σ H fun x H1 => rPop1 ty σ x H1 Q) : tDPop1 td ty σ H Q := k
instance iu_dpop1 {ty td : TE} : US (tDPop1 td ty σ H Q) (td σ H fun x H1 => rPop1 ty σ x H1 Q) := ⟨u_dpop1⟩
/-- d.pop(w), w there -/
theorem s_dpop1 {ty : TE} (h : TD H d val ks) (ev : val w = some v) (k : ∀ R : VK, R (.str w) H → ty σ H R) (q : ∀ o, TD (upd H d o) d (delv val w) (remK ks w) → Q v (upd H d o)) : rPop1 ty σ (.ref d) H Q := by
  obtain ⟨kvs, h1, h2, h3⟩ := h.drop w
  exact ⟨d, rfl, .inl ⟨kvs, .inl h1⟩, k _ ⟨kvs, Sum.inr w, v, h1, rfl, h2.trans ev, q _ h3⟩⟩
def rPop2 (ty tx : TE) (σ : L2.St) : V → Hp → VK → Prop := fun x H1 Q => ∃ a, x = .ref a ∧ IsD H1 a ∧ ty σ H1 fun y H2 => tx σ H2 fun z H3 => ∃ kvs k, H3 a = some (.dK kvs) ∧ y = kV k ∧
  (∀ v, valV kvs k = some v → Q v (upd H3 a (.dK (dropK kvs k)))) ∧ (valV kvs k = none → Q z H3)
theorem u_dpop2 {ty td tx : TE} (k : td σ H fun x H1 => rPop2 ty tx σ x H1 Q) : tDPop2 td ty tx σ H Q := k
instance iu_dpop2 {ty td tx : TE} : US (tDPop2 td ty tx σ H Q) (td σ H fun x H1 => rPop2 ty tx σ x H1 Q) := ⟨u_dpop2⟩
/-- d.pop(w, z), w there or not -/
theorem s_dpop2 {ty tx : TE} {z : V} (h : TD H d val ks) (k : ∀ R : VK, R (.str w) H → ty σ H R) (k2 : ∀ R : VK, R z H → tx σ H R)
    (q : ∀ v H', (H' = H ∨ ∃ o, H' = upd H d o) → TD H' d (delv val w) (remK ks w) → Q v H') : rPop2 ty tx σ (.ref d) H Q := by
  obtain ⟨kvs, h1, h2, h3⟩ := h.drop w
  refine ⟨d, rfl, .inl ⟨kvs, .inl h1⟩, k _ (k2 _ ⟨kvs, Sum.inr w, h1, rfl, fun v _ => q v _ (.inr ⟨_, rfl⟩) h3, fun e => q z H (.inl rfl) ?_⟩)⟩
  rw [h2] at e
  have hm : w ∉ ks := fun m => by
    have := h.mem.mp m
    rw [e] at this; cases this
  have e1 : delv val w = val := by
    funext x
    unfold delv
    split
    · rename_i c; rw [c, e]
    · rfl
  have e2 : remK ks w = ks := List.filter_eq_self.mpr fun x hx => decide_eq_true fun c => hm (c ▸ hx)
  rw [e1, e2]; exact h
/-- sorted(d) -/
theorem s_sortD (h : TD H d val ks) (q : ∀ p, H p = none → Q (.ref p) (upd H p (.lst ((ks.mergeSort (PySem.W.dataLe false PyData.str)).map V.str)))) : rSortDict [.ref d] H Q := by
  obtain ⟨kvs, h1, h2, h3, h4⟩ := h.ex
  exact ⟨d, kvs, ks, rfl, .inl h1, h2, q⟩
end
end Ah
set_option Elab.async false
set_option linter.all false
set_option maxRecDepth 100000
set_option maxHeartbeats 4000000
/-! things in the heap, side by side: a list of things, each with the cells that are its own; tuples stand for good -/
namespace Ah
open PySem PySem.Spec PyProof.Rows L2 TL
mutual
/-- data that stands for good: nothing, truths, numbers, texts, tuples of such -/
inductive PD (H : Hp) : V → PyData → Prop
  | non : PD H .non .none
  | bl (b : Bool) : PD H (.bl b) (.bool b)
  | int (i : Int) : PD H (.int i) (.int i)
  | str (x : Str) : PD H (.str x) (.str x)
  | tup {a : Addr} {vs : List V} {ds : List PyData} : H a = some (.tup vs) → PDs H vs ds → PD H (.ref a) (.tuple ds)
inductive PDs (H : Hp) : List V → List PyData → Prop
  | nil : PDs H [] []
  | cons {v : V} {vs : List V} {d : PyData} {ds : List PyData} : PD H v d → PDs H vs ds → PDs H (v :: vs) (d :: ds)
end
def TupM (G G' : Hp) : Prop := ∀ t zs, G t = some (.tup zs) → G' t = some (.tup zs)
section
variable {K : PySem.W.Frag} {G G' : Hp}
mutual
theorem PD.mono (e : TupM G G') : ∀ {v : V} {d : PyData}, PD G v d → PD G' v d
  | _, _, .non => .non
  | _, _, .bl b => .bl b
  | _, _, .int i => .int i
  | _, _, .str x => .str x
  | _, _, .tup h a => .tup (e _ _ h) (PDs.mono e a)
theorem PDs.mono (e : TupM G G') : ∀ {vs : List V} {ds : List PyData}, PDs G vs ds → PDs G' vs ds
  | _, _, .nil => .nil
  | _, _, .cons h t => .cons (PD.mono e h) (PDs.mono e t)
end
mutual
theorem PD.dp : ∀ {v : V} {d : PyData}, PD G v d → Dp K G v d
  | _, _, .non => .non
  | _, _, .bl b => .bl b
  | _, _, .int i => .int i
  | _, _, .str x => .str x
  | _, _, .tup h a => .tup (SqT.of h) (PDs.dp a)
theorem PDs.dp : ∀ {vs : List V} {ds : List PyData}, PDs G vs ds → DpAll K G vs ds
  | _, _, .nil => .nil
  | _, _, .cons h t => .cons (PD.dp h) (PDs.dp t)
end
theorem PDs.length : ∀ {vs : List V} {ds : List PyData}, PDs G vs ds → vs.length = ds.length
  | _, _, .nil => rfl
  | _, _, .cons _ t => by simp [PDs.length t]
theorem PDs.append : ∀ {vs ws : List V} {ds es : List PyData}, PDs G vs ds → PDs G ws es → PDs G (vs ++ ws) (ds ++ es)
  | [], _, _, _, .nil, b => b
  | _ :: _, _, _, _, .cons h t, b => .cons h (PDs.append t b)
theorem PDs.get : ∀ {vs : List V} {ds : List PyData} {i : Nat} {v : V}, PDs G vs ds → vs[i]? = some v → ∃ d, ds[i]? = some d ∧ PD G v d
  | _, _, 0, _, .cons h _, e => by cases e; exact ⟨_, rfl, h⟩
  | _, _, i + 1, v, .cons _ t, e => by
    obtain ⟨d, h1, h2⟩ := PDs.get (i := i) (v := v) t (by simpa using e)
    exact ⟨d, by simpa using h1, h2⟩
theorem PDs.get2 : ∀ {vs : List V} {ds : List PyData} {i : Nat} {d : PyData}, PDs G vs ds → ds[i]? = some d → ∃ v, vs[i]? = some v ∧ PD G v d
  | _, _, 0, _, .cons h _, e => by cases e; exact ⟨_, rfl, h⟩
  | _, _, i + 1, v, .cons _ t, e => by
    obtain ⟨d, h1, h2⟩ := PDs.get2 (i := i) t (by simpa using e)
    exact ⟨d, by simpa using h1, h2⟩
theorem PDs.take : ∀ {xs : List V} {ds : List PyData} (n : Nat), PDs G xs ds → PDs G (xs.take n) (ds.take n)
  | _, _, 0, _ => by simpa using .nil
  | _, _, _ + 1, .nil => .nil
  | _, _, n + 1, .cons h t => .cons h (PDs.take n t)
theorem PDs.drop : ∀ {xs : List V} {ds : List PyData} (n : Nat), PDs G xs ds → PDs G (xs.drop n) (ds.drop n)
  | _, _, 0, h => by simpa using h
  | _, _, _ + 1, .nil => .nil
  | _, _, n + 1, .cons h t => PDs.drop n t
theorem PDs.erase : ∀ {xs : List V} {ds : List PyData} (n : Nat), PDs G xs ds → PDs G (xs.eraseIdx n) (ds.eraseIdx n)
  | _, _, _, .nil => by simpa using .nil
  | _, _, 0, .cons h t => by simpa using t
  | _, _, n + 1, .cons h t => .cons h (PDs.erase n t)
theorem PDs.strs : ∀ ss : List Str, PDs G (ss.map V.str) (ss.map PyData.str)
  | [] => .nil
  | s :: ss => .cons (.str s) (PDs.strs ss)
theorem PDs.ints : ∀ ss : List Int, PDs G (ss.map V.int) (ss.map PyData.int)
  | [] => .nil
  | s :: ss => .cons (.int s) (PDs.ints ss)
theorem TupM.of (s : Same G G') : TupM G G' := fun _ _ e => s _ _ e
end
/-- a thing: what it says of the heap, with the cells that are its own -/
structure Res where
  p : Hp → (Addr → Prop) → Prop
  stay : ∀ {G G' : Hp} {S : Addr → Prop}, p G S → (∀ a, S a → G' a = G a) → TupM G G' → p G' S
  here : ∀ {G : Hp} {S : Addr → Prop} {a : Addr}, p G S → S a → ∃ o, G a = some o ∧ ∀ zs, o ≠ .tup zs
def SepA : List Res → Hp → (Addr → Prop) → Prop
  | [], _, _ => True
  | A :: L, G, F => ∃ S, A.p G S ∧ (∀ a, S a → ¬ F a) ∧ SepA L G (fun a => F a ∨ S a)
structure Sep (L : List Res) (G : Hp) : Prop where
  s : SepA L G (fun _ => False)
inductive Pick : Res → List Res → List Res → Prop
  | here {A : Res} {L : List Res} : Pick A (A :: L) L
  | there {A B : Res} {L M : List Res} : Pick A L M → Pick A (B :: L) (B :: M)
/-- L with A changed into A' is M -/
inductive Chg : Res → Res → List Res → List Res → Prop
  | here {A A' : Res} {L : List Res} : Chg A A' (A :: L) (A' :: L)
  | there {A A' B : Res} {L M : List Res} : Chg A A' L M → Chg A A' (B :: L) (B :: M)
def Ent (A B : Res) : Prop := ∀ G S, A.p G S → ∃ S', B.p G S' ∧ ∀ a, S' a → S a
theorem Ent.refl {A : Res} : Ent A A := fun _ S h => ⟨S, h, fun _ x => x⟩
/-- the things Rs are among L, what is left is F -/
inductive Spl : List Res → List Res → List Res → Prop
  | nil {L : List Res} : Spl [] L L
  | cons {A B : Res} {Rs L M F : List Res} : Pick B L M → Ent B A → Spl Rs M F → Spl (A :: Rs) L F
section
variable {A A' B : Res} {L M F Rs : List Res} {G G' : Hp} {X Y : Addr → Prop}
theorem SepA.weak : ∀ {L : List Res} {X Y : Addr → Prop}, SepA L G X → (∀ a, Y a → X a) → SepA L G Y
  | [], _, _, _, _ => trivial
  | _ :: _, _, _, ⟨S, h1, h2, h3⟩, k => ⟨S, h1, fun a ha hy => h2 a ha (k a hy), SepA.weak h3 fun a h => h.imp (k a) id⟩
theorem SepA.swap : SepA (A :: B :: L) G X → SepA (B :: A :: L) G X := by
  rintro ⟨S, h1, h2, T, h3, h4, h5⟩
  refine ⟨T, h3, fun a ha hx => h4 a ha (.inl hx), S, h1, fun a ha hx => ?_, SepA.weak h5 fun a h => ?_⟩
  · rcases hx with hx | hx
    · exact h2 a ha hx
    · exact h4 a hx (.inr ha)
  · rcases h with (h | h) | h
    · exact .inl (.inl h)
    · exact .inr h
    · exact .inl (.inr h)
theorem SepA.tail (h : SepA (A :: L) G X) : SepA L G X := by
  obtain ⟨S, _, _, h3⟩ := h
  exact SepA.weak h3 fun a h => .inl h
theorem SepA.pick (k : Pick A L M) : ∀ {X : Addr → Prop}, SepA L G X → SepA (A :: M) G X := by
  induction k with
  | here => exact fun h => h
  | there k ih =>
    rintro X ⟨S, h1, h2, h3⟩
    exact SepA.swap ⟨S, h1, h2, ih h3⟩
theorem SepA.put (k : Pick A L M) : ∀ {X : Addr → Prop}, SepA (A :: M) G X → SepA L G X := by
  induction k with
  | here => exact fun h => h
  | there k ih =>
    intro X h
    obtain ⟨S, h1, h2, h3⟩ := SepA.swap h
    exact ⟨S, h1, h2, ih h3⟩
theorem Chg.picks (k : Chg A A' L M) : ∃ F, Pick A L F ∧ Pick A' M F := by
  induction k with
  | here => exact ⟨_, .here, .here⟩
  | there k ih =>
    obtain ⟨F, a, b⟩ := ih
    exact ⟨_, .there a, .there b⟩
theorem SepA.ent (h : SepA (A :: L) G X) (e : Ent A A') : SepA (A' :: L) G X := by
  obtain ⟨S, h1, h2, h3⟩ := h
  obtain ⟨T, g1, g2⟩ := e _ _ h1
  exact ⟨T, g1, fun a ha => h2 a (g2 a ha), SepA.weak h3 fun a h => h.imp id (g2 a)⟩
theorem SepA.stay : ∀ {L : List Res} {X Y : Addr → Prop}, SepA L G X → (∀ a o, ¬ X a → G a = some o → G' a = some o) → (∀ a, Y a → X a ∨ G a = none) → TupM G G' → SepA L G' Y
  | [], _, _, _, _, _, _ => trivial
  | R :: _, X, Y, ⟨S, h1, h2, h3⟩, k, y, t => by
    refine ⟨S, R.stay h1 (fun a ha => ?_) t, fun a ha hy => ?_, SepA.stay h3 (fun a o n e => k a o (fun z => n (.inl z)) e) (fun a h => ?_) t⟩
    · obtain ⟨o, e, _⟩ := R.here h1 ha
      rw [k a o (h2 a ha) e, e]
    · rcases y a hy with z | z
      · exact h2 a ha z
      · obtain ⟨o, e, _⟩ := R.here h1 ha
        rw [e] at z; cases z
    · rcases h with h | h
      · exact (y a h).imp .inl id
      · exact .inl (.inr h)
theorem Sep.pick (h : Sep L G) (k : Pick A L M) : Sep (A :: M) G := ⟨SepA.pick k h.s⟩
theorem Sep.put (h : Sep (A :: M) G) (k : Pick A L M) : Sep L G := ⟨SepA.put k h.s⟩
theorem Sep.tail (h : Sep (A :: L) G) : Sep L G := ⟨SepA.tail h.s⟩
theorem Sep.ent (h : Sep (A :: L) G) (e : Ent A A') : Sep (A' :: L) G := ⟨SepA.ent h.s e⟩
theorem Sep.weaken (h : Sep L G) (k : Chg A A' L M) (e : Ent A A') : Sep M G := by
  obtain ⟨F, a, b⟩ := k.picks
  exact ((h.pick a).ent e).put b
/-- the first thing changes, what is not its own stays -/
theorem Sep.step (h : Sep (A :: L) G) (k : ∀ S, A.p G S → (∃ S', A'.p G' S' ∧ ∀ a, S' a → S a ∨ G a = none) ∧ ∀ a o, ¬ S a → G a = some o → G' a = some o) : Sep (A' :: L) G' := by
  obtain ⟨S, h1, _, h3⟩ := h.s
  obtain ⟨⟨T, g1, g2⟩, g3⟩ := k S h1
  have tm : TupM G G' := fun t zs e => g3 t _ (fun z => by
    obtain ⟨o, e2, n⟩ := A.here h1 z
    rw [e] at e2
    exact n zs (Option.some.inj e2).symm) e
  exact ⟨T, g1, fun a _ z => z, SepA.stay h3 (fun a o n e => g3 a o (fun z => n (.inr z)) e) (fun a h => by
    rcases h with h | h
    · exact h.elim
    · exact (g2 a h).imp .inr id) tm⟩
theorem Sep.chg (h : Sep L G) (c : Chg A A' L M) (k : ∀ S, A.p G S → (∃ S', A'.p G' S' ∧ ∀ a, S' a → S a ∨ G a = none) ∧ ∀ a o, ¬ S a → G a = some o → G' a = some o) : Sep M G' := by
  obtain ⟨F, a, b⟩ := c.picks
  exact ((h.pick a).step k).put b
theorem Sep.same (h : Sep L G) (s : Same G G') : Sep L G' := ⟨SepA.stay h.s (fun a o _ e => s a o e) (fun _ h => .inl h) (TupM.of s)⟩
/-- a thing more, of new cells -/
theorem Sep.add (h : Sep L G) (s : Same G G') {S : Addr → Prop} (hA : A.p G' S) (hn : ∀ a, S a → G a = none) : Sep (A :: L) G' :=
  ⟨S, hA, fun _ _ z => z, SepA.stay h.s (fun a o _ e => s a o e) (fun a h => by
    rcases h with h | h
    · exact h.elim
    · exact .inr (hn a h)) (TupM.of s)⟩
/-- a thing more that owns nothing -/
theorem Sep.pers (h : Sep L G) (hA : A.p G (fun _ => False)) : Sep (A :: L) G :=
  ⟨_, hA, fun _ z _ => z, SepA.weak h.s fun a h => by rcases h with h | h <;> exact h⟩
theorem SepA.spl (k : Spl Rs L F) : ∀ {X : Addr → Prop}, SepA L G X → SepA (Rs ++ F) G X := by
  induction k with
  | nil => exact fun h => h
  | cons p e k ih =>
    intro X h
    obtain ⟨S, h1, h2, h3⟩ := SepA.ent (SepA.pick p h) e
    exact ⟨S, h1, h2, ih h3⟩
theorem SepA.only (k : Spl Rs L F) : ∀ {X : Addr → Prop}, SepA L G X → SepA Rs G X := by
  induction k with
  | nil => exact fun _ => trivial
  | cons p e k ih =>
    intro X h
    obtain ⟨S, h1, h2, h3⟩ := SepA.ent (SepA.pick p h) e
    exact ⟨S, h1, h2, ih h3⟩
theorem Sep.spl (h : Sep L G) (k : Spl Rs L F) : Sep (Rs ++ F) G := ⟨SepA.spl k h.s⟩
theorem Sep.only (h : Sep L G) (k : Spl Rs L F) : Sep Rs G := ⟨SepA.only k h.s⟩
theorem Spl.all : ∀ {L : List Res}, Spl L L []
  | [] => .nil
  | _ :: _ => .cons .here .refl Spl.all
theorem Spl.skip (k : Spl Rs L F) : Spl Rs (A :: L) (A :: F) := by
  induction k with
  | nil => exact .nil
  | cons p e _ ih => exact .cons (.there p) e ih
/-- what a thing says -/
theorem Sep.of (h : Sep L G) (k : Pick A L M) : ∃ S, A.p G S := by
  obtain ⟨S, h1, _⟩ := (h.pick k).s
  exact ⟨S, h1⟩
end
/-! ### things -/
def NT (o : HO) : Prop := ∀ zs, o ≠ .tup zs
/-- a thing of one cell -/
def one (a : Addr) (φ : Hp → HO → Prop) (n : ∀ G o, φ G o → NT o) (m : ∀ G G' o, φ G o → TupM G G' → φ G' o) : Res where
  p G S := (∀ x, S x ↔ x = a) ∧ ∃ o, G a = some o ∧ φ G o
  stay := by
    rintro G G' S ⟨h1, o, h2, h3⟩ k t
    exact ⟨h1, o, by rw [k a ((h1 a).mpr rfl)]; exact h2, m _ _ _ h3 t⟩
  here := by
    rintro G S x ⟨h1, o, h2, h3⟩ hx
    have := (h1 x).mp hx
    subst this
    exact ⟨o, h2, n _ _ h3⟩
/-- a thing without cells -/
def pers (φ : Hp → Prop) (m : ∀ G G', φ G → TupM G G' → φ G') : Res where
  p G S := (∀ x, ¬ S x) ∧ φ G
  stay := by
    rintro G G' S ⟨h1, h2⟩ k t
    exact ⟨h1, m _ _ h2 t⟩
  here := by
    rintro G S x ⟨h1, h2⟩ hx
    exact (h1 x hx).elim
section
variable {a b : Addr} {φ ψ : Hp → HO → Prop} {n : ∀ G o, φ G o → NT o} {m : ∀ G G' o, φ G o → TupM G G' → φ G' o} {n' : ∀ G o, ψ G o → NT o} {m' : ∀ G G' o, ψ G o → TupM G G' → ψ G' o} {L M : List Res} {G G' : Hp} {o : HO}
theorem Sep.oneAt (h : Sep L G) (k : Pick (one a φ n m) L M) : ∃ o, G a = some o ∧ φ G o := by
  obtain ⟨S, _, h1⟩ := h.of k
  exact h1
theorem Sep.oneSet (h : Sep L G) (k : Chg (one a φ n m) (one a ψ n' m') L M) (w : ψ (upd G a o) o) : Sep M (upd G a o) := by
  refine h.chg k fun S hS => ⟨⟨S, ⟨hS.1, o, upd_same, w⟩, fun _ z => .inl z⟩, fun x u nx e => ?_⟩
  rw [upd_ne (fun z => nx ((hS.1 x).mpr z))]; exact e
theorem Sep.oneNew (h : Sep L G) (hp : G a = none) (w : φ (upd G a o) o) : Sep (one a φ n m :: L) (upd G a o) :=
  h.add (A := one a φ n m) (S := fun x => x = a) (Same.new (Same.refl _) hp) ⟨fun _ => Iff.rfl, o, upd_same, w⟩ fun x e => by subst e; exact hp
end
def cel (a : Addr) (o : HO) (n : NT o := by intro zs e; cases e) : Res := one a (fun _ u => u = o) (fun _ _ e => e ▸ n) (fun _ _ _ e _ => e)
/-- a list of values that tell nothing of the heap -/
def lis (a : Addr) (xs : List V) : Res := one a (fun _ u => u = .lst xs) (fun _ _ e => by subst e; intro zs e; cases e) (fun _ _ _ e _ => e)
/-- a list of data -/
def lisD (a : Addr) (xs : List V) (ds : List PyData) : Res := one a (fun G u => u = .lst xs ∧ PDs G xs ds) (fun _ _ e => by rw [e.1]; intro zs e; cases e) (fun _ _ _ e t => ⟨e.1, e.2.mono t⟩)
/-- a dict with texts as keys: val tells its values; at most N keys -/
def dic (a : Addr) (val : Str → Option V) (N : Nat) : Res := one a (fun _ u => ∃ ks, ks.length ≤ N ∧ ∀ H, H a = some u → TD H a val ks) (fun _ u h => by
  obtain ⟨ks, _, h⟩ := h
  rintro zs rfl
  obtain ⟨kvs, e⟩ := (h (upd (fun _ => none) a (.tup zs)) upd_same).there
  rw [upd_same] at e; cases e) (fun _ _ _ e _ => e)
/-- an instance -/
def obj (a C : Addr) (fs : List (Str × V)) : Res := one a (fun _ u => ∃ dx, u = .ins C dx fs) (fun _ _ e => by obtain ⟨dx, rfl⟩ := e; intro zs e; cases e) (fun _ _ _ e _ => e)
/-- a datum that stands for good -/
def dat (v : V) (d : PyData) : Res := pers (fun G => PD G v d) (fun _ _ h t => h.mono t)
/-- a tuple of whatever values -/
def tpl (a : Addr) (vs : List V) : Res := pers (fun G => G a = some (.tup vs)) (fun _ _ h t => t _ _ h)
/-- a box of draws -/
def box (a : Addr) : Res := one a (fun _ u => ∃ x0 x1 x2 x3 : Int, u = .lst [.int x0, .int x1, .int x2, .int x3]) (fun _ _ e => by obtain ⟨_, _, _, _, rfl⟩ := e; intro zs e; cases e) (fun _ _ _ e _ => e)
/-- the script -/
def scr (K : PySem.W.Frag) (a : Addr) (xs : List V) : Res where
  p G S := (∃ u, G a = some u ∧ NT u ∧ (∀ x, S x ↔ x = a) ∧ SqL K G a xs) ∨ ((∀ x, ¬ S x) ∧ ∀ G', SqL K G' a xs)
  stay := by
    rintro G G' S (⟨u, h1, h2, h3, h4⟩ | h) k t
    · have e := k a ((h3 a).mpr rfl)
      refine .inl ⟨u, by rw [e]; exact h1, h2, h3, ?_⟩
      rcases h4 with (h | ⟨o, h⟩) | h
      · exact .inl (.inl (by rw [e]; exact h))
      · exact .inl (.inr ⟨o, by rw [e]; exact h⟩)
      · exact .inr h
    · exact .inr h
  here := by
    rintro G S x (⟨u, h1, h2, h3, h4⟩ | h) hx
    · have := (h3 x).mp hx
      subst this
      exact ⟨u, h1, h2⟩
    · exact (h.1 x hx).elim
theorem Sep.begin {K : PySem.W.Frag} {H : Hp} {a : Addr} {xs : List V} (h : SqL K H a xs) : Sep [scr K a xs] H := by
  rcases h with (h | ⟨o, h⟩) | h
  · exact ⟨fun x => x = a, .inl ⟨_, h, (by intro zs e; cases e), fun _ => Iff.rfl, .inl (.inl h)⟩, fun _ _ z => z, trivial⟩
  · exact ⟨fun x => x = a, .inl ⟨_, h, (by intro zs e; cases e), fun _ => Iff.rfl, .inl (.inr ⟨o, h⟩)⟩, fun _ _ z => z, trivial⟩
  · exact ⟨fun _ => False, .inr ⟨fun _ z => z, fun _ => .inr h⟩, fun _ _ z => z, trivial⟩
section
variable {K : PySem.W.Frag} {H H' : Hp} {a b C : Addr} {o : HO} {xs ys vs : List V} {ds es : List PyData} {L M : List Res} {val : Str → Option V} {N N' : Nat} {fs : List (Str × V)} {v y : V} {d : PyData} {w : Str}
/-! what they say -/
theorem Sep.cel {n : NT o} (h : Sep L H) (k : Pick (cel a o n) L M) : H a = some o := by
  obtain ⟨u, e, rfl⟩ := h.oneAt k
  exact e
theorem Sep.lis (h : Sep L H) (k : Pick (lis a xs) L M) : H a = some (.lst xs) := by
  obtain ⟨u, e, rfl⟩ := h.oneAt k
  exact e
theorem Sep.lisD (h : Sep L H) (k : Pick (lisD a xs ds) L M) : H a = some (.lst xs) := by
  obtain ⟨u, e, rfl, _⟩ := h.oneAt k
  exact e
theorem Sep.pds (h : Sep L H) (k : Pick (Ah.lisD a xs ds) L M) : PDs H xs ds := by
  obtain ⟨u, e, rfl, g⟩ := h.oneAt k
  exact g
theorem Sep.dat (h : Sep L H) (k : Pick (dat v d) L M) : PD H v d := by
  obtain ⟨S, _, g⟩ := h.of k
  exact g
theorem Sep.tpl (h : Sep L H) (k : Pick (tpl a vs) L M) : H a = some (.tup vs) := by
  obtain ⟨S, _, g⟩ := h.of k
  exact g
theorem Sep.box (h : Sep L H) (k : Pick (box a) L M) : BoxAt H a := by
  obtain ⟨u, e, x0, x1, x2, x3, rfl⟩ := h.oneAt k
  exact ⟨x0, x1, x2, x3, e⟩
theorem Sep.obj (h : Sep L H) (k : Pick (obj a C fs) L M) : ∃ dx, H a = some (.ins C dx fs) := by
  obtain ⟨u, e, dx, rfl⟩ := h.oneAt k
  exact ⟨dx, e⟩
theorem Sep.dic (h : Sep L H) (k : Pick (dic a val N) L M) : ∃ ks, TD H a val ks ∧ ks.length ≤ N := by
  obtain ⟨u, e, ks, hl, t⟩ := h.oneAt k
  exact ⟨ks, t H e, hl⟩
theorem Sep.scr (h : Sep L H) (k : Pick (scr K a xs) L M) : SqL K H a xs := by
  obtain ⟨S, g⟩ := h.of k
  rcases g with ⟨_, _, _, _, g⟩ | g
  · exact g
  · exact g.2 H
/-! changes -/
theorem Sep.setL (h : Sep L H) (k : Chg (Ah.lis a xs) (Ah.lis a ys) L M) : Sep M (upd H a (.lst ys)) := h.oneSet k rfl
theorem tupM_upd {o : HO} (e : H a = some o) (n : NT o) {u : HO} : TupM H (upd H a u) := fun t zs g => by
  rw [upd_ne (by rintro rfl; rw [e] at g; exact n zs (Option.some.inj g))]; exact g
theorem Sep.setD (h : Sep L H) (k : Chg (Ah.lisD a xs ds) (Ah.lisD a ys es) L M) (g : PDs H ys es) : Sep M (upd H a (.lst ys)) := by
  obtain ⟨F, k1, k2⟩ := k.picks
  have e := h.lisD k1
  exact h.oneSet k ⟨rfl, g.mono (tupM_upd e (by intro zs z; cases z))⟩
theorem Sep.newL (h : Sep L H) (hp : H a = none) : Sep (Ah.lis a xs :: L) (upd H a (.lst xs)) := h.oneNew hp rfl
theorem tupM_new {u : HO} (hp : H a = none) : TupM H (upd H a u) := TupM.of (Same.new (Same.refl _) hp)
theorem Sep.newD (h : Sep L H) (hp : H a = none) (g : PDs H xs ds) : Sep (Ah.lisD a xs ds :: L) (upd H a (.lst xs)) := h.oneNew hp ⟨rfl, g.mono (tupM_new hp)⟩
theorem Sep.newT (h : Sep L H) (hp : H a = none) (g : PDs H xs ds) : Sep (Ah.dat (.ref a) (.tuple ds) :: L) (upd H a (.tup xs)) :=
  (h.same (Same.new (Same.refl _) hp)).pers ⟨fun _ z => z, .tup upd_same (g.mono (tupM_new hp))⟩
theorem Sep.newTp (h : Sep L H) (hp : H a = none) : Sep (Ah.tpl a xs :: L) (upd H a (.tup xs)) :=
  (h.same (Same.new (Same.refl _) hp)).pers ⟨fun _ z => z, upd_same⟩
theorem Sep.addDat (h : Sep L H) (g : PD H v d) : Sep (Ah.dat v d :: L) H := h.pers ⟨fun _ z => z, g⟩
theorem TD.move {H H' : Hp} {ks : List Str} (h : TD H a val ks) (e : H' a = H a) : TD H' a val ks := h.keep e
theorem Sep.setDic {val' : Str → Option V} {ks : List Str} (h : Sep L H) (k : Chg (Ah.dic a val N) (Ah.dic a val' N') L M) (t : TD (upd H a o) a val' ks) (hl : ks.length ≤ N') : Sep M (upd H a o) :=
  h.oneSet k ⟨ks, hl, fun G e => t.keep (by rw [e, upd_same])⟩
theorem Sep.newDic (h : Sep L H) (hp : H a = none) : Sep (Ah.dic a (fun _ => none) 0 :: L) (upd H a (.dK [])) := h.oneNew hp ⟨[], Nat.le_refl _, fun G e => ⟨[], e, rfl, .nil, fun _ => rfl⟩⟩
theorem Sep.setObj {dx : Addr} {fs' : List (Str × V)} (h : Sep L H) (k : Chg (Ah.obj a C fs) (Ah.obj a C fs') L M) : Sep M (upd H a (.ins C dx fs')) := h.oneSet k ⟨dx, rfl⟩
theorem Sep.but (h : Sep L H) (k : Pick (Ah.box a) L M) (s : But a H H') (b : BoxAt H' a) : Sep L H' := by
  refine ((h.pick k).step (A' := Ah.box a) fun S hS => ⟨⟨S, ⟨hS.1, ?_⟩, fun _ z => .inl z⟩, fun x u nx e => s x u (fun z => nx ((hS.1 x).mpr z)) e⟩).put k
  obtain ⟨x0, x1, x2, x3, e⟩ := b
  exact ⟨_, e, x0, x1, x2, x3, rfl⟩
theorem Sep.newBox (h : Sep L H) (s : Same H H') (b : BoxAt H' a) (n : H a = none) : Sep (Ah.box a :: L) H' := by
  obtain ⟨x0, x1, x2, x3, e⟩ := b
  exact h.add (A := Ah.box a) (S := fun x => x = a) s ⟨fun _ => Iff.rfl, _, e, x0, x1, x2, x3, rfl⟩ fun x z => by subst z; exact n
theorem Sep.addL (h : Sep L H) (s : Same H H') (e : H' a = some (.lst xs)) (n : H a = none) : Sep (Ah.lis a xs :: L) H' :=
  h.add (A := Ah.lis a xs) (S := fun x => x = a) s ⟨fun _ => Iff.rfl, _, e, rfl⟩ fun x z => by subst z; exact n
theorem Sep.addD (h : Sep L H) (s : Same H H') (e : H' a = some (.lst xs)) (n : H a = none) (g : PDs H' xs ds) : Sep (Ah.lisD a xs ds :: L) H' :=
  h.add (A := Ah.lisD a xs ds) (S := fun x => x = a) s ⟨fun _ => Iff.rfl, _, e, rfl, g⟩ fun x z => by subst z; exact n
/-! weaker things -/
theorem ent_dic (h : N ≤ N') : Ent (Ah.dic a val N) (Ah.dic a val N') := fun G S hS => ⟨S, ⟨hS.1, by
  obtain ⟨_, u, e, ks, hl, t⟩ := hS
  exact ⟨u, e, ks, by omega, t⟩⟩, fun _ z => z⟩
theorem ent_lisD {ds : List PyData} : Ent (Ah.lisD a xs ds) (Ah.lis a xs) := fun G S (hS : (Ah.lisD a xs ds).p G S) => ⟨S, ⟨hS.1, by
  obtain ⟨_, u, e, e2, t⟩ := hS
  exact ⟨u, e, e2⟩⟩, fun _ z => z⟩
theorem Sep.toD (h : Sep L H) (k : Chg (Ah.lis a xs) (Ah.lisD a xs ds) L M) (g : PDs H xs ds) : Sep M H := by
  obtain ⟨F, k1, k2⟩ := k.picks
  obtain ⟨S, h1, h2, h3⟩ := (h.pick k1).s
  obtain ⟨g1, u, g2, g3⟩ := h1
  exact (Sep.put (A := Ah.lisD a xs ds) ⟨S, ⟨g1, u, g2, g3, g⟩, h2, h3⟩ k2)
end
/-! ### steps, by things -/
section
variable {K : PySem.W.Frag} {H : Hp} {Q : VK} {σ : L2.St} {D : Ends} {a C : Addr} {xs ys vs : List V} {ds es : List PyData} {L M F : List Res} {val : Str → Option V} {N : Nat} {fs : List (Str × V)} {v y : V} {d : PyData} {w : Str} {f : Str}
def aLst (xs : List V) (H : Hp) (Q : VK) : Prop := xs.length ≤ sizeLine ∧ ∀ p, H p = none → Q (.ref p) (upd H p (.lst xs))
def aTup (xs : List V) (H : Hp) (Q : VK) : Prop := xs.length ≤ sizeLine ∧ ∀ p, H p = none → Q (.ref p) (upd H p (.tup xs))
theorem u_lstS {t : TA} (k : t σ H fun xs H1 => aLst xs H1 Q) : tLst t σ H Q := k
instance iu_lstS {t : TA} : US (tLst t σ H Q) (t σ H fun xs H1 => aLst xs H1 Q) := ⟨u_lstS⟩
theorem u_tupS {t : TA} (k : t σ H fun xs H1 => aTup xs H1 Q) : tTup t σ H Q := k
instance iu_tupS {t : TA} : US (tTup t σ H Q) (t σ H fun xs H1 => aTup xs H1 Q) := ⟨u_tupS⟩
theorem n_lst (h : Sep L H) (l : xs.length ≤ 1000) (q : ∀ p H', Sep (lis p xs :: L) H' → Q (.ref p) H') : aLst xs H Q := ⟨sz l, fun p hp => q p _ (h.newL hp)⟩
theorem n_tup (h : Sep L H) (g : PDs H xs es) (l : xs.length ≤ 1000) (q : ∀ p H', Sep (dat (.ref p) (.tuple es) :: L) H' → Q (.ref p) H') : aTup xs H Q := ⟨sz l, fun p hp => q p _ (h.newT hp g)⟩
theorem n_tupl (h : Sep L H) (l : xs.length ≤ 1000) (q : ∀ p H', Sep (tpl p xs :: L) H' → Q (.ref p) H') : aTup xs H Q := ⟨sz l, fun p hp => q p _ (h.newTp hp)⟩
theorem n_dnew (h : Sep L H) (q : ∀ p H', Sep (dic p (fun _ => none) 0 :: L) H' → Q (.ref p) H') : tDNewK σ H Q := fun p hp => q p _ (h.newDic hp)
theorem n_sl {lo hi : Option Int} (h : Sep L H) (s : SqL K H a xs) (q : ∀ p H', Sep (lis p (cutV xs lo hi) :: L) H' → Q (.ref p) H') : rSlL K (.ref a) lo hi H Q := ⟨a, xs, rfl, s, fun p hp => q p _ (h.newL hp)⟩
theorem n_app (h : Sep L H) (k : Chg (lis a xs) (lis a (xs ++ [y])) L M) (l : xs.length < sizeLine) (q : ∀ H', Sep M H' → Q .non H') : rAppend (.ref a) [y] H Q := by
  obtain ⟨F, k1, k2⟩ := k.picks
  exact ⟨a, xs, y, rfl, rfl, h.lis k1, l, q _ (h.setL k)⟩
theorem n_appD (h : Sep L H) (k : Chg (lisD a xs ds) (lisD a (xs ++ [y]) (ds ++ [d])) L M) (g : PD H y d) (l : ds.length < sizeLine) (q : ∀ H', Sep M H' → Q .non H') : rAppend (.ref a) [y] H Q := by
  obtain ⟨F, k1, k2⟩ := k.picks
  exact ⟨a, xs, y, rfl, rfl, h.lisD k1, by rw [(h.pds k1).length]; exact l, q _ (h.setD k ((h.pds k1).append (.cons g .nil)))⟩
theorem n_setL {i : Int} {n : Nat} {q : Hp → Prop} (h : Sep L H) (k : Chg (lis a xs) (lis a (xs.set n v)) L M) (e : ixN xs.length i = some n) (g : ∀ H', Sep M H' → q H') : rSetL (.ref a) (.int i) v H q := by
  obtain ⟨F, k1, k2⟩ := k.picks
  exact ⟨a, xs, i, n, rfl, rfl, h.lis k1, e, g _ (h.setL k)⟩
theorem n_din (h : Sep L H) (k : Pick (dic a val N) L M) (q : Q (.bl (val w).isSome) H) : rDIn (.str w) (.ref a) H Q := by
  obtain ⟨ks, t, _⟩ := h.dic k
  exact s_din t q
theorem n_dnotin (h : Sep L H) (k : Pick (dic a val N) L M) (q : Q (.bl (!(val w).isSome)) H) : rDNotIn (.str w) (.ref a) H Q := by
  obtain ⟨ks, t, _⟩ := h.dic k
  exact s_dnotin t q
theorem n_dget (h : Sep L H) (k : Pick (dic a val N) L M) (e : val w = some v) (q : Q v H) : rDGet (.ref a) (.str w) H Q := by
  obtain ⟨ks, t, _⟩ := h.dic k
  exact s_dget t e q
theorem n_dput (h : Sep L H) (k : Chg (dic a val N) (dic a (setv val w v) (N + 1)) L M) (hN : N < 10000000) (q : ∀ H', Sep M H' → D.nx σ H') : rDPut v D σ (.ref a) (.str w) H := by
  obtain ⟨F, k1, k2⟩ := k.picks
  obtain ⟨ks, t, l⟩ := h.dic k1
  exact s_dput t (by omega) fun o t' => q _ (h.setDic k t' (Nat.le_trans (addK_len _ _) (by omega)))
/-- a key that is there -/
theorem n_dputO (h : Sep L H) (k : Chg (dic a val N) (dic a (setv val w v) N) L M) (hN : N < 10000000) (e : (val w).isSome = true) (q : ∀ H', Sep M H' → D.nx σ H') : rDPut v D σ (.ref a) (.str w) H := by
  obtain ⟨F, k1, k2⟩ := k.picks
  obtain ⟨ks, t, l⟩ := h.dic k1
  refine s_dput t (by omega) fun o t' => q _ (h.setDic k t' ?_)
  have : addK ks w = ks := by unfold addK; rw [if_pos (t.mem.mpr e)]
  rw [this]; exact l
theorem n_dpop1 {ty : TE} (h : Sep L H) (k : Chg (dic a val N) (dic a (delv val w) N) L M) (ev : val w = some v) (k' : ∀ R : VK, R (.str w) H → ty σ H R) (q : ∀ H', Sep M H' → Q v H') : rPop1 ty σ (.ref a) H Q := by
  obtain ⟨F, k1, k2⟩ := k.picks
  obtain ⟨ks, t, l⟩ := h.dic k1
  exact s_dpop1 t ev k' fun o t' => q _ (h.setDic k t' (Nat.le_trans (remK_len _ _) l))
theorem n_listD (h : Sep L H) (k : Pick (dic a val N) L M) (q : ∀ (ks : List Str) p H', ks.Nodup → (∀ w, w ∈ ks ↔ (val w).isSome = true) → ks.length ≤ N → Sep (lis p (ks.map V.str) :: L) H' → Q (.ref p) H') : rListD2 [.ref a] H Q := by
  obtain ⟨ks, t, l⟩ := h.dic k
  obtain ⟨kvs, e1, e2, e3, e4⟩ := t.ex
  have e5 : kvs.map (fun kv => kV kv.1) = ks.map V.str := by
    have := congrArg (List.map kV) e2
    rw [List.map_map, List.map_map] at this
    exact this
  exact ⟨a, kvs, rfl, .inl e1, fun p hp => q ks p _ e3 (fun w => t.mem) l (by rw [e5]; exact h.newL hp)⟩
theorem n_sortD (h : Sep L H) (k : Pick (dic a val N) L M) (q : ∀ (ks : List Str) p H', ks.Nodup → (∀ w, w ∈ ks ↔ (val w).isSome = true) → ks.length ≤ N → Sep (lis p ((ks.mergeSort (PySem.W.dataLe false PyData.str)).map V.str) :: L) H' → Q (.ref p) H') : rSortDict [.ref a] H Q := by
  obtain ⟨ks, t, l⟩ := h.dic k
  exact s_sortD t fun p hp => q ks p _ t.nd (fun w => t.mem) l (h.newL hp)
theorem n_fld (h : Sep L H) (k : Pick (obj a C fs) L M) (c : Cls K C) (n : NoAttr K C f) (l : fs.lookup f = some v) (q : Q v H) : rFld K f (.ref a) H Q := by
  obtain ⟨dx, e⟩ := h.obj k
  exact s_fld e c n l q
theorem n_sfld (h : Sep L H) (k : Chg (obj a C fs) (obj a C (putF f y fs)) L M) (c : Cls K C) (n : NoAttr K C f) (hl : fs.length < 1000) (q : ∀ H', Sep M H' → D.nx σ H') : rSFld K f y D σ (.ref a) H := by
  obtain ⟨F, k1, k2⟩ := k.picks
  obtain ⟨dx, e⟩ := h.obj k1
  exact s_sfld e c n hl (q _ (h.setObj k))
theorem n_meth {m : Str} {sp : Sp} {E : XK} {t : TA} (h : Sep L H) (k : Pick (obj a C fs) L M) (l : fs.lookup m = none) (q : t σ H fun vs H2 => sp (.ref a :: vs) H2 Q E) : rMeth C m sp [] E t σ Q (.ref a) H := by
  obtain ⟨dx, e⟩ := h.obj k
  exact s_meth e l q
theorem n_methD {m : Str} {sp : Sp} {E : XK} {t : TA} {d : V} {dvs : List V} (h : Sep L H) (k : Pick (obj a C fs) L M) (l : fs.lookup m = none) (q : t σ H fun vs H2 => sp (.ref a :: (vs ++ d :: dvs)) H2 Q E) : rMeth C m sp (d :: dvs) E t σ Q (.ref a) H := by
  obtain ⟨dx, e⟩ := h.obj k
  exact s_methD e l q
/-- an instance made -/
def aMake (C : Addr) (sp : Sp) (E : XK) (vs : List V) (H : Hp) (Q : VK) : Prop := ∀ x dx, H x = none → H dx = none → dx ≠ x → sp (.ref x :: vs) (upd (upd H dx (.own x)) x (.ins C dx [])) (fun v H2 => v = .non ∧ Q (.ref x) H2) E
theorem u_makeS {sp : Sp} {E : XK} {t : TA} (k : t σ H fun vs H1 => aMake C sp E vs H1 Q) : tMake C sp [] E t σ H Q := u_make k
instance iu_makeS {sp : Sp} {E : XK} {t : TA} : US (tMake C sp [] E t σ H Q) (t σ H fun vs H1 => aMake C sp E vs H1 Q) := ⟨u_makeS⟩
theorem n_make {sp : Sp} {E : XK} (h : Sep L H) (q : ∀ x H', Sep (obj x C [] :: L) H' → sp (.ref x :: vs) H' (fun v H2 => v = .non ∧ Q (.ref x) H2) E) : aMake C sp E vs H Q := fun x dx hx hdx ne => by
  refine q x _ (h.add (A := obj x C []) (S := fun y => y = x) (fun b o e => ?_) ⟨fun _ => Iff.rfl, _, upd_same, dx, rfl⟩ fun y e => by subst e; exact hx)
  rw [upd_ne (ne_of_none e hx), upd_ne (ne_of_none e hdx)]; exact e
end
section
variable {K : PySem.W.Frag} {H : Hp} {Q : VK} {a : Addr} {xs : List V} {ds : List PyData} {L M F : List Res} {x y v : V} {d e : PyData}
theorem Sep.dpL (h : Sep L H) (k : Pick (Ah.lisD a xs ds) L M) : Dp K H (.ref a) (.list ds) := .lst (SqL.of (h.lisD k)) (h.pds k).dp
theorem Sep.dpE (h : Sep L H) (k : Pick (Ah.lis a []) L M) : Dp K H (.ref a) (.list []) := .lst (SqL.of (h.lis k)) .nil
theorem Sep.dpS {ss : List Str} (h : Sep L H) (k : Pick (Ah.lis a (ss.map V.str)) L M) : Dp K H (.ref a) (.list (ss.map PyData.str)) := .lst (SqL.of (h.lis k)) (PDs.strs (G := H) ss).dp
theorem n_neD (hx : Dp K H x d) (hy : Dp K H y e) (h1 : SeqAt.shaped d = true) (h2 : SeqAt.shaped e = true) (q : Q (.bl (!PyData.eqv d e)) H) : rNeD K x y H Q := ⟨d, e, hx, hy, h1, h2, q⟩
theorem n_eqD (hx : Dp K H x d) (hy : Dp K H y e) (h1 : SeqAt.shaped d = true) (h2 : SeqAt.shaped e = true) (q : Q (.bl (PyData.eqv d e)) H) : rEqD K x y H Q := ⟨d, e, hx, hy, h1, h2, q⟩
theorem PD.ofTup {ds : List PyData} (h : PD H v (.tuple ds)) : ∃ t zs, v = .ref t ∧ H t = some (.tup zs) ∧ PDs H zs ds := by
  cases h with
  | tup a b => exact ⟨_, _, rfl, a, b⟩
theorem PDs.two {zs : List V} {d e : PyData} (h : PDs H zs [d, e]) : ∃ x y, zs = [x, y] ∧ PD H x d ∧ PD H y e := by
  cases h with
  | cons a t =>
    cases t with
    | cons b t =>
      cases t
      exact ⟨_, _, rfl, a, b⟩
theorem PDs.three {zs : List V} {d e f : PyData} (h : PDs H zs [d, e, f]) : ∃ x y z, zs = [x, y, z] ∧ PD H x d ∧ PD H y e ∧ PD H z f := by
  cases h with
  | cons a t =>
    obtain ⟨x, y, rfl, b, c⟩ := PDs.two t
    exact ⟨_, _, _, rfl, a, b, c⟩
theorem PDs.four {zs : List V} {d e f g : PyData} (h : PDs H zs [d, e, f, g]) : ∃ x y z w, zs = [x, y, z, w] ∧ PD H x d ∧ PD H y e ∧ PD H z f ∧ PD H w g := by
  cases h with
  | cons a t =>
    obtain ⟨x, y, z, rfl, b, c⟩ := PDs.three t
    exact ⟨_, _, _, _, rfl, a, b, c⟩
theorem PD.ofInt {i : Int} (h : PD H v (.int i)) : v = .int i := by cases h; rfl
theorem PD.ofStr {i : Str} (h : PD H v (.str i)) : v = .str i := by cases h; rfl
theorem PD.ofBl {i : Bool} (h : PD H v (.bool i)) : v = .bl i := by cases h; rfl
theorem PDs.ofStrs : ∀ {zs : List V} {ss : List Str}, PDs H zs (ss.map PyData.str) → zs = ss.map V.str
  | _, [], .nil => rfl
  | _, s :: ss, .cons a t => by rw [PD.ofStr a, PDs.ofStrs t]; rfl
theorem PDs.ofInts : ∀ {zs : List V} {ss : List Int}, PDs H zs (ss.map PyData.int) → zs = ss.map V.int
  | _, [], .nil => rfl
  | _, s :: ss, .cons a t => by rw [PD.ofInt a, PDs.ofInts t]; rfl
/-- data of a list that is made of items -/
theorem PDs.item {α : Type} {f : α → PyData} {zs : List V} {l : List α} {i : Nat} {x : V} (h : PDs H zs (l.map f)) (hi : zs[i]? = some x) : ∃ e, l[i]? = some e ∧ PD H x (f e) := by
  obtain ⟨d, h1, h2⟩ := h.get hi
  obtain ⟨e, he, rfl⟩ := map_get h1
  exact ⟨e, he, h2⟩
end
theorem iteTc {c : Bool} {A B : Prop} (h : c = true) (k : A) : if c = true then A else B := by rw [if_pos h]; exact k
theorem iteFc {c : Bool} {A B : Prop} (h : c = false) (k : B) : if c = true then A else B := by rw [h]; exact iteF k
section
variable {A B : Prop} {x : V} {d e : PyData} {K K' : PySem.W.Frag} {H : Hp} {Q : VK} {L M : List Res} {a : Addr} {xs : List V}
theorem iteNeSelf (k : B) : if (!decide (x = x)) = true then A else B := by rw [decide_eq_true rfl]; exact iteF k
instance iiteNeSelf  : US (if (!decide (x = x)) = true then A else B) (B) := ⟨iteNeSelf⟩
theorem iteEqSelf (k : A) : if decide (x = x) = true then A else B := by rw [decide_eq_true rfl]; exact iteT k
instance iiteEqSelf  : US (if decide (x = x) = true then A else B) (A) := ⟨iteEqSelf⟩
theorem iteNeqv (h : PyData.eqv d e = true) (k : B) : if (!PyData.eqv d e) = true then A else B := by rw [h]; exact iteF k
theorem iteEqv (h : PyData.eqv d e = true) (k : A) : if PyData.eqv d e = true then A else B := by rw [h]; exact iteT k
theorem Sep.scr2 (h : Sep L H) (k : Pick (Ah.scr K a xs) L M) (e : K' = K) : SqL K' H a xs := e ▸ h.scr k
/-- the script cut -/
theorem n_slScr {ns : List Int} {lo hi : Option Int} (h : Sep L H) (k : Pick (Ah.scr K a (ns.map V.int)) L M) (e : K' = K) (q : ∀ (ms : List Int) p H', ms.length ≤ ns.length → Sep (lis p (ms.map V.int) :: L) H' → Q (.ref p) H') : rSlL K' (.ref a) lo hi H Q := by
  obtain ⟨ms, em, lm⟩ := cutV_ints ns lo hi
  exact ⟨a, ns.map V.int, rfl, h.scr2 k e, fun p hp => by rw [em]; exact q ms p _ lm (h.newL hp)⟩
end
section
variable {K : PySem.W.Frag} {H : Hp} {Q : VK} {L M F : List Res} {a b : Addr} {xs ys : List V} {ds es : List PyData}
theorem n_cat (h : Sep L H) (k1 : Pick (lis a xs) L M) (k2 : Pick (lis b ys) L F) (hl : xs.length + ys.length ≤ sizeLine) (q : ∀ p H', Sep (lis p (xs ++ ys) :: L) H' → Q (.ref p) H') : rCat (.ref a) (.ref b) H Q :=
  ⟨a, b, xs, ys, rfl, rfl, h.lis k1, h.lis k2, hl, fun p hp => q p _ (h.newL hp)⟩
theorem n_catD (h : Sep L H) (k1 : Pick (lisD a xs ds) L M) (k2 : Pick (lisD b ys es) L F) (hl : ds.length + es.length ≤ sizeLine) (q : ∀ p H', Sep (lisD p (xs ++ ys) (ds ++ es) :: L) H' → Q (.ref p) H') : rCat (.ref a) (.ref b) H Q :=
  ⟨a, b, xs, ys, rfl, rfl, h.lisD k1, h.lisD k2, by rw [(h.pds k1).length, (h.pds k2).length]; exact hl, fun p hp => q p _ (h.newD hp ((h.pds k1).append (h.pds k2)))⟩
theorem at_strs {ss : List Str} {r : Int} (h0 : 0 ≤ r) (h1 : r < ss.length) : ∃ s ∈ ss, atI (ss.map V.str) r = some (.str s) := by
  obtain ⟨k, rfl⟩ := Int.eq_ofNat_of_zero_le h0
  have hk : k < ss.length := by omega
  exact ⟨ss[k], List.getElem_mem hk, atI_nat (by rw [List.getElem?_map, List.getElem?_eq_getElem hk]; rfl)⟩
end
/-! ### loops, by things -/
section
variable {K : PySem.W.Frag} {g : TG} {tb : TS} {tt : TT} {te : TE} {D : Ends} {σ : L2.St} {H : Hp} {a : Addr} {xs : List V} {L M F : List Res} {R : Res} {vs : List Nat} {Q : VK}
/-- a loop's invariant: what slots and things there are -/
def LI (R : Res) (I : Nat → L2.St → List Res → Prop) (i : Nat) (σ : L2.St) (H : Hp) : Prop := ∃ M, I i σ M ∧ Sep (R :: M) H
def LI0 (I : Nat → L2.St → List Res → Prop) (i : Nat) (σ : L2.St) (H : Hp) : Prop := ∃ M, I i σ M ∧ Sep M H
def aForL (K : PySem.W.Frag) (g : TG) (tb : TS) (D : Ends) (σ : L2.St) (x : V) (H1 : Hp) : Prop := ∃ a, x = .ref a ∧ (∃ xs, SqL K H1 a xs) ∧ ∃ W : Nat → Nat → L2.St → Hp → Prop, (∃ m, W 0 m σ H1) ∧ ∀ i m σ H, W i m σ H →
      ((Itl K a).stop i H ∧ D.nx σ H) ∨ ((Itl K a).go i H ∧ ∃ N : L2.St → Hp → Prop, (∀ σ' H', N σ' H' → ∃ m', m' < m ∧ W (i + 1) m' σ' H') ∧ ∀ x H', (Itl K a).yld i H x H' → g x σ H' fun σ2 H2 => tb { D with nx := N, ct := N, bk := D.nx } σ2 H2)
theorem u_forL {tl : TE} (k : tl σ H (aForL K g tb D σ)) : tFor (iList K tl) g tb D σ H := k
instance iu_forL {tl : TE} : US (tFor (iList K tl) g tb D σ H) (tl σ H (aForL K g tb D σ)) := ⟨u_forL⟩
/-- what stands as a list -/
class Lists (K : PySem.W.Frag) (R : Res) (a : Addr) (xs : List V) : Prop where
  sq : ∀ H S, R.p H S → SqL K H a xs
instance : Lists K (lis a xs) a xs := ⟨fun H S h => by obtain ⟨_, u, e, rfl⟩ := h; exact SqL.of e⟩
instance {ds : List PyData} : Lists K (lisD a xs ds) a xs := ⟨fun H S h => by obtain ⟨_, u, e, rfl, _⟩ := h; exact SqL.of e⟩
instance : Lists K (scr K a xs) a xs := ⟨fun H S h => by
  rcases h with ⟨_, _, _, _, g⟩ | g
  · exact g
  · exact g.2 H⟩
theorem Sep.sq [l : Lists K R a xs] (h : Sep L H) (k : Pick R L M) : SqL K H a xs := by
  obtain ⟨S, g⟩ := h.of k
  exact l.sq H S g
theorem n_forL [l : Lists K R a xs] (I : Nat → L2.St → List Res → Prop) (h : Sep L H) (s : Spl [R] L F) (i0 : I 0 σ F)
    (hs : ∀ i x σ M H, xs[i]? = some x → I i σ M → Sep (R :: M) H → g x σ H fun σ2 H2 => tb { D with nx := LI R I (i + 1), ct := LI R I (i + 1), bk := D.nx } σ2 H2)
    (hd : ∀ σ M H, I xs.length σ M → Sep (R :: M) H → D.nx σ H) : aForL K g tb D σ (.ref a) H :=
  have h1 := h.spl s
  ⟨a, rfl, ⟨xs, h1.sq (R := R) .here⟩, for_list (xs := xs) (LI R I) ⟨F, i0, h1⟩ (fun i σ H _ ⟨M, _, z⟩ => z.sq (R := R) .here) (fun i x σ H e ⟨M, p, z⟩ => hs i x σ M H e p z) fun σ H ⟨M, p, z⟩ => hd σ M H p z⟩
theorem n_rng {lo : Int} {n : Nat} (I : Nat → L2.St → List Res → Prop) (h : Sep L H) (i0 : I 0 σ L)
    (hs : ∀ i σ M H, i < n → I i σ M → Sep M H → g (.int (lo + i)) σ H fun σ2 H2 => tb { D with nx := LI0 I (i + 1), ct := LI0 I (i + 1), bk := D.nx } σ2 H2)
    (hd : ∀ σ M H, I n σ M → Sep M H → D.nx σ H) :
    ∃ W : Nat → Nat → L2.St → Hp → Prop, (∃ m, W 0 m σ H) ∧ ∀ i m σ H, W i m σ H →
      ((Itr lo n).stop i H ∧ D.nx σ H) ∨ ((Itr lo n).go i H ∧ ∃ N : L2.St → Hp → Prop, (∀ σ' H', N σ' H' → ∃ m', m' < m ∧ W (i + 1) m' σ' H') ∧ ∀ x H', (Itr lo n).yld i H x H' → g x σ H' fun σ2 H2 => tb { D with nx := N, ct := N, bk := D.nx } σ2 H2) :=
  for_range (lo := lo) (n := n) (LI0 I) ⟨L, i0, h⟩ (fun i σ H e ⟨M, p, z⟩ => hs i σ M H e p z) fun σ H ⟨M, p, z⟩ => hd σ M H p z
/-- comprehensions over a list -/
def aLcL (K : PySem.W.Frag) (g : TG) (tt : TT) (te : TE) (vs : List Nat) (σ : L2.St) (Q : VK) (x : V) (H1 : Hp) : Prop := ∃ a, x = .ref a ∧ (∃ xs, SqL K H1 a xs) ∧ ∀ D, H1 D = none → ∃ W : Nat → Nat → Hp → Prop, (∃ m, W 0 m (upd H1 D (.lst []))) ∧ ∀ i m H, W i m H →
  ((Itl K a).stop i H ∧ Q (.ref D) H) ∨ ((Itl K a).go i H ∧ ∃ Nx : Hp → Prop, (∀ H', Nx H' → ∃ m', m' < m ∧ W (i + 1) m' H') ∧ ∀ x H', (Itl K a).yld i H x H' → g x (wipe σ vs) H' fun σ2 H2 => wipe σ2 vs = wipe σ vs ∧ tt σ2 H2 fun b H3 =>
    if b = true then te σ2 H3 fun y H4 => ∃ acc, H4 D = some (.lst acc) ∧ acc.length < sizeLine ∧ Nx (upd H4 D (.lst (acc ++ [y]))) else Nx H3)
theorem u_lcL {tl : TE} (k : tl σ H (aLcL K g tt te vs σ Q)) : tLc (iList K tl) g tt te vs σ H Q := k
instance iu_lcL {tl : TE} : US (tLc (iList K tl) g tt te vs σ H Q) (tl σ H (aLcL K g tt te vs σ Q)) := ⟨u_lcL⟩
/-- what is made so far -/
def LC (D : Addr) (L : List Res) (ds : List PyData) (H : Hp) : Prop := ∃ zs, Sep (lisD D zs ds :: L) H
theorem LC.begin {D : Addr} (h : Sep L H) (hD : H D = none) : LC D L [] (upd H D (.lst [])) := ⟨[], h.newD hD .nil⟩
/-- one more -/
theorem LC.put {D : Addr} {zs : List V} {ds : List PyData} {y : V} {d : PyData} {ds' : List PyData} (h : Sep M H) (s : Spl (lisD D zs ds :: L) M F) (hy : PD H y d) (e : ds' = ds ++ [d]) (l : ds.length < sizeLine) :
    ∃ acc, H D = some (.lst acc) ∧ acc.length < sizeLine ∧ LC D L ds' (upd H D (.lst (acc ++ [y]))) := by
  have h1 := h.only s
  have h2 := h1.pds .here
  refine ⟨zs, h1.lisD .here, by rw [h2.length]; exact l, zs ++ [y], ?_⟩
  rw [e]
  exact h1.setD .here (h2.append (.cons hy .nil))
theorem LC.skip {D : Addr} {zs : List V} {ds ds' : List PyData} (h : Sep M H) (s : Spl (lisD D zs ds :: L) M F) (e : ds' = ds) : LC D L ds' H := ⟨zs, by rw [e]; exact h.only s⟩
theorem n_lcL [l : Lists K R a xs] (h : Sep L H) (s : Pick R L M) (res : Nat → List PyData) (r0 : res 0 = [])
    (hs : ∀ i x D zs H', xs[i]? = some x → Sep (lisD D zs (res i) :: L) H' → g x (wipe σ vs) H' fun σ2 H2 => wipe σ2 vs = wipe σ vs ∧ tt σ2 H2 fun b H3 =>
      if b = true then te σ2 H3 fun y H4 => ∃ acc, H4 D = some (.lst acc) ∧ acc.length < sizeLine ∧ LC D L (res (i + 1)) (upd H4 D (.lst (acc ++ [y]))) else LC D L (res (i + 1)) H3)
    (hd : ∀ D zs H', Sep (lisD D zs (res xs.length) :: L) H' → Q (.ref D) H') : aLcL K g tt te vs σ Q (.ref a) H :=
  ⟨a, rfl, ⟨xs, h.sq s⟩, fun D hD => lc_list (xs := xs) (fun i H => LC D L (res i) H) (by rw [r0]; exact LC.begin h hD) (fun i H _ ⟨zs, z⟩ => z.sq (R := R) (.there s)) (fun i x H e ⟨zs, z⟩ => hs i x D zs H e z) fun H ⟨zs, z⟩ => hd D zs H z⟩
/-- .. of a map, of a filter and a map -/
theorem n_lcM {α : Type} [l : Lists K R a xs] (h : Sep L H) (s : Pick R L M) (as : List α) (el : xs.length = as.length) (f : α → PyData) (hl : as.length ≤ 100000)
    (hs : ∀ i x e D zs H', xs[i]? = some x → as[i]? = some e → Sep (lisD D zs (rsM as f i) :: L) H' → g x (wipe σ vs) H' fun σ2 H2 => wipe σ2 vs = wipe σ vs ∧ tt σ2 H2 fun b H3 =>
      if b = true then te σ2 H3 fun y H4 => ∃ acc, H4 D = some (.lst acc) ∧ acc.length < sizeLine ∧ LC D L (rsM as f i ++ [f e]) (upd H4 D (.lst (acc ++ [y]))) else LC D L (rsM as f i ++ [f e]) H3)
    (hd : ∀ D zs H', Sep (lisD D zs (as.map f) :: L) H' → Q (.ref D) H') : aLcL K g tt te vs σ Q (.ref a) H :=
  n_lcL (R := R) (xs := xs) h s (rsM as f) rsM_0 (fun i x D zs H' e z => by
    have hi := (List.getElem?_eq_some_iff.mp e).1
    have hi2 : i < as.length := by omega
    have e2 : as[i]? = some (as[i]'hi2) := List.getElem?_eq_getElem hi2
    rw [rsM_s e2]
    exact hs i x _ D zs H' e e2 z) fun D zs H' z => hd D zs H' (by rw [← rsM_all (g := f) el]; exact z)
theorem n_lcF {α : Type} [l : Lists K R a xs] (h : Sep L H) (s : Pick R L M) (as : List α) (el : xs.length = as.length) (p : α → Bool) (f : α → PyData) (hl : as.length ≤ 100000)
    (hs : ∀ i x e D zs H', xs[i]? = some x → as[i]? = some e → Sep (lisD D zs (rsF as p f i) :: L) H' → g x (wipe σ vs) H' fun σ2 H2 => wipe σ2 vs = wipe σ vs ∧ tt σ2 H2 fun b H3 =>
      if b = true then te σ2 H3 fun y H4 => ∃ acc, H4 D = some (.lst acc) ∧ acc.length < sizeLine ∧ LC D L (rsF as p f i ++ if p e = true then [f e] else []) (upd H4 D (.lst (acc ++ [y]))) else LC D L (rsF as p f i ++ if p e = true then [f e] else []) H3)
    (hd : ∀ D zs H', Sep (lisD D zs ((as.filter p).map f) :: L) H' → Q (.ref D) H') : aLcL K g tt te vs σ Q (.ref a) H :=
  n_lcL (R := R) (xs := xs) h s (rsF as p f) rsF_0 (fun i x D zs H' e z => by
    have hi := (List.getElem?_eq_some_iff.mp e).1
    have hi2 : i < as.length := by omega
    have e2 : as[i]? = some (as[i]'hi2) := List.getElem?_eq_getElem hi2
    have e3 : rsF as p f (i + 1) = rsF as p f i ++ if p (as[i]'hi2) = true then [f (as[i]'hi2)] else [] := by
      by_cases c : p (as[i]'hi2) = true
      · rw [rsF_y e2 c, if_pos c]
      · rw [rsF_n e2 (by simpa using c), if_neg c, List.append_nil]
    rw [e3]
    exact hs i x _ D zs H' e e2 z) fun D zs H' z => hd D zs H' (by rw [← rsF_all (g := f) (p := p) el]; exact z)
end
/-! ### a dict gone through: locked meanwhile -/
def dicL (a : Addr) (od : Obj) (kvs : List (Key × V)) (val : Str → Option V) : Res := one a (fun _ u => u = .frz od (.dK kvs) ∧ (∀ w, valV kvs (Sum.inr w) = val w) ∧ ∃ ks, ∀ G : Hp, G a = some (.dK kvs) → TD G a val ks) (fun _ _ e => by rw [e.1]; intro zs z; cases z) (fun _ _ _ e _ => e)
section
variable {K : PySem.W.Frag} {H : Hp} {Q : VK} {σ : L2.St} {a : Addr} {L M F : List Res} {val : Str → Option V} {N : Nat} {od : Obj} {kvs : List (Key × V)} {w : Str} {v : V} {g : TG} {tt : TT} {te td : TE} {vs : List Nat}
theorem Sep.dicL (h : Sep L H) (k : Pick (dicL a od kvs val) L M) : H a = some (.frz od (.dK kvs)) ∧ ∀ w, valV kvs (Sum.inr w) = val w := by
  obtain ⟨u, e, rfl, g, _⟩ := h.oneAt k
  exact ⟨e, g⟩
theorem Sep.dicT (h : Sep L H) (k : Pick (Ah.dicL a od kvs val) L M) : ∃ ks, ∀ G : Hp, G a = some (.dK kvs) → TD G a val ks := by
  obtain ⟨u, e, rfl, _, g⟩ := h.oneAt k
  exact g
theorem n_dgetL (h : Sep L H) (k : Pick (Ah.dicL a od kvs val) L M) (e : val w = some v) (q : Q v H) : rDGet (.ref a) (.str w) H Q := by
  obtain ⟨e1, e2⟩ := h.dicL k
  exact ⟨a, v, rfl, .inl ⟨kvs, Sum.inr w, .inr ⟨od, e1⟩, rfl, by rw [e2, e]⟩, q⟩
theorem n_dinL (h : Sep L H) (k : Pick (Ah.dicL a od kvs val) L M) (q : Q (.bl (val w).isSome) H) : rDIn (.str w) (.ref a) H Q := by
  obtain ⟨e1, e2⟩ := h.dicL k
  exact ⟨a, val w, rfl, .inl ⟨kvs, Sum.inr w, .inr ⟨od, e1⟩, rfl, (e2 w).symm⟩, q⟩
theorem n_dnotinL (h : Sep L H) (k : Pick (Ah.dicL a od kvs val) L M) (q : Q (.bl (!(val w).isSome)) H) : rDNotIn (.str w) (.ref a) H Q := by
  obtain ⟨e1, e2⟩ := h.dicL k
  exact ⟨a, val w, rfl, .inl ⟨kvs, Sum.inr w, .inr ⟨od, e1⟩, rfl, (e2 w).symm⟩, q⟩
/-- a comprehension over a dict's keys -/
theorem n_lcK (h : Sep L H) (k : Pick (dic a val N) L F) (htd : ∀ (G : Hp) (R : VK), R (.ref a) G → td σ G R) (p : Str → Bool) (f : Str → PyData) (hN : N ≤ 100000)
    (hs : ∀ (ks : List Str) (kvs : List (Key × V)) (od : Obj), ks.Nodup → (∀ w, w ∈ ks ↔ (val w).isSome = true) → ks.length ≤ N → ∀ i w D zs H', ks[i]? = some w → Sep (lisD D zs (rsF ks p f i) :: Ah.dicL a od kvs val :: F) H' → g (.str w) (wipe σ vs) H' fun σ2 H2 => wipe σ2 vs = wipe σ vs ∧ tt σ2 H2 fun b H3 =>
      if b = true then te σ2 H3 fun y H4 => ∃ acc, H4 D = some (.lst acc) ∧ acc.length < sizeLine ∧ LC D (Ah.dicL a od kvs val :: F) (rsF ks p f i ++ if p w = true then [f w] else []) (upd H4 D (.lst (acc ++ [y]))) else LC D (Ah.dicL a od kvs val :: F) (rsF ks p f i ++ if p w = true then [f w] else []) H3)
    (hd : ∀ (ks : List Str) D zs H', ks.Nodup → (∀ w, w ∈ ks ↔ (val w).isSome = true) → ks.length ≤ N → Sep (lisD D zs ((ks.filter p).map f) :: dic a val N :: F) H' → Q (.ref D) H') : tLockE (tLc (iKeys td) g tt te vs) σ H Q := by
  have h1 := h.pick k
  obtain ⟨ks, t, hl⟩ := h1.dic .here
  have nd := t.nd
  have hm := fun w => (t.mem (w := w))
  obtain ⟨kvs, e1, e2, e3, e4⟩ := t.ex
  have hlen : kvs.length = ks.length := by
    have := congrArg List.length e2
    rwa [List.length_map, List.length_map] at this
  refine ⟨a, .dK kvs, e1, trivial, fun od => ?_⟩
  have h2 : Sep (Ah.dicL a od kvs val :: F) (upd H a (.frz od (.dK kvs))) := h1.oneSet .here ⟨rfl, e4, ks, fun G e => ⟨kvs, e, e2, e3, e4⟩⟩
  refine htd _ _ ⟨a, od, rfl, .inl ⟨kvs, upd_same, fun D hD => ?_⟩⟩
  refine lc_it walk_keys (fun i H => LC D (Ah.dicL a od kvs val :: F) (rsF ks p f i) H) (by rw [rsF_0]; exact LC.begin h2 hD) (fun i H _ ⟨zs, z⟩ => (z.dicL (.there .here)).1) (fun i x H H' hi ⟨zs, z⟩ y => ?_) fun H' ⟨zs, z⟩ => ?_
  · obtain ⟨rfl, kk, v, hk, rfl⟩ := y
    have hi2 : i < ks.length := by omega
    have e5 : ks[i]? = some (ks[i]'hi2) := List.getElem?_eq_getElem hi2
    have e6 : kk = Sum.inr (ks[i]'hi2) := by
      have h7 := congrArg (fun l => l[i]?) e2
      rw [List.getElem?_map, List.getElem?_map, hk, e5] at h7
      exact Option.some.inj h7
    subst e6
    have e3 : rsF ks p f (i + 1) = rsF ks p f i ++ if p (ks[i]'hi2) = true then [f (ks[i]'hi2)] else [] := by
      by_cases c : p (ks[i]'hi2) = true
      · rw [rsF_y e5 c, if_pos c]
      · rw [rsF_n e5 (by simpa using c), if_neg c, List.append_nil]
    rw [e3]
    exact hs ks kvs od nd hm hl i _ D zs H' e5 z
  · refine ⟨(z.dicL (.there .here)).1, hd ks D zs _ nd hm hl ?_⟩
    rw [rsF_all hlen] at z
    refine z.oneSet (.there .here) ⟨ks, hl, fun G e => ⟨kvs, e, e2, e3, e4⟩⟩
/-- a loop over a dict's keys -/
theorem n_forK {tb : TS} {D : Ends} (h : Sep L H) (k : Pick (dic a val N) L F) (htd : ∀ (G : Hp) (R : VK), R (.ref a) G → td σ G R) (I : List Str → Nat → L2.St → List Res → Prop)
    (i0 : ∀ ks, ks.Nodup → (∀ w, w ∈ ks ↔ (val w).isSome = true) → ks.length ≤ N → I ks 0 σ F)
    (hs : ∀ (ks : List Str) (kvs : List (Key × V)) (od : Obj), ks.Nodup → (∀ w, w ∈ ks ↔ (val w).isSome = true) → ks.length ≤ N → ∀ i w σ M H, ks[i]? = some w → I ks i σ M → Sep (Ah.dicL a od kvs val :: M) H → g (.str w) σ H fun σ2 H2 => tb { D with nx := LI (Ah.dicL a od kvs val) (I ks) (i + 1), ct := LI (Ah.dicL a od kvs val) (I ks) (i + 1), rt := fun v H' => H' a = some (.frz od (.dK kvs)) ∧ D.rt v (upd H' a (.dK kvs)), bk := fun σ' H' => H' a = some (.frz od (.dK kvs)) ∧ D.nx σ' (upd H' a (.dK kvs)) } σ2 H2)
    (hd : ∀ (ks : List Str) σ M H, ks.Nodup → (∀ w, w ∈ ks ↔ (val w).isSome = true) → ks.length ≤ N → I ks ks.length σ M → Sep (dic a val N :: M) H → D.nx σ H) : tLock (tFor (iKeys td) g tb) D σ H := by
  have h1 := h.pick k
  obtain ⟨ks, t, hl⟩ := h1.dic .here
  have nd := t.nd
  have hm := fun w => (t.mem (w := w))
  obtain ⟨kvs, e1, e2, e3, e4⟩ := t.ex
  have hlen : kvs.length = ks.length := by
    have := congrArg List.length e2
    rwa [List.length_map, List.length_map] at this
  refine ⟨a, .dK kvs, e1, trivial, fun od => ?_⟩
  have h2 : Sep (Ah.dicL a od kvs val :: F) (upd H a (.frz od (.dK kvs))) := h1.oneSet .here ⟨rfl, e4, ks, fun G e => ⟨kvs, e, e2, e3, e4⟩⟩
  refine htd _ _ ⟨a, od, rfl, .inl ⟨kvs, upd_same, ?_⟩⟩
  refine for_it walk_keys (LI (Ah.dicL a od kvs val) (I ks)) ⟨F, i0 ks nd hm hl, h2⟩ (fun i σ H _ ⟨M, _, z⟩ => (z.dicL .here).1) (fun i x σ H H' hi ⟨M, p, z⟩ y => ?_) fun σ H' ⟨M, p, z⟩ => ?_
  · obtain ⟨rfl, kk, v, hk, rfl⟩ := y
    have hi2 : i < ks.length := by omega
    have e5 : ks[i]? = some (ks[i]'hi2) := List.getElem?_eq_getElem hi2
    have e6 : kk = Sum.inr (ks[i]'hi2) := by
      have h7 := congrArg (fun l => l[i]?) e2
      rw [List.getElem?_map, List.getElem?_map, hk, e5] at h7
      exact Option.some.inj h7
    subst e6
    exact hs ks kvs od nd hm hl i _ σ M H' e5 p z
  · rw [hlen] at p
    exact ⟨(z.dicL .here).1, hd ks σ M _ nd hm hl p (z.oneSet .here ⟨ks, hl, fun G e => ⟨kvs, e, e2, e3, e4⟩⟩)⟩
/-- a loop over the keys of a dict that is gone through already -/
theorem n_forKL {tb : TS} {D : Ends} (h : Sep L H) (k : Pick (Ah.dicL a od kvs val) L F) (htd : ∀ (G : Hp) (R : VK), R (.ref a) G → td σ G R) (I : List Str → Nat → L2.St → List Res → Prop)
    (i0 : ∀ ks, ks.Nodup → (∀ w, w ∈ ks ↔ (val w).isSome = true) → I ks 0 σ F)
    (hs : ∀ (ks : List Str), ks.Nodup → (∀ w, w ∈ ks ↔ (val w).isSome = true) → ∀ i w σ M H, ks[i]? = some w → I ks i σ M → Sep (Ah.dicL a od kvs val :: M) H → g (.str w) σ H fun σ2 H2 => tb { D with nx := LI (Ah.dicL a od kvs val) (I ks) (i + 1), ct := LI (Ah.dicL a od kvs val) (I ks) (i + 1), bk := D.nx } σ2 H2)
    (hd : ∀ (ks : List Str) σ M H, ks.Nodup → (∀ w, w ∈ ks ↔ (val w).isSome = true) → I ks ks.length σ M → Sep (Ah.dicL a od kvs val :: M) H → D.nx σ H) : tFor (iKeys td) g tb D σ H := by
  have h1 := h.pick k
  obtain ⟨ks, ht⟩ := h1.dicT .here
  have t : TD (upd H a (.dK kvs)) a val ks := ht _ upd_same
  have nd := t.nd
  have hm := fun w => (t.mem (w := w))
  obtain ⟨kvs', e1, e2, e3, e4⟩ := t.ex
  have : kvs' = kvs := by rw [upd_same] at e1; cases e1; rfl
  subst this
  have hlen : kvs'.length = ks.length := by
    have := congrArg List.length e2
    rwa [List.length_map, List.length_map] at this
  refine htd _ _ ⟨a, od, rfl, .inl ⟨kvs', (h1.dicL .here).1, ?_⟩⟩
  refine for_it walk_keys (LI (Ah.dicL a od kvs' val) (I ks)) ⟨F, i0 ks nd hm, h1⟩ (fun i σ H _ ⟨M, _, z⟩ => (z.dicL .here).1) (fun i x σ H H' hi ⟨M, p, z⟩ y => ?_) fun σ H' ⟨M, p, z⟩ => ?_
  · obtain ⟨rfl, kk, v, hk, rfl⟩ := y
    have hi2 : i < ks.length := by omega
    have e5 : ks[i]? = some (ks[i]'hi2) := List.getElem?_eq_getElem hi2
    have e6 : kk = Sum.inr (ks[i]'hi2) := by
      have h7 := congrArg (fun l => l[i]?) e2
      rw [List.getElem?_map, List.getElem?_map, hk, e5] at h7
      exact Option.some.inj h7
    subst e6
    exact hs ks nd hm i _ σ M H' e5 p z
  · rw [hlen] at p
    exact hd ks σ M _ nd hm p z
end
theorem u_lockAsg {t : TE} {i : Nat} {D : Ends} {σ : L2.St} {H : Hp} (h : tLockE t σ H fun x H1 => D.nx (σ.set i (some x)) H1) : tLock (tAsg t (gName i)) D σ H := h
instance iu_lockAsg {t : TE} {i : Nat} {D : Ends} {σ : L2.St} {H : Hp} : US (tLock (tAsg t (gName i)) D σ H) (tLockE t σ H fun x H1 => D.nx (σ.set i (some x)) H1) := ⟨u_lockAsg⟩
theorem n_lenD {H : Hp} {Q : VK} {a : Addr} {L M : List Res} {val : Str → Option V} {N : Nat} (h : Sep L H) (k : Pick (dic a val N) L M) (q : ∀ n : Nat, n ≤ N → Q (.int n) H) : rLenD [.ref a] H Q := by
  obtain ⟨ks, t, l⟩ := h.dic k
  obtain ⟨kvs, e, e2⟩ := t.len
  exact ⟨a, kvs, rfl, e, q _ (by omega)⟩
end Ah
set_option Elab.async false
set_option linter.all false
set_option maxRecDepth 100000
set_option maxHeartbeats 4000000
/-! woods -/
namespace Ah
open PySem PySem.Spec PyProof.Rows L2 TL
abbrev MarkM := Str → Option (Int × Int)
def setm (A : MarkM) (w : Str) (m : Int × Int) : MarkM := fun x => if x = w then some m else A x
def delm (A : MarkM) (w : Str) : MarkM := fun x => if x = w then none else A x
/-- the values are marks: tuples that stand in the heap -/
def MV (H : Hp) (val : Str → Option V) (A : MarkM) : Prop := ∀ w, (A w = none ∧ val w = none) ∨ ∃ (m : Int × Int) (t : Addr), A w = some m ∧ val w = some (.ref t) ∧ H t = some (.tup [.int m.1, .int m.2])
def wn (m : Int × Int) (n : Int) : Int := worth m.1 m.2 n
section
variable {H H' : Hp} {val : Str → Option V} {A B : MarkM} {w x : Str} {m : Int × Int} {n n' : Int}
theorem MV.mono (h : MV H val A) (k : ∀ t zs, H t = some (.tup zs) → H' t = some (.tup zs)) : MV H' val A := fun w => by
  rcases h w with h | ⟨m, t, h1, h2, h3⟩
  · exact .inl h
  · exact .inr ⟨m, t, h1, h2, k _ _ h3⟩
theorem MV.none_iff (h : MV H val A) : (val w).isSome = (A w).isSome := by
  rcases h w with ⟨h1, h2⟩ | ⟨m, t, h1, h2, h3⟩
  · rw [h1, h2]; rfl
  · rw [h1, h2]; rfl
theorem MV.some (h : MV H val A) (e : A w = some m) : ∃ t, val w = some (.ref t) ∧ H t = some (.tup [.int m.1, .int m.2]) := by
  rcases h w with ⟨h1, _⟩ | ⟨m', t, h1, h2, h3⟩
  · rw [h1] at e; cases e
  · rw [h1] at e; cases e
    exact ⟨t, h2, h3⟩
theorem MV.set (h : MV H val A) {t : Addr} (e : H t = Option.some (.tup [.int m.1, .int m.2])) : MV H (setv val w (.ref t)) (setm A w m) := fun x => by
  unfold setv setm
  by_cases c : x = w
  · rw [if_pos c, if_pos c]; exact .inr ⟨m, t, rfl, rfl, e⟩
  · rw [if_neg c, if_neg c]; exact h x
theorem MV.del (h : MV H val A) : MV H (delv val w) (delm A w) := fun x => by
  unfold delv delm
  by_cases c : x = w
  · rw [if_pos c, if_pos c]; exact .inl ⟨rfl, rfl⟩
  · rw [if_neg c, if_neg c]; exact h x
/-! ### tops -/
/-- the top at x is right: there where a word begins so, worth what the best of them is -/
def TopAt (A B : MarkM) (n : Int) (x : Str) : Prop := (B x = none ∧ ∀ w, A w ≠ none → ¬ tl x <+: tl w) ∨
  ∃ m, B x = some m ∧ 0 ≤ m.1 ∧ m.2 ≤ n ∧ (∃ w a, A w = some a ∧ tl x <+: tl w ∧ wn a n = wn m n) ∧ ∀ w a, A w = some a → tl x <+: tl w → wn a n ≤ wn m n
/-- the marks are words' -/
def MarksOk (A : MarkM) (n : Int) : Prop := ∀ w m, A w = some m → isW w = true ∧ 0 ≤ m.1 ∧ m.2 ≤ n
theorem wn_later (h1 : m.2 ≤ n) (h2 : n ≤ n') : wn m n' = worth (wn m n) n n' := (worth_worth h1 h2).symm
theorem TopAt.later (h : TopAt A B n x) (ok : MarksOk A n) (l : n ≤ n') : TopAt A B n' x := by
  rcases h with h | ⟨m, h1, h2, h3, ⟨w, a, h4, h5, h6⟩, h7⟩
  · exact .inl h
  · refine .inr ⟨m, h1, h2, by omega, ⟨w, a, h4, h5, ?_⟩, fun w' a' e p => ?_⟩
    · rw [wn_later (ok w a h4).2.2 l, wn_later h3 l, h6]
    · rw [wn_later (ok w' a' e).2.2 l, wn_later h3 l]
      exact worth_mono (h7 w' a' e p)
theorem MarksOk.later (ok : MarksOk A n) (l : n ≤ n') : MarksOk A n' := fun w m e => ⟨(ok w m e).1, (ok w m e).2.1, by have := (ok w m e).2.2; omega⟩
theorem TopAt.other (h : TopAt A B n x) {B' : MarkM} (e : B' x = B x) : TopAt A B' n x := by
  unfold TopAt at h ⊢
  rw [e]; exact h
/-- words behind x are the same -/
theorem TopAt.marks (h : TopAt A B n x) {A' : MarkM} (e : ∀ w, tl x <+: tl w → A' w = A w) : TopAt A' B n x := by
  rcases h with ⟨h, g⟩ | ⟨m, h1, h2, h3, ⟨w, a, h4, h5, h6⟩, h7⟩
  · refine .inl ⟨h, fun w hw p => ?_⟩
    rw [e w p] at hw
    exact g w hw p
  · refine .inr ⟨m, h1, h2, h3, ⟨w, a, by rw [e w h5]; exact h4, h5, h6⟩, fun w' a' e' p => ?_⟩
    rw [e w' p] at e'
    exact h7 w' a' e' p
def signsL : List Nat := 32 :: (List.range 26).map (· + 97)
theorem mem_signs {c : Nat} (h : low c = true ∨ c = 32) : c ∈ signsL := by
  unfold signsL
  rcases h with h | h
  · unfold low at h
    simp only [Bool.and_eq_true, decide_eq_true_eq] at h
    refine List.mem_cons.mpr (.inr (List.mem_map.mpr ⟨c - 97, List.mem_range.mpr (by omega), by omega⟩))
  · exact List.mem_cons.mpr (.inl h)
theorem tl_snoc (x : Str) (c : Nat) : tl (x ++ sgn c) = tl x ++ [c] := by rw [tl_append]; rfl
/-- what stands behind x: x itself, or behind a longer one -/
theorem behind_one {w : Str} (p : tl x <+: tl w) (hw : isW w = true) : w = x ∨ ∃ c ∈ signsL, tl (x ++ sgn c) <+: tl w := by
  obtain ⟨r, e⟩ := p
  cases r with
  | nil => exact .inl (tl_inj (by rw [← e]; simp))
  | cons c r =>
    refine .inr ⟨c, mem_signs (wordL_signs hw c (by rw [← e]; simp)), r, ?_⟩
    rw [tl_snoc, ← e]; simp
/-- a top renewed from the ones behind it -/
theorem top_new {bs : List (Int × Int)} (ok : MarksOk A n) (hc : ∀ c ∈ signsL, TopAt A B n (x ++ sgn c)) (hb : ∀ m, m ∈ bs ↔ ((∃ c ∈ signsL, B (x ++ sgn c) = some m) ∨ A x = some m)) :
    (bs = [] → TopAt A (delm B x) n x) ∧ ∀ g, (∃ m ∈ bs, g = wn m n) → (∀ m ∈ bs, wn m n ≤ g) → TopAt A (setm B x (g, n)) n x := by
  have up : ∀ w a, A w = some a → tl x <+: tl w → ∃ m ∈ bs, wn a n ≤ wn m n := fun w a e p => by
    rcases behind_one p (ok w a e).1 with rfl | ⟨c, hcm, pc⟩
    · exact ⟨a, (hb a).mpr (.inr e), Int.le_refl _⟩
    · rcases hc c hcm with ⟨_, g⟩ | ⟨m, h1, _, _, _, h7⟩
      · exact absurd pc (g w (by rw [e]; simp))
      · exact ⟨m, (hb m).mpr (.inl ⟨c, hcm, h1⟩), h7 w a e pc⟩
  have dn : ∀ m ∈ bs, ∃ w a, A w = some a ∧ tl x <+: tl w ∧ wn a n = wn m n ∧ 0 ≤ m.1 ∧ m.2 ≤ n := fun m hm => by
    rcases (hb m).mp hm with ⟨c, hcm, h⟩ | h
    · rcases hc c hcm with ⟨h', _⟩ | ⟨m', h1, h2, h3, ⟨w, a, h4, h5, h6⟩, _⟩
      · rw [h'] at h; cases h
      · rw [h1] at h; cases h
        refine ⟨w, a, h4, ?_, h6, h2, h3⟩
        rw [tl_snoc] at h5
        exact List.IsPrefix.trans ⟨[c], rfl⟩ h5
    · exact ⟨x, m, h, List.prefix_refl _, rfl, (ok x m h).2⟩
  refine ⟨fun e => .inl ⟨by unfold delm; rw [if_pos rfl], fun w hw p => ?_⟩, fun g ⟨m, hm, hg⟩ hge => ?_⟩
  · cases ea : A w with
    | none => exact hw ea
    | some a =>
      obtain ⟨m, hm, _⟩ := up w a ea p
      rw [e] at hm; cases hm
  · obtain ⟨w, a, h4, h5, h6, h7, h8⟩ := dn m hm
    have g0 : 0 ≤ g := by rw [hg]; exact worth_nonneg h7
    have gn : wn (g, n) n = g := worth_at_begin (Int.le_refl _)
    refine .inr ⟨(g, n), by unfold setm; rw [if_pos rfl], g0, Int.le_refl _, ⟨w, a, h4, h5, by rw [gn, h6, hg]⟩, fun w' a' e p => ?_⟩
    obtain ⟨m', hm', hle⟩ := up w' a' e p
    rw [gn]
    exact Int.le_trans hle (hge m' hm')
theorem MarksOk.set (ok : MarksOk A n) (hw : isW w = true) (h0 : 0 ≤ m.1) (h1 : m.2 ≤ n) : MarksOk (setm A w m) n := fun y a e => by
  unfold setm at e
  by_cases c : y = w
  · rw [if_pos c] at e; cases e; subst c; exact ⟨hw, h0, h1⟩
  · rw [if_neg c] at e; exact ok y a e
theorem MarksOk.del (ok : MarksOk A n) : MarksOk (delm A w) n := fun y a e => by
  unfold delm at e
  by_cases c : y = w
  · rw [if_pos c] at e; cases e
  · rw [if_neg c] at e; exact ok y a e
end
/-! ### the wood in the heap -/
theorem ne_mt : ¬ (("marks" : Str) = "tops") := by decide +kernel
theorem ne_mn : ¬ (("marks" : Str) = "now") := by decide +kernel
theorem ne_tn : ¬ (("tops" : Str) = "now") := by decide +kernel
def woodF (m t : Addr) (n : Int) : List (Str × V) := putF "now" (.int n) (putF "tops" (.ref t) (putF "marks" (.ref m) []))
section
variable {m t : Addr} {n y : Int}
theorem wf_marks : (woodF m t n).lookup ("marks" : Str) = some (.ref m) := by
  unfold woodF
  rw [lookup_putF, if_neg ne_mn, lookup_putF, if_neg ne_mt, lookup_putF, if_pos rfl]
theorem wf_tops : (woodF m t n).lookup ("tops" : Str) = some (.ref t) := by
  unfold woodF
  rw [lookup_putF, if_neg ne_tn, lookup_putF, if_pos rfl]
theorem wf_now : (woodF m t n).lookup ("now" : Str) = some (.int n) := by
  unfold woodF
  rw [lookup_putF, if_pos rfl]
theorem wf_no {f : Str} (h1 : ¬ f = ("marks" : Str)) (h2 : ¬ f = ("tops" : Str)) (h3 : ¬ f = ("now" : Str)) : (woodF m t n).lookup f = none := by
  unfold woodF
  rw [lookup_putF, if_neg h3, lookup_putF, if_neg h2, lookup_putF, if_neg h1]; rfl
theorem wf_eq : woodF m t n = ([("marks", V.ref m), ("tops", V.ref t), ("now", V.int n)] : List (Str × V)) := by
  unfold woodF
  show putF "now" (.int n) (if ("marks" : Str) = "tops" then _ else (("marks" : Str), V.ref m) :: putF "tops" (.ref t) []) = _
  rw [if_neg ne_mt]
  show (if ("marks" : Str) = "now" then _ else (("marks" : Str), V.ref m) :: (if ("tops" : Str) = "now" then _ else (("tops" : Str), V.ref t) :: putF "now" (.int n) [])) = _
  rw [if_neg ne_mn, if_neg ne_tn]; rfl
theorem wf_len : (woodF m t n).length < 1000 := by rw [wf_eq]; show 3 < 1000; decide
theorem wf_put : putF "now" (.int y) (woodF m t n) = woodF m t y := by
  rw [wf_eq, wf_eq]
  show (if ("marks" : Str) = "now" then _ else (("marks" : Str), V.ref m) :: (if ("tops" : Str) = "now" then _ else (("tops" : Str), V.ref t) :: (if ("now" : Str) = "now" then [(("now" : Str), V.int y)] else _))) = _
  rw [if_neg ne_mn, if_neg ne_tn, if_pos rfl]
end
/-- a wood, its tops left aside -/
structure WoodP (C : Addr) (H : Hp) (p dm dt : Addr) (A : MarkM) (ks : List Str) (B : MarkM) (n : Int) (N : Nat) : Prop where
  ob : ∃ dx, H p = some (.ins C dx (woodF dm dt n))
  ma : ∃ val, TD H dm val ks ∧ MV H val A
  tp : ∃ val ks', TD H dt val ks' ∧ ks'.length ≤ N ∧ MV H val B
  kl : ks.length ≤ N
  ne : dm ≠ dt
  ok : MarksOk A n
/-- a wood at p: its marks A (keys in the order ks), tops B, era n; at most N keys -/
structure WoodAt (C : Addr) (H : Hp) (p dm dt : Addr) (A : MarkM) (ks : List Str) (B : MarkM) (n : Int) (N : Nat) : Prop extends WoodP C H p dm dt A ks B n N where
  top : ∀ x, TopAt A B n x
/-- all but the wood's own three stays -/
def Off (p dm dt : Addr) (H H' : Hp) : Prop := ∀ a o, a ≠ p → a ≠ dm → a ≠ dt → H a = some o → H' a = some o
section
variable {C p dm dt b : Addr} {H H' H2 : Hp} {A B : MarkM} {ks : List Str} {n : Int} {N M : Nat}
theorem WoodP.keep (h : WoodP C H p dm dt A ks B n N) (hp : H' p = H p) (hm : H' dm = H dm) (ht : H' dt = H dt) (k : ∀ t zs, H t = some (.tup zs) → H' t = some (.tup zs)) : WoodP C H' p dm dt A ks B n N := by
  obtain ⟨⟨dx, h1⟩, ⟨v, h2, h3⟩, ⟨v2, ks', h4, h5, h6⟩, h7, h8, h9⟩ := h
  exact ⟨⟨dx, hp.trans h1⟩, ⟨v, h2.keep hm, h3.mono k⟩, ⟨v2, ks', h4.keep ht, h5, h6.mono k⟩, h7, h8, h9⟩
theorem WoodP.same (h : WoodP C H p dm dt A ks B n N) (s : Same H H') : WoodP C H' p dm dt A ks B n N := by
  obtain ⟨⟨dx, h1⟩, ⟨v, h2, h3⟩, ⟨v2, ks', h4, h5, h6⟩, h7, h8, h9⟩ := h
  exact ⟨⟨dx, s _ _ h1⟩, ⟨v, h2.same s, h3.mono fun _ _ e => s _ _ e⟩, ⟨v2, ks', h4.same s, h5, h6.mono fun _ _ e => s _ _ e⟩, h7, h8, h9⟩
theorem WoodAt.same (h : WoodAt C H p dm dt A ks B n N) (s : Same H H') : WoodAt C H' p dm dt A ks B n N := ⟨h.toWoodP.same s, h.top⟩
theorem WoodAt.keep (h : WoodAt C H p dm dt A ks B n N) (hp : H' p = H p) (hm : H' dm = H dm) (ht : H' dt = H dt) (k : ∀ t zs, H t = some (.tup zs) → H' t = some (.tup zs)) : WoodAt C H' p dm dt A ks B n N := ⟨h.toWoodP.keep hp hm ht k, h.top⟩
theorem WoodP.mono (h : WoodP C H p dm dt A ks B n N) (l : N ≤ M) : WoodP C H p dm dt A ks B n M := by
  obtain ⟨h1, h2, ⟨v2, ks', h4, h5, h6⟩, h7, h8, h9⟩ := h
  exact ⟨h1, h2, ⟨v2, ks', h4, by omega, h6⟩, by omega, h8, h9⟩
theorem WoodAt.mono (h : WoodAt C H p dm dt A ks B n N) (l : N ≤ M) : WoodAt C H p dm dt A ks B n M := ⟨h.toWoodP.mono l, h.top⟩
theorem WoodP.pm (h : WoodP C H p dm dt A ks B n N) : p ≠ dm := by
  obtain ⟨dx, h1⟩ := h.ob
  obtain ⟨v, h2, _⟩ := h.ma
  obtain ⟨kvs, h2⟩ := h2.there
  rintro rfl
  rw [h1] at h2; cases h2
theorem WoodP.pt (h : WoodP C H p dm dt A ks B n N) : p ≠ dt := by
  obtain ⟨dx, h1⟩ := h.ob
  obtain ⟨v, ks', h2, _⟩ := h.tp
  obtain ⟨kvs, h2⟩ := h2.there
  rintro rfl
  rw [h1] at h2; cases h2
/-- a box of draws changes -/
theorem WoodAt.but (h : WoodAt C H p dm dt A ks B n N) (s : But b H H') (hb : BoxAt H b) : WoodAt C H' p dm dt A ks B n N := by
  obtain ⟨⟨⟨dx, h1⟩, ⟨v, h2, h3⟩, ⟨v2, ks', h4, h5, h6⟩, h7, h8, h9⟩, h10⟩ := h
  obtain ⟨_, _, _, _, e⟩ := hb
  obtain ⟨kv1, g1⟩ := h2.there
  obtain ⟨kv2, g2⟩ := h4.there
  have n1 : p ≠ b := by rintro rfl; rw [e] at h1; cases h1
  have n2 : dm ≠ b := by rintro rfl; rw [e] at g1; cases g1
  have n3 : dt ≠ b := by rintro rfl; rw [e] at g2; cases g2
  have k : ∀ t zs, H t = some (.tup zs) → H' t = some (.tup zs) := fun t zs e2 => s _ _ (by rintro rfl; rw [e] at e2; cases e2) e2
  exact ⟨⟨⟨dx, s _ _ n1 h1⟩, ⟨v, h2.keep ((s _ _ n2 g1).trans g1.symm), h3.mono k⟩, ⟨v2, ks', h4.keep ((s _ _ n3 g2).trans g2.symm), h5, h6.mono k⟩, h7, h8, h9⟩, h10⟩
theorem Off.trans (x : Off p dm dt H H') (y : Off p dm dt H' H2) : Off p dm dt H H2 := fun a o h1 h2 h3 e => y a o h1 h2 h3 (x a o h1 h2 h3 e)
theorem Off.of (s : Same H H') : Off p dm dt H H' := fun a o _ _ _ e => s a o e
/-- the era goes on -/
theorem WoodAt.later {t : Int} (h : WoodAt C H p dm dt A ks B n N) (ht : 0 ≤ t) {dx : Addr} (e : H' p = some (.ins C dx (woodF dm dt (n + t)))) (k : ∀ a o, a ≠ p → H a = some o → H' a = some o) : WoodAt C H' p dm dt A ks B (n + t) N := by
  have pm := h.toWoodP.pm
  have pt := h.toWoodP.pt
  obtain ⟨⟨⟨dy, h1⟩, ⟨v, h2, h3⟩, ⟨v2, ks', h4, h5, h6⟩, h7, h8, h9⟩, h10⟩ := h
  obtain ⟨kv1, g1⟩ := h2.there
  obtain ⟨kv2, g2⟩ := h4.there
  have kt : ∀ t zs, H t = some (.tup zs) → H' t = some (.tup zs) := fun t zs e2 => k _ _ (by rintro rfl; rw [h1] at e2; cases e2) e2
  exact ⟨⟨⟨dx, e⟩, ⟨v, h2.keep ((k _ _ pm.symm g1).trans g1.symm), h3.mono kt⟩, ⟨v2, ks', h4.keep ((k _ _ pt.symm g2).trans g2.symm), h5, h6.mono kt⟩, h7, h8, h9.later (by omega)⟩, fun x => (h10 x).later h9 (by omega)⟩
end
/-! ### promises -/
def spWInit (C : Addr) : Sp := fun vs H Q _ => ∃ (p dx : Addr), vs = [.ref p] ∧ H p = some (.ins C dx []) ∧
  ∀ (dm dt : Addr) (H' : Hp), WoodAt C H' p dm dt (fun _ => none) [] (fun _ => none) 0 0 → H dm = none → H dt = none → (∀ b o, b ≠ p → H b = some o → H' b = some o) → Q .non H'
def spEra (C : Addr) : Sp := fun vs H Q _ => ∃ (p dm dt : Addr) (A : MarkM) (ks : List Str) (B : MarkM) (n : Int) (N : Nat), vs = [.ref p] ∧ WoodAt C H p dm dt A ks B n N ∧ Q (.int n) H
def spHas (C : Addr) : Sp := fun vs H Q _ => ∃ (p dm dt : Addr) (A : MarkM) (ks : List Str) (B : MarkM) (n : Int) (N : Nat) (w : Str), vs = [.ref p, .str w] ∧ WoodAt C H p dm dt A ks B n N ∧ Q (.bl (A w).isSome) H
def spFade (C : Addr) : Sp := fun vs H Q _ => ∃ (p dm dt : Addr) (A : MarkM) (ks : List Str) (B : MarkM) (n : Int) (N : Nat) (t : Int), vs = [.ref p, .int t] ∧ WoodAt C H p dm dt A ks B n N ∧ 0 ≤ t ∧
  ∀ H', WoodAt C H' p dm dt A ks B (n + t) N → (∀ a o, a ≠ p → H a = some o → H' a = some o) → Q .non H'
/-- the texts longer by one sign that have a top -/
def longer (B : MarkM) (x : Str) : List Str := (signsL.filter fun c => (B (x ++ sgn c)).isSome).map fun c => x ++ sgn c
def spLonger (C : Addr) : Sp := fun vs H Q _ => ∃ (p dm dt : Addr) (A : MarkM) (ks : List Str) (B : MarkM) (n : Int) (N : Nat) (x : Str), vs = [.ref p, .str x] ∧ WoodP C H p dm dt A ks B n N ∧ x.length ≤ 1000 ∧
  ∀ (q : Addr) (H' : Hp), H' q = some (.lst ((longer B x).map V.str)) → H q = none → Same H H' → Q (.ref q) H'
/-- the tops of all beginnings of w renewed -/
def spRenew (C : Addr) : Sp := fun vs H Q _ => ∃ (p dm dt : Addr) (A : MarkM) (ks : List Str) (B : MarkM) (n : Int) (N : Nat) (w : Str), vs = [.ref p, .str w] ∧ WoodP C H p dm dt A ks B n N ∧ N ≤ 1000000 ∧ isW w = true ∧
  (∀ x, ¬ tl x <+: tl w → TopAt A B n x) ∧ ∀ (B' : MarkM) (H' : Hp), WoodAt C H' p dm dt A ks B' n (N + 26) → Off p dm dt H H' → Q .non H'
theorem signs_text : (Str.ofString " abcdefghijklmnopqrstuvwxyz").cps.toList = signsL := by decide +kernel
theorem signs_size : (Str.ofString " abcdefghijklmnopqrstuvwxyz").cps.size = 27 := by decide +kernel
section
variable {C p dm dt b : Addr} {H H' H2 : Hp} {A B B2 : MarkM} {ks ks2 : List Str} {n : Int} {N M : Nat} {val val2 : Str → Option V} {o : HO} {x : Str}
theorem WoodP.tset (W : WoodP C H p dm dt A ks B n N) (h : TD (upd H dt o) dt val2 ks2) (hv : MV H val2 B2) (hl : ks2.length ≤ M) (l : N ≤ M) : WoodP C (upd H dt o) p dm dt A ks B2 n M := by
  have pt := W.pt
  obtain ⟨⟨dx, h1⟩, ⟨v, h2, h3⟩, ⟨v2, ks', h4, h5, h6⟩, h7, h8, h9⟩ := W
  obtain ⟨kv2, g2⟩ := h4.there
  have k : ∀ t zs, H t = some (.tup zs) → upd H dt o t = some (.tup zs) := fun t zs e => by
    rw [upd_ne (by rintro rfl; rw [g2] at e; cases e)]; exact e
  exact ⟨⟨dx, by rw [upd_ne pt]; exact h1⟩, ⟨v, h2.keep (by rw [upd_ne h8]), h3.mono k⟩, ⟨val2, ks2, h, hl, hv.mono k⟩, by omega, h8, h9⟩
theorem WoodP.mset (W : WoodP C H p dm dt A ks B n N) {A2 : MarkM} (h : TD (upd H dm o) dm val2 ks2) (hv : MV H val2 A2) (hl : ks2.length ≤ M) (l : N ≤ M) (ok : MarksOk A2 n) : WoodP C (upd H dm o) p dm dt A2 ks2 B n M := by
  have pm := W.pm
  obtain ⟨⟨dx, h1⟩, ⟨v, h2, h3⟩, ⟨v2, ks', h4, h5, h6⟩, h7, h8, h9⟩ := W
  obtain ⟨kv2, g2⟩ := h2.there
  have k : ∀ t zs, H t = some (.tup zs) → upd H dm o t = some (.tup zs) := fun t zs e => by
    rw [upd_ne (by rintro rfl; rw [g2] at e; cases e)]; exact e
  exact ⟨⟨dx, by rw [upd_ne pm]; exact h1⟩, ⟨val2, h, hv.mono k⟩, ⟨v2, ks', h4.keep (by rw [upd_ne (Ne.symm h8)]), by omega, h6.mono k⟩, hl, h8, ok⟩
theorem mem_longer {y : Str} : y ∈ longer B x ↔ ∃ c ∈ signsL, (B (x ++ sgn c)).isSome = true ∧ y = x ++ sgn c := by
  unfold longer
  rw [List.mem_map]
  constructor
  · rintro ⟨c, h, rfl⟩
    obtain ⟨h1, h2⟩ := List.mem_filter.mp h
    exact ⟨c, h1, h2, rfl⟩
  · rintro ⟨c, h1, h2, rfl⟩
    exact ⟨c, List.mem_filter.mpr ⟨h1, h2⟩, rfl⟩
theorem longer_len : (longer B x).length ≤ 27 := by
  unfold longer
  rw [List.length_map]
  exact Nat.le_trans (List.length_filter_le _ _) (by decide)
theorem marks_list (hM : MV H val B) : ∀ ys : List Str, (∀ y ∈ ys, (B y).isSome = true) → ∃ bs : List (Addr × Int × Int), ys.map (fun y => (val y).getD .non) = bs.map mref ∧ (∀ b ∈ bs, H b.1 = some (.tup [.int b.2.1, .int b.2.2])) ∧
    (∀ m, m ∈ bs.map (·.2) ↔ ∃ y ∈ ys, B y = some m) ∧ bs.length = ys.length
  | [], _ => ⟨[], rfl, (fun _ h => nomatch h), by simp, rfl⟩
  | y :: ys, h => by
    obtain ⟨bs, h1, h2, h3, h4⟩ := marks_list hM ys fun z hz => h z (by simp [hz])
    obtain ⟨m, hm⟩ := Option.isSome_iff_exists.mp (h y (by simp))
    obtain ⟨t, e1, e2⟩ := hM.some hm
    refine ⟨(t, m) :: bs, ?_, ?_, ?_, by simp [h4]⟩
    · rw [List.map_cons, List.map_cons, h1, e1]; rfl
    · intro b hb
      rcases List.mem_cons.mp hb with rfl | hb
      · exact e2
      · exact h2 b hb
    · intro m'
      rw [List.map_cons, List.mem_cons, h3]
      constructor
      · rintro (rfl | ⟨z, hz, e⟩)
        · exact ⟨y, by simp, hm⟩
        · exact ⟨z, by simp [hz], e⟩
      · rintro ⟨z, hz, e⟩
        rcases List.mem_cons.mp hz with rfl | hz
        · rw [hm] at e; exact .inl (Option.some.inj e).symm
        · exact .inr ⟨z, hz, e⟩
theorem behind_list (hM : MV H val B) : ∃ bs : List (Addr × Int × Int), (longer B x).map (fun y => (val y).getD .non) = bs.map mref ∧ (∀ b ∈ bs, H b.1 = some (.tup [.int b.2.1, .int b.2.2])) ∧
    (∀ m, m ∈ bs.map (·.2) ↔ ∃ c ∈ signsL, B (x ++ sgn c) = some m) ∧ bs.length ≤ 27 := by
  obtain ⟨bs, h1, h2, h3, h4⟩ := marks_list hM (longer B x) fun y hy => by
    obtain ⟨c, _, h, rfl⟩ := mem_longer.mp hy
    exact h
  refine ⟨bs, h1, h2, fun m => ?_, by rw [h4]; exact longer_len⟩
  rw [h3]
  constructor
  · rintro ⟨y, hy, e⟩
    obtain ⟨c, hc, _, rfl⟩ := mem_longer.mp hy
    exact ⟨c, hc, e⟩
  · rintro ⟨c, hc, e⟩
    exact ⟨x ++ sgn c, mem_longer.mpr ⟨c, hc, by rw [e]; rfl, rfl⟩, e⟩
theorem u_iRng3 {σ : L2.St} {ta : TA} {R : It → Hp → Prop} (k : ta σ H fun vs H1 => ∃ (i j c : Int) (n : Nat), vs = [.int i, .int j, .int c] ∧ RgC i j c n ∧ R (Itc i c n) H1) : iRng3 ta σ H R := k
instance iu_iRng3 {σ : L2.St} {ta : TA} {R : It → Hp → Prop} : US (iRng3 ta σ H R) (ta σ H fun vs H1 => ∃ (i j c : Int) (n : Nat), vs = [.int i, .int j, .int c] ∧ RgC i j c n ∧ R (Itc i c n) H1) := ⟨u_iRng3⟩
/-- a beginning's own beginnings, the tops there -/
theorem child_top {w : Str} {i : Nat} {A B : MarkM} {n : Int} (hB : ∀ y, (tl y <+: tl w → (tl w).length < (tl y).length + i) → TopAt A B n y) (hx : tl x = (tl w).take ((tl w).length - i)) (hi : i ≤ (tl w).length) (c : Nat) : TopAt A B n (x ++ sgn c) :=
  hB _ fun _ => by
    rw [tl_snoc, List.length_append, hx, List.length_take]
    simp only [List.length_singleton]
    omega
/-- one more is right -/
theorem next_tops {w : Str} {i : Nat} {A B B2 : MarkM} {n : Int} (hB : ∀ y, (tl y <+: tl w → (tl w).length < (tl y).length + i) → TopAt A B n y) (hx : tl x = (tl w).take ((tl w).length - i)) (hi : i ≤ (tl w).length)
    (hn : TopAt A B2 n x) (he : ∀ y, y ≠ x → B2 y = B y) : ∀ y, (tl y <+: tl w → (tl w).length < (tl y).length + (i + 1)) → TopAt A B2 n y := fun y hy => by
  by_cases c : y = x
  · subst c; exact hn
  · refine (hB y fun p => ?_).other (he y c)
    have h1 := hy p
    have h2 : (tl y).length ≠ (tl w).length - i := fun e => c (tl_inj (by
      rw [hx, ← e]
      exact List.prefix_iff_eq_take.mp p))
    omega
end
/-! ### promises of the deeds -/
abbrev EX (C : Addr) (E : XK) (H : Hp) : Prop := E (.ref C) none H
def spAsk (C X : Addr) : Sp := fun vs H Q E => ∃ (p dm dt : Addr) (A : MarkM) (ks : List Str) (B : MarkM) (n : Int) (N : Nat) (w : Str), vs = [.ref p, .str w] ∧ WoodAt C H p dm dt A ks B n N ∧ (A w = none → EX X E H) ∧ (A w ≠ none → Q .non H)
def AnyT (K : PySem.W.Frag) (H : Hp) (x : V) : Prop := (∃ s : Str, x = .str s ∧ s.length ≤ 1000000 ∧ PyData.strOk s = true) ∨ (∃ t : String, TyX K H x (.type t) ∧ kitB t "str" = some false)
def spPut (K : PySem.W.Frag) (C XN XT : Addr) : Sp := fun vs H Q E => ∃ (p dm dt : Addr) (A : MarkM) (ks : List Str) (B : MarkM) (n : Int) (N : Nat) (x : V) (c : Int), vs = [.ref p, x, .int c] ∧ WoodAt C H p dm dt A ks B n N ∧ N ≤ 900000 ∧ 0 ≤ c ∧ AnyT K H x ∧
  ((∀ w, x = .str w → isW w = false) → ∀ H', Same H H' → EX XN E H') ∧ (∀ w, x = .str w → isW w = true → A w ≠ none → ∀ H', Same H H' → EX XT E H') ∧
  (∀ w, x = .str w → isW w = true → A w = none → ∀ (B' : MarkM) (H' : Hp), WoodAt C H' p dm dt (setm A w (c, n)) (addK ks w) B' n (N + 27) → Off p dm dt H H' → Q .non H')
def spUse (C XA : Addr) : Sp := fun vs H Q E => ∃ (p dm dt : Addr) (A : MarkM) (ks : List Str) (B : MarkM) (n : Int) (N : Nat) (w : Str) (t : Int), vs = [.ref p, .str w, .int t] ∧ WoodAt C H p dm dt A ks B n N ∧ N ≤ 900000 ∧ 0 ≤ t ∧
  (A w = none → EX XA E H) ∧ (∀ m, A w = some m → ∀ (B' : MarkM) (H' : Hp), WoodAt C H' p dm dt (setm A w (wn m n + t, n)) ks B' n (N + 27) → Off p dm dt H H' → Q .non H')
def spStrike (C XA : Addr) : Sp := fun vs H Q E => ∃ (p dm dt : Addr) (A : MarkM) (ks : List Str) (B : MarkM) (n : Int) (N : Nat) (w : Str), vs = [.ref p, .str w] ∧ WoodAt C H p dm dt A ks B n N ∧ N ≤ 900000 ∧
  (A w = none → EX XA E H) ∧ (∀ m, A w = some m → ∀ (B' : MarkM) (H' : Hp), WoodAt C H' p dm dt (delm A w) (remK ks w) B' n (N + 27) → Off p dm dt H H' → Q .non H')
def spWorthOf (C XA : Addr) : Sp := fun vs H Q E => ∃ (p dm dt : Addr) (A : MarkM) (ks : List Str) (B : MarkM) (n : Int) (N : Nat) (w : Str), vs = [.ref p, .str w] ∧ WoodAt C H p dm dt A ks B n N ∧
  (A w = none → EX XA E H) ∧ (∀ m, A w = some m → Q (.int (wn m n)) H)
/-- the words, rising, with what they are worth -/
def wordsOf (A : MarkM) (ks : List Str) (n : Int) : List RW := (ks.mergeSort (PySem.W.dataLe false PyData.str)).map fun w => (w, match A w with | some m => wn m n | none => 0)
def spWords (C : Addr) (K : PySem.W.Frag) : Sp := fun vs H Q _ => ∃ (p dm dt : Addr) (A : MarkM) (ks : List Str) (B : MarkM) (n : Int) (N : Nat), vs = [.ref p] ∧ WoodAt C H p dm dt A ks B n N ∧ N ≤ 90000 ∧
  ∀ (q : Addr) (H' : Hp) (xs : List V), H' q = some (.lst xs) → H q = none → DpAll K H' xs ((wordsOf A ks n).map dP) → Same H H' → Q (.ref q) H'
section
variable {C p dm dt : Addr} {H H' : Hp} {A B : MarkM} {ks : List Str} {n : Int} {N : Nat} {w x : Str} {m : Int × Int}
/-- tops where the word's mark has changed -/
theorem tops_put (h : ∀ y, TopAt A B n y) : ∀ y, ¬ tl y <+: tl w → TopAt (setm A w m) B n y := fun y hy => (h y).marks fun z hz => by
  unfold setm
  rw [if_neg (by rintro rfl; exact hy hz)]
theorem tops_del (h : ∀ y, TopAt A B n y) : ∀ y, ¬ tl y <+: tl w → TopAt (delm A w) B n y := fun y hy => (h y).marks fun z hz => by
  unfold delm
  rw [if_neg (by rintro rfl; exact hy hz)]
theorem WoodP.key (W : WoodP C H p dm dt A ks B n N) : w ∈ ks ↔ (A w).isSome = true := by
  obtain ⟨val, hT, hM⟩ := W.ma
  rw [hT.mem, hM.none_iff]
theorem addK_in (h : w ∈ ks) : addK ks w = ks := by unfold addK; rw [if_pos h]
end
/-! ### the laws' own helpers -/
def fit2L (l : List Nat) : Bool := decide (l.length ≤ 24) && (decide ((spA [] l).length ≤ 4) && (spA [] l).all fun p => decide (1 ≤ p.length) && decide (p.length ≤ 12))
def SG (y : Str) : Prop := ∀ c ∈ tl y, low c = true ∨ c = 32
theorem spA_no : ∀ (l acc : List Nat), 32 ∉ acc → ∀ p ∈ spA acc l, 32 ∉ p
  | [], acc, h, p, hp => by
    have : p = acc := by simpa [spA] using hp
    subst this; exact h
  | c :: r, acc, h, p, hp => by
    by_cases e : c = 32
    · subst e
      rw [show spA acc (32 :: r) = acc :: spA [] r by simp [spA]] at hp
      rcases List.mem_cons.mp hp with rfl | hp
      · exact h
      · exact spA_no r [] (by simp) p hp
    · rw [show spA acc (c :: r) = spA (acc ++ [c]) r by simp [spA, e]] at hp
      exact spA_no r _ (by simp [h, Ne.symm e]) p hp
theorem word_of_fit2 {s : Str} (hf : fit2L (tl s) = true) (hs : SG s) : isW s = true := by
  unfold fit2L at hf
  simp only [Bool.and_eq_true, decide_eq_true_eq, List.all_eq_true] at hf
  unfold isW wordL
  simp only [Bool.and_eq_true, decide_eq_true_eq, List.all_eq_true]
  refine ⟨⟨hf.1, hf.2.1⟩, fun p hp => ?_⟩
  have h1 := hf.2.2 p hp
  have h2 := spA_no (tl s) [] (by simp) p hp
  refine partL_of (fun c hc => ?_) h1.1 h1.2
  have h3 := (mem_join hp).2 c hc
  rw [join_spA] at h3
  rcases hs c (by simpa using h3) with h | h
  · exact h
  · subst h; exact absurd hc h2
theorem SG.word {s : Str} (h : isW s = true) : SG s := wordL_signs h
theorem SG.cut {s : Str} (h : SG s) (lo hi : Option Int) : SG (cutS s lo hi) := fun c hc => h c (mem_cutS hc)
theorem SG.app {s t : Str} (h : SG s) (g : SG t) : SG (s ++ t) := fun c hc => by
  rw [tl_append] at hc
  rcases List.mem_append.mp hc with hc | hc
  · exact h c hc
  · exact g c hc
def spFit2 : Sp := fun vs H Q _ => ∃ s : Str, vs = [.str s] ∧ s.length ≤ 1000 ∧ PyData.strOk s = true ∧ ∀ H', Same H H' → Q (.bl (fit2L (tl s))) H'
def spTimes : Sp := fun vs H Q _ => ∃ b : Addr, vs = [.ref b] ∧ BoxAt H b ∧ ∀ (r : Int) (H' : Hp), 1 ≤ r → r ≤ 1000000 → BoxAt H' b → But b H H' → Q (.int r) H'
/-! ### a wood and what the law keeps of it -/
structure Dad where
  p : Addr
  dm : Addr
  dt : Addr
  u : Addr
  d : Addr
def Dad.own (x : Dad) (a : Addr) : Prop := a = x.p ∨ a = x.dm ∨ a = x.dt ∨ a = x.u ∨ a = x.d
/-- the wood at x.p with the marks A; the law's list at x.u: the era, and the dict at x.d of the worths -/
structure DuoX (C : Addr) (H : Hp) (x : Dad) (n b : Int) (N : Nat) (A : MarkM) (ks ks2 : List Str) (B : MarkM) : Prop where
  w : WoodAt C H x.p x.dm x.dt A ks B n N
  l : H x.u = some (.lst [.int n, .ref x.d])
  t : TD H x.d (fun w => (A w).map fun m => V.int (wn m n)) ks2
  bd : ∀ w m, A w = some m → wn m n ≤ b
  n1 : x.d ≠ x.dm
  n2 : x.d ≠ x.dt
  kl : ks2.length ≤ N
def Duo (C : Addr) (H : Hp) (x : Dad) (n b : Int) (N : Nat) : Prop := ∃ (A : MarkM) (ks ks2 : List Str) (B : MarkM), DuoX C H x n b N A ks ks2 B
def Off5 (x : Dad) (H H' : Hp) : Prop := ∀ a o, ¬ x.own a → H a = some o → H' a = some o
section
variable {C : Addr} {H H' : Hp} {x : Dad} {n b b' : Int} {N M : Nat} {A B : MarkM} {ks ks2 : List Str} {c : Addr}
theorem Off5.refl : Off5 x H H := fun _ _ _ e => e
theorem Off5.trans {H2 : Hp} (f : Off5 x H H') (g : Off5 x H' H2) : Off5 x H H2 := fun a o n e => g a o n (f a o n e)
theorem Off5.of (s : Same H H') : Off5 x H H' := fun a o _ e => s a o e
theorem Off5.off (s : Off x.p x.dm x.dt H H') : Off5 x H H' := fun a o n e => s a o (fun z => n (.inl z)) (fun z => n (.inr (.inl z))) (fun z => n (.inr (.inr (.inl z)))) e
theorem DuoX.same (D : DuoX C H x n b N A ks ks2 B) (s : Same H H') : DuoX C H' x n b N A ks ks2 B := ⟨D.w.same s, s _ _ D.l, D.t.same s, D.bd, D.n1, D.n2, D.kl⟩
theorem DuoX.mono (D : DuoX C H x n b N A ks ks2 B) (h : b ≤ b') (l : N ≤ M) : DuoX C H x n b' M A ks ks2 B := ⟨D.w.mono l, D.l, D.t, fun w m e => by have := D.bd w m e; omega, D.n1, D.n2, by have := D.kl; omega⟩
theorem DuoX.pu (D : DuoX C H x n b N A ks ks2 B) : x.u ≠ x.p ∧ x.u ≠ x.dm ∧ x.u ≠ x.dt ∧ x.u ≠ x.d ∧ x.d ≠ x.p := by
  obtain ⟨dx, hp⟩ := D.w.ob
  obtain ⟨v, h2, _⟩ := D.w.ma
  obtain ⟨k1, h2⟩ := h2.there
  obtain ⟨v2, ks', h4, _⟩ := D.w.tp
  obtain ⟨k2, h4⟩ := h4.there
  obtain ⟨k3, h5⟩ := D.t.there
  have hl := D.l
  refine ⟨fun e => ?_, fun e => ?_, fun e => ?_, fun e => ?_, fun e => ?_⟩
  · rw [e, hp] at hl; cases hl
  · rw [e, h2] at hl; cases hl
  · rw [e, h4] at hl; cases hl
  · rw [e, h5] at hl; cases hl
  · rw [e, hp] at h5; cases h5
theorem DuoX.nb (D : DuoX C H x n b N A ks ks2 B) (hb : BoxAt H c) : ¬ x.own c := by
  obtain ⟨dx, hp⟩ := D.w.ob
  obtain ⟨v, h2, _⟩ := D.w.ma
  obtain ⟨k1, h2⟩ := h2.there
  obtain ⟨v2, ks', h4, _⟩ := D.w.tp
  obtain ⟨k2, h4⟩ := h4.there
  obtain ⟨k3, h5⟩ := D.t.there
  have hl := D.l
  obtain ⟨_, _, _, _, e⟩ := hb
  rintro (z | z | z | z | z)
  · rw [← z, e] at hp; cases hp
  · rw [← z, e] at h2; cases h2
  · rw [← z, e] at h4; cases h4
  · rw [← z, e] at hl; simp at hl
  · rw [← z, e] at h5; cases h5
theorem DuoX.but (D : DuoX C H x n b N A ks ks2 B) (s : But c H H') (hb : BoxAt H c) : DuoX C H' x n b N A ks ks2 B := by
  have hn := D.nb hb
  refine ⟨D.w.but s hb, s _ _ (fun z => hn (.inr (.inr (.inr (.inl z.symm))))) D.l, ?_, D.bd, D.n1, D.n2, D.kl⟩
  obtain ⟨k3, h5⟩ := D.t.there
  exact D.t.keep ((s _ _ (fun z => hn (.inr (.inr (.inr (.inr z.symm))))) h5).trans h5.symm)
/-- the law's dict changes -/
theorem DuoX.wood {o : HO} (D : DuoX C H x n b N A ks ks2 B) : WoodAt C (upd H x.d o) x.p x.dm x.dt A ks B n N := by
  obtain ⟨k3, h5⟩ := D.t.there
  exact D.w.keep (by rw [upd_ne D.pu.2.2.2.2.symm]) (by rw [upd_ne D.n1.symm]) (by rw [upd_ne D.n2.symm]) fun t zs e => by
    rw [upd_ne (by rintro rfl; rw [h5] at e; cases e)]; exact e
theorem TD.keys {d : Addr} {val : Str → Option V} (h : TD H d val ks) : ∃ kvs : List (Key × V), H d = some (.dK kvs) ∧ (kvs.map fun kv => kV kv.1) = ks.map V.str := by
  obtain ⟨kvs, h1, h2, h3, h4⟩ := h.ex
  refine ⟨kvs, h1, ?_⟩
  have := congrArg (List.map kV) h2
  rw [List.map_map, List.map_map] at this
  exact this
end
def halfN (c t : Int) : Int := c / 2 ^ (min t 60).toNat
def spFaded : Sp := fun vs H Q _ => ∃ (d : Addr) (g : Str → Option Int) (ks : List Str) (t : Int), vs = [.ref d, .int t] ∧ TD H d (fun w => (g w).map V.int) ks ∧ ks.length ≤ 100000 ∧ 0 ≤ t ∧
  ∀ H', TD H' d (fun w => (g w).map fun c => V.int (halfN c t)) ks → (∀ a o, a ≠ d → H a = some o → H' a = some o) → Q .non H'
theorem half_more (c : Int) (j : Nat) : c / 2 ^ j / 2 = c / 2 ^ (j + 1) := by
  rw [Int.ediv_ediv_of_nonneg (Int.le_of_lt (pow2_pos j)), Int.pow_succ]
theorem half_later {m : Int × Int} {n t : Int} (h0 : 0 ≤ m.1) (hm : m.2 ≤ n) (ht : 0 ≤ t) (hb : wn m n < 2 ^ 60) : halfN (wn m n) t = wn m (n + t) := by
  have e : wn m (n + t) = wn m n / 2 ^ t.toNat := by
    rw [wn_later hm (show n ≤ n + t by omega)]
    show worth (wn m n) n (n + t) = _
    unfold worth
    rw [show n + t - n = t by omega]
  rw [e]
  unfold halfN
  by_cases c : t ≤ 60
  · rw [show min t 60 = t by omega]
  · have h1 : (2 : Int) ^ 60 ≤ 2 ^ t.toNat := pow2_mono (by omega)
    have w0 : 0 ≤ wn m n := worth_nonneg h0
    rw [show (min t 60).toNat = 60 by omega, Int.ediv_eq_zero_of_lt w0 hb, Int.ediv_eq_zero_of_lt w0 (by omega)]
def spLPut (C : Addr) : Sp := fun vs H Q _ => ∃ (x : Dad) (n b : Int) (N : Nat) (A : MarkM) (ks ks2 : List Str) (B : MarkM) (w : Str) (c : Int), vs = [.ref x.p, .ref x.u, .str w, .int c] ∧ DuoX C H x n b N A ks ks2 B ∧ N ≤ 800000 ∧ isW w = true ∧ A w = none ∧ 0 ≤ c ∧ c ≤ b ∧
  ∀ (ks' ks2' : List Str) (B' : MarkM) (H' : Hp), DuoX C H' x n b (N + 27) (setm A w (c, n)) ks' ks2' B' → Off5 x H H' → Q (.bl true) H'
def spLUse (C : Addr) : Sp := fun vs H Q _ => ∃ (x : Dad) (n b : Int) (N : Nat) (A : MarkM) (ks ks2 : List Str) (B : MarkM) (w : Str) (e : Addr) (m : Int × Int), vs = [.ref e, .ref x.p, .ref x.u, .str w] ∧ BoxAt H e ∧ DuoX C H x n b N A ks ks2 B ∧ N ≤ 800000 ∧ A w = some m ∧
  ∀ H', Duo C H' x n (b + 1000000) (N + 27) → BoxAt H' e → (∀ a o, ¬ x.own a → a ≠ e → H a = some o → H' a = some o) → Q (.bl true) H'
def spLFade (C : Addr) : Sp := fun vs H Q _ => ∃ (x : Dad) (n b : Int) (N : Nat) (e : Addr), vs = [.ref e, .ref x.p, .ref x.u] ∧ BoxAt H e ∧ Duo C H x n b N ∧ N ≤ 90000 ∧ b ≤ 1000000000000 ∧
  ∀ (n' : Int) (H' : Hp), Duo C H' x n' b N → BoxAt H' e → (∀ a o, ¬ x.own a → a ≠ e → H a = some o → H' a = some o) → Q (.bl true) H'
/-- a list of words -/
structure WL (H : Hp) (l : Addr) (ss : List Str) : Prop where
  l : H l = some (.lst (ss.map V.str))
  w : ∀ s ∈ ss, isW s = true
section
variable {C : Addr} {H H' : Hp} {x : Dad} {n b : Int} {N : Nat} {A : MarkM} {ks ks2 : List Str} {B : MarkM} {l e : Addr} {ss : List Str}
theorem WL.nb (h : WL H l ss) (hb : BoxAt H e) : l ≠ e := by
  obtain ⟨_, _, _, _, z⟩ := hb
  rintro rfl
  have := h.l
  rw [z] at this
  cases ss <;> simp at this
theorem WL.no (h : WL H l ss) (D : DuoX C H x n b N A ks ks2 B) : ¬ x.own l := by
  obtain ⟨dx, hp⟩ := D.w.ob
  obtain ⟨v, h2, _⟩ := D.w.ma
  obtain ⟨k1, h2⟩ := h2.there
  obtain ⟨v2, ks', h4, _⟩ := D.w.tp
  obtain ⟨k2, h4⟩ := h4.there
  obtain ⟨k3, h5⟩ := D.t.there
  have hl := D.l
  have e := h.l
  rintro (z | z | z | z | z)
  · rw [← z, e] at hp; cases hp
  · rw [← z, e] at h2; cases h2
  · rw [← z, e] at h4; cases h4
  · rw [← z, e] at hl; cases ss <;> simp at hl
  · rw [← z, e] at h5; cases h5
theorem WL.keep (h : WL H l ss) (k : H' l = H l) : WL H' l ss := ⟨k.trans h.l, h.w⟩
theorem WL.but (h : WL H l ss) (s : But e H H') (hb : BoxAt H e) : WL H' l ss := ⟨s _ _ (h.nb hb) h.l, h.w⟩
/-- a list of words changes -/
theorem DuoX.list (D : DuoX C H x n b N A ks ks2 B) (h : WL H l ss) {o : HO} : DuoX C (L2.upd H l o) x n b N A ks ks2 B := by
  have hn := h.no D
  have he := h.l
  refine ⟨D.w.keep (by rw [upd_ne (fun z => hn (.inl z.symm))]) (by rw [upd_ne (fun z => hn (.inr (.inl z.symm)))]) (by rw [upd_ne (fun z => hn (.inr (.inr (.inl z.symm))))]) (fun t zs z => by
    rw [upd_ne (by rintro rfl; rw [he] at z; cases z)]; exact z), by rw [upd_ne (fun z => hn (.inr (.inr (.inr (.inl z.symm)))))]; exact D.l, D.t.keep (by rw [upd_ne (fun z => hn (.inr (.inr (.inr (.inr z.symm)))))]), D.bd, D.n1, D.n2, D.kl⟩
theorem BoxAt.list (h : BoxAt H e) (g : WL H l ss) {o : HO} : BoxAt (L2.upd H l o) e := by
  have n := g.nb h
  obtain ⟨x0, x1, x2, x3, z⟩ := h
  exact ⟨x0, x1, x2, x3, by rw [upd_ne n.symm]; exact z⟩
end
def spLDeed (C : Addr) : Sp := fun vs H Q _ => ∃ (x : Dad) (n b : Int) (N : Nat) (e l : Addr) (ss : List Str), vs = [.ref e, .ref x.p, .ref x.u, .ref l] ∧ BoxAt H e ∧ Duo C H x n b N ∧ N ≤ 80000 ∧ 1000000000 ≤ b ∧ b ≤ 900000000000 ∧ WL H l ss ∧ ss.length ≤ 5000 ∧
  ∀ (n' : Int) (ss' : List Str) (H' : Hp), Duo C H' x n' (b + 1000000) (N + 100) → WL H' l ss' → ss'.length ≤ ss.length + 1 → BoxAt H' e → (∀ a o, ¬ x.own a → a ≠ e → a ≠ l → H a = some o → H' a = some o) → Q (.bl true) H'
def spLStands (C : Addr) (K : PySem.W.Frag) : Sp := fun vs H Q _ => ∃ (x : Dad) (n b : Int) (N : Nat) (l : Addr) (ss : List Str), vs = [.ref x.p, .ref x.u, .ref l] ∧ Duo C H x n b N ∧ N ≤ 80000 ∧ SqL K H l (ss.map V.str) ∧ (∀ s ∈ ss, isW s = true) ∧ ∀ H', Same H H' → Q (.bl true) H'
theorem sort_same {ks ks2 : List Str} (h1 : ks.Nodup) (h2 : ks2.Nodup) (h : ∀ w, w ∈ ks ↔ w ∈ ks2) : ks.mergeSort (PySem.W.dataLe false PyData.str) = ks2.mergeSort (PySem.W.dataLe false PyData.str) := by
  have hp : ks.Perm ks2 := (List.perm_ext_iff_of_nodup h1 h2).mpr h
  have le : ∀ a b : Str, PySem.W.dataLe false PyData.str a b = !decide (tl b < tl a) := fun a b => by
    show (!PySem.W.dataLt (.str b) (.str a)) = _
    rw [PySem.W.dataLt_str]
  have tr : ∀ a b c : Str, PySem.W.dataLe false PyData.str a b = true → PySem.W.dataLe false PyData.str b c = true → PySem.W.dataLe false PyData.str a c = true := fun a b c h g => by
    rw [le] at *
    simp only [Bool.not_eq_true', decide_eq_false_iff_not] at *
    intro z
    by_cases e : tl a < tl b
    · exact g (List.lt_trans z e)
    · have := tl_tri a b e h
      subst this; exact g z
  have to : ∀ a b : Str, (PySem.W.dataLe false PyData.str a b || PySem.W.dataLe false PyData.str b a) = true := fun a b => by
    rw [le, le, Bool.or_eq_true]
    simp only [Bool.not_eq_true', decide_eq_false_iff_not]
    by_cases e : tl b < tl a
    · exact .inr (List.lt_asymm e)
    · exact .inl e
  refine List.Perm.eq_of_pairwise (le := fun a b => PySem.W.dataLe false PyData.str a b = true) (fun a b _ _ h g => ?_) (List.pairwise_mergeSort tr to ks) (List.pairwise_mergeSort tr to ks2) (((List.mergeSort_perm ks _).trans hp).trans (List.mergeSort_perm ks2 _).symm)
  rw [le] at h g
  simp only [Bool.not_eq_true', decide_eq_false_iff_not] at h g
  exact tl_tri a b g h
/-! ### two woods side by side -/
def Apart (x y : Dad) : Prop := ∀ a, x.own a → ¬ y.own a
section
variable {C : Addr} {H H' : Hp} {x y : Dad} {n b n2 b2 : Int} {N M : Nat} {A A2 : MarkM} {ks ks2 js js2 : List Str} {B B2 : MarkM} {l e q : Addr} {ss : List Str}
theorem Apart.symm (h : Apart x y) : Apart y x := fun a hy hx => h a hx hy
theorem DuoX.apart (D : DuoX C H x n b N A ks ks2 B) (E : DuoX C H y n2 b2 M A2 js js2 B2) (hp : x.p ≠ y.p)
    (h1 : x.dm ≠ y.dm) (h2 : x.dm ≠ y.dt) (h3 : x.dm ≠ y.d) (h4 : x.dt ≠ y.dm) (h5 : x.dt ≠ y.dt) (h6 : x.dt ≠ y.d) (h7 : x.d ≠ y.dm) (h8 : x.d ≠ y.dt) (h9 : x.d ≠ y.d) : Apart x y := by
  obtain ⟨dx, a1⟩ := D.w.ob
  obtain ⟨v, a2, _⟩ := D.w.ma
  obtain ⟨k1, a2⟩ := a2.there
  obtain ⟨v2, ks', a3, _⟩ := D.w.tp
  obtain ⟨k2, a3⟩ := a3.there
  obtain ⟨k3, a4⟩ := D.t.there
  have a5 := D.l
  obtain ⟨dy, c1⟩ := E.w.ob
  obtain ⟨u, c2, _⟩ := E.w.ma
  obtain ⟨j1, c2⟩ := c2.there
  obtain ⟨u2, js', c3, _⟩ := E.w.tp
  obtain ⟨j2, c3⟩ := c3.there
  obtain ⟨j3, c4⟩ := E.t.there
  have c5 := E.l
  have kk : ∀ {a : Addr} {o o' : HO}, H a = some o → H a = some o' → o = o' := fun h g => by rw [h] at g; exact Option.some.inj g
  rintro a (e | e | e | e | e) (f | f | f | f | f)
  · exact hp (e.symm.trans f)
  · rw [← e] at a1; rw [← f] at c2; cases kk a1 c2
  · rw [← e] at a1; rw [← f] at c3; cases kk a1 c3
  · rw [← e] at a1; rw [← f] at c5; cases kk a1 c5
  · rw [← e] at a1; rw [← f] at c4; cases kk a1 c4
  · rw [← e] at a2; rw [← f] at c1; cases kk a2 c1
  · exact h1 (e.symm.trans f)
  · exact h2 (e.symm.trans f)
  · rw [← e] at a2; rw [← f] at c5; cases kk a2 c5
  · exact h3 (e.symm.trans f)
  · rw [← e] at a3; rw [← f] at c1; cases kk a3 c1
  · exact h4 (e.symm.trans f)
  · exact h5 (e.symm.trans f)
  · rw [← e] at a3; rw [← f] at c5; cases kk a3 c5
  · exact h6 (e.symm.trans f)
  · rw [← e] at a5; rw [← f] at c1; cases kk a5 c1
  · rw [← e] at a5; rw [← f] at c2; cases kk a5 c2
  · rw [← e] at a5; rw [← f] at c3; cases kk a5 c3
  · rw [← e] at a5; rw [← f] at c5
    have := kk a5 c5
    injection this with this
    simp at this
    exact h9 this.2
  · rw [← e] at a5; rw [← f] at c4; cases kk a5 c4
  · rw [← e] at a4; rw [← f] at c1; cases kk a4 c1
  · exact h7 (e.symm.trans f)
  · exact h8 (e.symm.trans f)
  · rw [← e] at a4; rw [← f] at c5; cases kk a4 c5
  · exact h9 (e.symm.trans f)
/-- what is not its own may change, but for tuples -/
theorem DuoX.keep (D : DuoX C H x n b N A ks ks2 B) (k : ∀ a o, x.own a → H a = some o → H' a = some o) (kt : ∀ t zs, H t = some (.tup zs) → H' t = some (.tup zs)) : DuoX C H' x n b N A ks ks2 B := by
  obtain ⟨dx, a1⟩ := D.w.ob
  obtain ⟨v, a2, _⟩ := D.w.ma
  obtain ⟨k1, a2⟩ := a2.there
  obtain ⟨v2, ks', a3, _⟩ := D.w.tp
  obtain ⟨k2, a3⟩ := a3.there
  obtain ⟨k3, a4⟩ := D.t.there
  exact ⟨D.w.keep ((k _ _ (.inl rfl) a1).trans a1.symm) ((k _ _ (.inr (.inl rfl)) a2).trans a2.symm) ((k _ _ (.inr (.inr (.inl rfl))) a3).trans a3.symm) kt, k _ _ (.inr (.inr (.inr (.inl rfl)))) D.l, D.t.keep ((k _ _ (.inr (.inr (.inr (.inr rfl)))) a4).trans a4.symm), D.bd, D.n1, D.n2, D.kl⟩
/-- tuples are nobody's own -/
theorem DuoX.notup (D : DuoX C H x n b N A ks ks2 B) {t : Addr} {zs : List V} (h : H t = some (.tup zs)) : ¬ x.own t := by
  obtain ⟨dx, a1⟩ := D.w.ob
  obtain ⟨v, a2, _⟩ := D.w.ma
  obtain ⟨k1, a2⟩ := a2.there
  obtain ⟨v2, ks', a3, _⟩ := D.w.tp
  obtain ⟨k2, a3⟩ := a3.there
  obtain ⟨k3, a4⟩ := D.t.there
  have a5 := D.l
  rintro (z | z | z | z | z)
  · rw [← z, h] at a1; cases a1
  · rw [← z, h] at a2; cases a2
  · rw [← z, h] at a3; cases a3
  · rw [← z, h] at a5; cases a5
  · rw [← z, h] at a4; cases a4
/-- a list of two refs is nobody's own -/
theorem DuoX.noref (D : DuoX C H x n b N A ks ks2 B) {r1 r2 : Addr} (h : H q = some (.lst [.ref r1, .ref r2])) : ¬ x.own q := by
  obtain ⟨dx, a1⟩ := D.w.ob
  obtain ⟨v, a2, _⟩ := D.w.ma
  obtain ⟨k1, a2⟩ := a2.there
  obtain ⟨v2, ks', a3, _⟩ := D.w.tp
  obtain ⟨k2, a3⟩ := a3.there
  obtain ⟨k3, a4⟩ := D.t.there
  have a5 := D.l
  rintro (z | z | z | z | z)
  · rw [← z, h] at a1; cases a1
  · rw [← z, h] at a2; cases a2
  · rw [← z, h] at a3; cases a3
  · rw [← z, h] at a5; simp at a5
  · rw [← z, h] at a4; cases a4
theorem ref_ne_box {r1 r2 : Addr} (h : H q = some (.lst [.ref r1, .ref r2])) (hb : BoxAt H e) : q ≠ e := by
  obtain ⟨_, _, _, _, z⟩ := hb
  rintro rfl
  rw [h] at z; simp at z
theorem ref_ne_list {r1 r2 : Addr} (h : H q = some (.lst [.ref r1, .ref r2])) (hl : WL H l ss) : q ≠ l := by
  rintro rfl
  have := hl.l
  rw [h] at this
  cases ss <;> simp at this
end
/-- all that k06's law holds: two woods, their lists, the words -/
structure Two (C : Addr) (H : Hp) (x y : Dad) (pw pd l : Addr) (b : Int) (N : Nat) (ss : List Str) : Prop where
  d1 : ∃ n, Duo C H x n b N
  d2 : ∃ n, Duo C H y n b N
  pw : H pw = some (.lst [.ref x.p, .ref y.p])
  pd : H pd = some (.lst [.ref x.u, .ref y.u])
  l : WL H l ss
section
variable {C : Addr} {H H' : Hp} {x y : Dad} {b b' n : Int} {N M : Nat} {pw pd l e : Addr} {ss ss' : List Str}
theorem Two.but (T : Two C H x y pw pd l b N ss) (s : But e H H') (he : BoxAt H e) : Two C H' x y pw pd l b N ss := by
  obtain ⟨⟨n1, A1, k1, k2, B1, D1⟩, ⟨n2, A2, j1, j2, B2, D2⟩, h1, h2, h3⟩ := T
  exact ⟨⟨n1, A1, k1, k2, B1, D1.but s he⟩, ⟨n2, A2, j1, j2, B2, D2.but s he⟩, s _ _ (ref_ne_box h1 he) h1, s _ _ (ref_ne_box h2 he) h2, h3.but s he⟩
theorem Two.same (T : Two C H x y pw pd l b N ss) (s : Same H H') : Two C H' x y pw pd l b N ss := by
  obtain ⟨⟨n1, A1, k1, k2, B1, D1⟩, ⟨n2, A2, j1, j2, B2, D2⟩, h1, h2, h3⟩ := T
  exact ⟨⟨n1, A1, k1, k2, B1, D1.same s⟩, ⟨n2, A2, j1, j2, B2, D2.same s⟩, s _ _ h1, s _ _ h2, ⟨s _ _ h3.l, h3.w⟩⟩
/-- a deed on the first one -/
theorem Two.first (T : Two C H x y pw pd l b N ss) (ap : Apart x y) (he : BoxAt H e) (D : Duo C H' x n b' M) (L : WL H' l ss') (hb : b ≤ b') (hN : N ≤ M) (f : ∀ a o, ¬ x.own a → a ≠ e → a ≠ l → H a = some o → H' a = some o) : Two C H' x y pw pd l b' M ss' := by
  obtain ⟨⟨n1, A1, k1, k2, B1, D1⟩, ⟨n2, A2, j1, j2, B2, D2⟩, h1, h2, h3⟩ := T
  refine ⟨⟨n, D⟩, ⟨n2, A2, j1, j2, B2, (D2.keep (fun a o ho z => f a o (fun c => ap a c ho) (fun c => D2.nb he (c ▸ ho)) (fun c => h3.no D2 (c ▸ ho)) z) (fun t zs z => f t _ (D1.notup z) (by
    obtain ⟨_, _, _, _, w⟩ := he
    rintro rfl; rw [w] at z; cases z) (by
    rintro rfl
    have := h3.l
    rw [this] at z; cases z) z)).mono hb hN⟩, f _ _ (D1.noref h1) (ref_ne_box h1 he) (ref_ne_list h1 h3) h1, f _ _ (D1.noref h2) (ref_ne_box h2 he) (ref_ne_list h2 h3) h2, L⟩
theorem Two.second (T : Two C H x y pw pd l b N ss) (ap : Apart x y) (he : BoxAt H e) (D : Duo C H' y n b' M) (L : WL H' l ss') (hb : b ≤ b') (hN : N ≤ M) (f : ∀ a o, ¬ y.own a → a ≠ e → a ≠ l → H a = some o → H' a = some o) : Two C H' x y pw pd l b' M ss' := by
  obtain ⟨⟨n1, A1, k1, k2, B1, D1⟩, ⟨n2, A2, j1, j2, B2, D2⟩, h1, h2, h3⟩ := T
  refine ⟨⟨n1, A1, k1, k2, B1, (D1.keep (fun a o ho z => f a o (ap a ho) (fun c => D1.nb he (c ▸ ho)) (fun c => h3.no D1 (c ▸ ho)) z) (fun t zs z => f t _ (D2.notup z) (by
    obtain ⟨_, _, _, _, w⟩ := he
    rintro rfl; rw [w] at z; cases z) (by
    rintro rfl
    have := h3.l
    rw [this] at z; cases z) z)).mono hb hN⟩, ⟨n, D⟩, f _ _ (D2.noref h1) (ref_ne_box h1 he) (ref_ne_list h1 h3) h1, f _ _ (D2.noref h2) (ref_ne_box h2 he) (ref_ne_list h2 h3) h2, L⟩
end
section
variable {C : Addr} {H : Hp} {x : Dad} {n b : Int} {N : Nat} {A : MarkM} {ks ks2 : List Str} {B : MarkM} {q : Addr} {ms : List Int}
theorem DuoX.noint (D : DuoX C H x n b N A ks ks2 B) (h : H q = some (.lst (ms.map V.int))) : ¬ x.own q := by
  obtain ⟨dx, a1⟩ := D.w.ob
  obtain ⟨v, a2, _⟩ := D.w.ma
  obtain ⟨k1, a2⟩ := a2.there
  obtain ⟨v2, ks', a3, _⟩ := D.w.tp
  obtain ⟨k2, a3⟩ := a3.there
  obtain ⟨k3, a4⟩ := D.t.there
  have a5 := D.l
  rintro (z | z | z | z | z)
  · rw [← z, h] at a1; cases a1
  · rw [← z, h] at a2; cases a2
  · rw [← z, h] at a3; cases a3
  · rw [← z, h] at a5
    match ms, a5 with
    | [], a5 => simp at a5
    | [_], a5 => simp at a5
    | [_, _], a5 => simp at a5
    | _ :: _ :: _ :: _, a5 => simp at a5
  · rw [← z, h] at a4; cases a4
end
end Ah
set_option Elab.async false
set_option linter.all false
set_option maxRecDepth 100000
set_option maxHeartbeats 4000000
/-! woods as things: which words stand, what each is worth now -/
namespace Ah
open PySem PySem.Spec PyProof.Rows L2 TL
theorem isW_ok {w : Str} (h : isW w = true) : w.length ≤ 1000000 ∧ PyData.strOk w = true := ⟨by have := (Tx.word h).len; omega, (Tx.word h).ok⟩
abbrev WM := Str → Option Int
def seti (g : WM) (w : Str) (c : Int) : WM := fun x => if x = w then some c else g x
def deli (g : WM) (w : Str) : WM := fun x => if x = w then none else g x
def hv (g : WM) (t : Int) : WM := fun w => (g w).map fun v => v / 2 ^ t.toNat
def vI (g : WM) : Str → Option V := fun w => (g w).map V.int
theorem vI_set (g : WM) (w : Str) (c : Int) : vI (seti g w c) = setv (vI g) w (.int c) := by
  funext x; unfold vI seti setv; split <;> rfl
theorem vI_del (g : WM) (w : Str) : vI (deli g w) = delv (vI g) w := by
  funext x; unfold vI deli delv; split <;> rfl
theorem vI_some {g : WM} {w : Str} {c : Int} (h : g w = some c) : vI g w = some (.int c) := by unfold vI; rw [h]; rfl
theorem vI_is (g : WM) (w : Str) : (vI g w).isSome = (g w).isSome := by unfold vI; cases g w <;> rfl
def leS : Str → Str → Bool := PySem.W.dataLe false PyData.str
/-- the keys of a set that is finite, rising -/
noncomputable def keysOf (P : Str → Prop) : List Str := open Classical in if h : ∃ ks : List Str, ks.Nodup ∧ ∀ w, w ∈ ks ↔ P w then (Classical.choose h).mergeSort leS else []
theorem keysOf_is {P : Str → Prop} {ks : List Str} (h1 : ks.Nodup) (h2 : ∀ w, w ∈ ks ↔ P w) : ks.mergeSort leS = keysOf P := by
  have h : ∃ ks : List Str, ks.Nodup ∧ ∀ w, w ∈ ks ↔ P w := ⟨ks, h1, h2⟩
  unfold keysOf
  rw [dif_pos h]
  exact sort_same h1 (Classical.choose_spec h).1 fun w => (h2 w).trans ((Classical.choose_spec h).2 w).symm
noncomputable def gKeys (g : WM) : List Str := keysOf fun w => (g w).isSome = true
/-- the rated words, rising by words -/
noncomputable def rOf (g : WM) : List RW := (gKeys g).map fun w => (w, (g w).getD 0)
/-- finite, the words words, worths no less than 0 -/
structure GOk (g : WM) (N : Nat) : Prop where
  fin : ∃ ks : List Str, ks.Nodup ∧ (∀ w, w ∈ ks ↔ (g w).isSome = true) ∧ ks.length ≤ N
  ok : ∀ w v, g w = some v → isW w = true ∧ 0 ≤ v
section
variable {g : WM} {N : Nat} {w : Str} {v : Int}
theorem GOk.keys (h : GOk g N) : (gKeys g).Nodup ∧ (∀ w, w ∈ gKeys g ↔ (g w).isSome = true) ∧ (gKeys g).length ≤ N := by
  obtain ⟨ks, h1, h2, h3⟩ := h.fin
  have e : gKeys g = ks.mergeSort leS := (keysOf_is h1 h2).symm
  have p := List.mergeSort_perm ks leS
  rw [e]
  exact ⟨p.nodup_iff.mpr h1, fun w => p.mem_iff.trans (h2 w), by rw [p.length_eq]; exact h3⟩
theorem GOk.mem (h : GOk g N) {e : RW} : e ∈ rOf g ↔ g e.1 = some e.2 := by
  unfold rOf
  rw [List.mem_map]
  constructor
  · rintro ⟨w, hw, rfl⟩
    have := (h.keys.2.1 w).mp hw
    obtain ⟨v, hv⟩ := Option.isSome_iff_exists.mp this
    rw [hv]; rfl
  · intro he
    exact ⟨e.1, (h.keys.2.1 _).mpr (by rw [he]; rfl), by rw [he]; rfl⟩
theorem GOk.len (h : GOk g N) : (rOf g).length ≤ N := by
  unfold rOf
  rw [List.length_map]; exact h.keys.2.2
theorem rOf_fst : (rOf g).map Prod.fst = gKeys g := by
  unfold rOf
  rw [List.map_map]
  have : (Prod.fst ∘ fun w => (w, (g w).getD 0)) = (id : Str → Str) := rfl
  rw [this, List.map_id]
end
/-- a wood at p: what each word is worth now, the era -/
def wd (C p : Addr) (g : WM) (n : Int) (N : Nat) : Res where
  p G S := ∃ dm dt A ks B, WoodAt C G p dm dt A ks B n N ∧ (∀ w, g w = (A w).map fun m => wn m n) ∧ ∀ x, S x ↔ (x = p ∨ x = dm ∨ x = dt)
  stay := by
    rintro G G' S ⟨dm, dt, A, ks, B, h1, h2, h3⟩ k t
    exact ⟨dm, dt, A, ks, B, h1.keep (k _ ((h3 _).mpr (.inl rfl))) (k _ ((h3 _).mpr (.inr (.inl rfl)))) (k _ ((h3 _).mpr (.inr (.inr rfl)))) t, h2, h3⟩
  here := by
    rintro G S a ⟨dm, dt, A, ks, B, h1, h2, h3⟩ ha
    obtain ⟨dx, o1⟩ := h1.ob
    obtain ⟨v, o2, _⟩ := h1.ma
    obtain ⟨k1, o2⟩ := o2.there
    obtain ⟨v2, ks', o3, _⟩ := h1.tp
    obtain ⟨k2, o3⟩ := o3.there
    rcases (h3 a).mp ha with rfl | rfl | rfl
    · exact ⟨_, o1, by intro zs e; cases e⟩
    · exact ⟨_, o2, by intro zs e; cases e⟩
    · exact ⟨_, o3, by intro zs e; cases e⟩
section
variable {K : PySem.W.Frag} {C XN XT XA p b a : Addr} {H H' : Hp} {Q : VK} {E : XK} {g g' : WM} {n n' t c m : Int} {N N' : Nat} {L M F : List Res} {w x : Str} {v : Int} {σ : L2.St}
/-- what is known of a wood -/
theorem Sep.gok (h : Sep L H) (k : Pick (wd C p g n N) L M) : GOk g N := by
  obtain ⟨S, dm, dt, A, ks, B, W, e, hS⟩ := h.of k
  obtain ⟨val, hT, hM⟩ := W.ma
  refine ⟨⟨ks, hT.nd, fun w => ?_, W.kl⟩, fun w v hv => ?_⟩
  · rw [hT.mem, hM.none_iff, e]
    cases A w <;> rfl
  · rw [e] at hv
    cases hA : A w with
    | none => rw [hA] at hv; cases hv
    | some m =>
      rw [hA] at hv
      have : wn m n = v := Option.some.inj hv
      exact ⟨(W.ok w m hA).1, by rw [← this]; exact worth_nonneg (W.ok w m hA).2.1⟩
theorem ent_wd (h : N ≤ N') : Ent (wd C p g n N) (wd C p g n N') := fun G S ⟨dm, dt, A, ks, B, h1, h2, h3⟩ => ⟨S, ⟨dm, dt, A, ks, B, h1.mono h, h2, h3⟩, fun _ z => z⟩
/-- a deed on a wood -/
theorem Sep.deed {dm dt : Addr} {A A' : MarkM} {ks ks' : List Str} {B B' : MarkM} (h : Sep L H) (k : Chg (wd C p g n N) (wd C p g' n' N') L M) (W' : WoodAt C H' p dm dt A' ks' B' n' N') (e : ∀ w, g' w = (A' w).map fun m => wn m n')
    (S : Addr → Prop) (hS : ∀ x, S x ↔ (x = p ∨ x = dm ∨ x = dt)) (f : ∀ a o, a ≠ p → a ≠ dm → a ≠ dt → H a = some o → H' a = some o)
    (u : ∀ S', (wd C p g n N).p H S' → ∀ x, S x ↔ S' x) : Sep M H' :=
  h.chg k fun S' hS' => ⟨⟨S, ⟨dm, dt, A', ks', B', W', e, hS⟩, fun a z => .inl ((u S' hS' a).mp z)⟩, fun a o nz he => f a o (fun z => nz ((u S' hS' a).mp ((hS a).mpr (.inl z)))) (fun z => nz ((u S' hS' a).mp ((hS a).mpr (.inr (.inl z))))) (fun z => nz ((u S' hS' a).mp ((hS a).mpr (.inr (.inr z))))) he⟩
theorem wood_ob {dm dt dm' dt' : Addr} {A A' : MarkM} {ks ks' : List Str} {B B' : MarkM} {n n' : Int} {N N' : Nat} (W : WoodAt C H p dm dt A ks B n N) (W' : WoodAt C H p dm' dt' A' ks' B' n' N') : dm' = dm ∧ dt' = dt := by
  obtain ⟨dx, o⟩ := W.ob
  obtain ⟨dx', o'⟩ := W'.ob
  rw [o] at o'
  have e := Option.some.inj o'
  injection e with _ _ e
  rw [wf_eq, wf_eq] at e
  have e1 : V.ref dm = V.ref dm' := by injection e with e1 e2; injection e1
  have e2 : V.ref dt = V.ref dt' := by injection e with _ e2; injection e2 with e3 _; injection e3
  exact ⟨(V.ref.inj e1).symm, (V.ref.inj e2).symm⟩
theorem Sep.wood (h : Sep L H) (k : Pick (wd C p g n N) L M) : ∃ dm dt A ks B, WoodAt C H p dm dt A ks B n N ∧ (∀ w, g w = (A w).map fun m => wn m n) ∧
    ∀ {g' : WM} {n' : Int} {N' : Nat} {M' : List Res} {A' : MarkM} {ks' : List Str} {B' : MarkM} {H' : Hp}, Chg (wd C p g n N) (wd C p g' n' N') L M' → WoodAt C H' p dm dt A' ks' B' n' N' → (∀ w, g' w = (A' w).map fun m => wn m n') → Off p dm dt H H' → Sep M' H' := by
  obtain ⟨S, dm, dt, A, ks, B, W, e, hS⟩ := h.of k
  refine ⟨dm, dt, A, ks, B, W, e, fun kc W' e' f => h.deed (A := A) (ks := ks) (B := B) kc W' e' (fun x => x = p ∨ x = dm ∨ x = dt) (fun _ => Iff.rfl) f fun S' ⟨dm', dt', A2, ks2, B2, W2, _, hS2⟩ x => ?_⟩
  obtain ⟨rfl, rfl⟩ := wood_ob W W2
  exact (hS2 x).symm
/-! ### boxes -/
theorem c_take (h : Sep L H) (k : Pick (box b) L M) (hm : 0 < m ∧ m < 18446744073709551616) (q : ∀ (r : Int) (H' : Hp), 0 ≤ r ∧ r < m → Sep L H' → Q (.int r) H') : spTake [.ref b, .int m] H Q E :=
  ⟨b, m, rfl, h.box k, hm.1, hm.2, fun r H' r0 r1 b' s => q r H' ⟨r0, r1⟩ (h.but k s b')⟩
theorem c_box (h : Sep L H) (q : ∀ (b : Addr) (H' : Hp), Sep (box b :: L) H' → Q (.ref b) H') : spBox [.int c] H Q E := ⟨c, rfl, fun p H' hp s hb => q p H' (h.newBox s hb hp)⟩
theorem c_cell {ns : List Int} {i : Int} (h : Sep L H) (k : Pick (scr K a (ns.map V.int)) L M) (hi : 0 ≤ i) (q : ∀ r : Int, Q (.int r) H) : spCell K [.ref a, .int i] H Q E := ⟨a, ns, i, rfl, h.scr k, hi, q⟩
theorem c_count (h : Sep L H) (k : Pick (box b) L M) (q : ∀ (r : Int) (H' : Hp), 0 ≤ r ∧ r ≤ 1000000000 → Sep L H' → Q (.int r) H') : spCount [.ref b] H Q E :=
  ⟨b, rfl, h.box k, fun r H' r0 r1 b' s => q r H' ⟨r0, r1⟩ (h.but k s b')⟩
theorem c_times (h : Sep L H) (k : Pick (box b) L M) (q : ∀ (r : Int) (H' : Hp), 1 ≤ r ∧ r ≤ 1000000 → Sep L H' → Q (.int r) H') : spTimes [.ref b] H Q E :=
  ⟨b, rfl, h.box k, fun r H' r0 r1 b' s => q r H' ⟨r0, r1⟩ (h.but k s b')⟩
theorem c_word (h : Sep L H) (k : Pick (box b) L M) (q : ∀ (s : Str) (H' : Hp), isW s = true → Sep L H' → Q (.str s) H') : spWord [.ref b] H Q E :=
  ⟨b, rfl, h.box k, fun r H' hw b' s => q r H' hw (h.but k s b')⟩
theorem box_ne {ss : List Str} (h : Sep L H) (k : Pick (box b) L M) (k2 : Pick (lis a (ss.map V.str)) L F) : a ≠ b := by
  obtain ⟨x0, x1, x2, x3, e⟩ := h.box k
  have e2 := h.lis k2
  rintro rfl
  rw [e] at e2
  cases ss <;> simp at e2
theorem c_next {ss : List Str} (h : Sep L H) (k : Pick (box b) L M) (k2 : Pick (lis a (ss.map V.str)) L F) (hl : ss.length ≤ 10000) (hw : ∀ s ∈ ss, isW s = true) (q : ∀ (s : Str) (H' : Hp), isW s = true → Sep L H' → Q (.str s) H') : spNext K [.ref b, .ref a] H Q E :=
  ⟨b, a, ss, rfl, h.box k, SqL.of (h.lis k2), box_ne h k k2, hl, hw, fun r H' hr b' s => q r H' hr (h.but k s b')⟩
/-! ### a wood's deeds -/
theorem c_winit (h : Sep L H) (k : Chg (obj p C []) (wd C p (fun _ => none) 0 0) L M) (q : ∀ H', Sep M H' → Q .non H') : spWInit C [.ref p] H Q E := by
  obtain ⟨F, k1, k2⟩ := k.picks
  obtain ⟨dx, o⟩ := h.obj k1
  refine ⟨p, dx, rfl, o, fun dm dt H' W hm ht f => q H' (h.chg k fun S hS => ⟨⟨fun x => x = p ∨ x = dm ∨ x = dt, ⟨dm, dt, _, _, _, W, fun _ => rfl, fun _ => Iff.rfl⟩, fun a z => ?_⟩, fun a o nz e => f a o (fun z => nz ((hS.1 a).mpr z)) e⟩)⟩
  rcases z with rfl | rfl | rfl
  · exact .inl ((hS.1 _).mpr rfl)
  · exact .inr hm
  · exact .inr ht
theorem c_era (h : Sep L H) (k : Pick (wd C p g n N) L M) (q : Q (.int n) H) : spEra C [.ref p] H Q E := by
  obtain ⟨dm, dt, A, ks, B, W, e, f⟩ := h.wood k
  exact ⟨p, dm, dt, A, ks, B, n, N, rfl, W, q⟩
theorem c_has (h : Sep L H) (k : Pick (wd C p g n N) L M) (q : Q (.bl (g w).isSome) H) : spHas C [.ref p, .str w] H Q E := by
  obtain ⟨dm, dt, A, ks, B, W, e, f⟩ := h.wood k
  refine ⟨p, dm, dt, A, ks, B, n, N, w, rfl, W, ?_⟩
  have : (A w).isSome = (g w).isSome := by rw [e]; cases A w <;> rfl
  rw [this]; exact q
theorem c_fade (h : Sep L H) (k : Chg (wd C p g n N) (wd C p (hv g t) (n + t) N) L M) (ht : 0 ≤ t) (q : ∀ H', Sep M H' → Q .non H') : spFade C [.ref p, .int t] H Q E := by
  obtain ⟨F, k1, k2⟩ := k.picks
  obtain ⟨dm, dt, A, ks, B, W, e, f⟩ := h.wood k1
  refine ⟨p, dm, dt, A, ks, B, n, N, t, rfl, W, ht, fun H' W' f' => q H' (f k W' (fun w => ?_) fun a o z _ _ e => f' a o z e)⟩
  unfold hv
  rw [e]
  cases hA : A w with
  | none => rfl
  | some m =>
    show some (wn m n / 2 ^ t.toNat) = some (wn m (n + t))
    rw [wn_later (W.ok w m hA).2.2 (show n ≤ n + t by omega)]
    show _ = some (worth (wn m n) n (n + t))
    unfold worth
    rw [show n + t - n = t by omega]
theorem wv_set {A : MarkM} (e : ∀ w, g w = (A w).map fun m => wn m n) (c : Int) : ∀ x, seti g w c x = (setm A w (c, n) x).map fun m => wn m n := fun x => by
  unfold seti setm
  by_cases z : x = w
  · rw [if_pos z, if_pos z]
    show some c = some (wn (c, n) n)
    rw [show wn (c, n) n = c from worth_at_begin (Int.le_refl _)]
  · rw [if_neg z, if_neg z]; exact e x
/-- a word put in that does not stand -/
theorem c_put (h : Sep L H) (k : Chg (wd C p g n N) (wd C p (seti g w c) n (N + 27)) L M) (hw : isW w = true) (hg : g w = none) (hb : N ≤ 900000 ∧ 0 ≤ c) (q : ∀ H', Sep M H' → Q .non H') : spPut K C XN XT [.ref p, .str w, .int c] H Q E := by
  obtain ⟨F, k1, k2⟩ := k.picks
  obtain ⟨dm, dt, A, ks, B, W, e, f⟩ := h.wood k1
  have hA : A w = none := by
    have := e w
    rw [hg] at this
    cases hA : A w with
    | none => rfl
    | some m => rw [hA] at this; cases this
  refine ⟨p, dm, dt, A, ks, B, n, N, .str w, c, rfl, W, hb.1, hb.2, .inl ⟨w, rfl, isW_ok hw⟩, fun z => ?_, fun z ez _ hz => ?_, fun z ez _ _ B' H' W' o => ?_⟩
  · exact absurd (z w rfl) (by rw [hw]; simp)
  · cases ez; exact absurd hA hz
  · cases ez
    exact q H' (f k W' (wv_set e c) o)
/-- a word used that stands -/
theorem c_use (h : Sep L H) (k : Chg (wd C p g n N) (wd C p (seti g w (v + t)) n (N + 27)) L M) (hg : g w = some v) (hb : N ≤ 900000 ∧ 0 ≤ t) (q : ∀ H', Sep M H' → Q .non H') : spUse C XA [.ref p, .str w, .int t] H Q E := by
  obtain ⟨F, k1, k2⟩ := k.picks
  obtain ⟨dm, dt, A, ks, B, W, e, f⟩ := h.wood k1
  cases hA : A w with
  | none =>
    have := e w
    rw [hg, hA] at this; cases this
  | some m =>
    have ev : wn m n = v := by
      have := e w
      rw [hg, hA] at this
      exact (Option.some.inj this).symm
    refine ⟨p, dm, dt, A, ks, B, n, N, w, t, rfl, W, hb.1, hb.2, fun z => absurd (hA.symm.trans z) (by simp), fun m' hm B' H' W' o => ?_⟩
    have : m' = m := Option.some.inj (hm.symm.trans hA)
    subst this
    rw [ev] at W'
    exact q H' (f k W' (wv_set e (v + t)) o)
theorem c_strike (h : Sep L H) (k : Chg (wd C p g n N) (wd C p (deli g w) n (N + 27)) L M) (hg : g w = some v) (hb : N ≤ 900000) (q : ∀ H', Sep M H' → Q .non H') : spStrike C XA [.ref p, .str w] H Q E := by
  obtain ⟨F, k1, k2⟩ := k.picks
  obtain ⟨dm, dt, A, ks, B, W, e, f⟩ := h.wood k1
  cases hA : A w with
  | none =>
    have := e w
    rw [hg, hA] at this; cases this
  | some m =>
    refine ⟨p, dm, dt, A, ks, B, n, N, w, rfl, W, hb, fun z => absurd (hA.symm.trans z) (by simp), fun m' hm B' H' W' o => q H' (f k W' (fun x => ?_) o)⟩
    unfold deli delm
    by_cases z : x = w
    · rw [if_pos z, if_pos z]; rfl
    · rw [if_neg z, if_neg z]; exact e x
theorem c_worth (h : Sep L H) (k : Pick (wd C p g n N) L M) (hg : g w = some v) (q : Q (.int v) H) : spWorthOf C XA [.ref p, .str w] H Q E := by
  obtain ⟨dm, dt, A, ks, B, W, e, f⟩ := h.wood k
  refine ⟨p, dm, dt, A, ks, B, n, N, w, rfl, W, fun z => ?_, fun m hm => ?_⟩
  · have := e w
    rw [hg, z] at this; cases this
  · have := e w
    rw [hg, hm] at this
    have e2 : v = wn m n := Option.some.inj this
    rw [← e2]; exact q
/-- methods are asked of a wood -/
theorem n_methW {m : Str} {sp : Sp} {E : XK} {t : TA} (h : Sep L H) (k : Pick (wd C p g n N) L M) (h1 : ¬ m = ("marks" : Str)) (h2 : ¬ m = ("tops" : Str)) (h3 : ¬ m = ("now" : Str)) (q : t σ H fun vs H2 => sp (.ref p :: vs) H2 Q E) : rMeth C m sp [] E t σ Q (.ref p) H := by
  obtain ⟨dm, dt, A, ks, B, W, e, f⟩ := h.wood k
  obtain ⟨dx, o⟩ := W.ob
  exact s_meth o (wf_no h1 h2 h3) q
theorem n_methWD {m : Str} {sp : Sp} {E : XK} {t : TA} {d : V} {dvs : List V} (h : Sep L H) (k : Pick (wd C p g n N) L M) (h1 : ¬ m = ("marks" : Str)) (h2 : ¬ m = ("tops" : Str)) (h3 : ¬ m = ("now" : Str)) (q : t σ H fun vs H2 => sp (.ref p :: (vs ++ d :: dvs)) H2 Q E) : rMeth C m sp (d :: dvs) E t σ Q (.ref p) H := by
  obtain ⟨dm, dt, A, ks, B, W, e, f⟩ := h.wood k
  obtain ⟨dx, o⟩ := W.ob
  exact s_methD o (wf_no h1 h2 h3) q
/-! ### a wood seen from within -/
/-- a wood whose dicts and marks are told -/
def wdR (C p dm dt : Addr) (A : MarkM) (ks : List Str) (B : MarkM) (n : Int) (N : Nat) : Res where
  p G S := WoodAt C G p dm dt A ks B n N ∧ ∀ x, S x ↔ (x = p ∨ x = dm ∨ x = dt)
  stay := by
    rintro G G' S ⟨h1, h3⟩ k t
    exact ⟨h1.keep (k _ ((h3 _).mpr (.inl rfl))) (k _ ((h3 _).mpr (.inr (.inl rfl)))) (k _ ((h3 _).mpr (.inr (.inr rfl)))) t, h3⟩
  here := by
    rintro G S a ⟨h1, h3⟩ ha
    exact (wd C p (fun w => (A w).map fun m => wn m n) n N).here ⟨dm, dt, A, ks, B, h1, fun _ => rfl, h3⟩ ha
def gOf (A : MarkM) (n : Int) : WM := fun w => (A w).map fun m => wn m n
variable {dm dt : Addr} {A B : MarkM} {ks : List Str}
theorem Sep.openW (h : Sep L H) (k : Pick (wd C p g n N) L F) : ∃ dm dt A ks B, g = gOf A n ∧ Sep (wdR C p dm dt A ks B n N :: F) H := by
  obtain ⟨S, ⟨dm, dt, A, ks, B, W, e, hS⟩, g1, g2⟩ := (h.pick k).s
  exact ⟨dm, dt, A, ks, B, funext e, ⟨S, ⟨W, hS⟩, g1, g2⟩⟩
theorem ent_wdR : Ent (wdR C p dm dt A ks B n N) (wd C p (gOf A n) n N) := fun G S ⟨W, hS⟩ => ⟨S, ⟨dm, dt, A, ks, B, W, fun _ => rfl, hS⟩, fun _ z => z⟩
theorem Sep.wdr (h : Sep L H) (k : Pick (wdR C p dm dt A ks B n N) L F) : WoodAt C H p dm dt A ks B n N := by
  obtain ⟨S, W, _⟩ := h.of k
  exact W
theorem n_wmarks (h : Sep L H) (k : Pick (wdR C p dm dt A ks B n N) L F) (c : Cls K C) (z : NoAttr K C "marks") (q : Q (.ref dm) H) : rFld K "marks" (.ref p) H Q := by
  obtain ⟨dx, o⟩ := (h.wdr k).ob
  exact s_fld o c z wf_marks q
theorem n_wtops (h : Sep L H) (k : Pick (wdR C p dm dt A ks B n N) L F) (c : Cls K C) (z : NoAttr K C "tops") (q : Q (.ref dt) H) : rFld K "tops" (.ref p) H Q := by
  obtain ⟨dx, o⟩ := (h.wdr k).ob
  exact s_fld o c z wf_tops q
theorem n_wnow (h : Sep L H) (k : Pick (wdR C p dm dt A ks B n N) L F) (c : Cls K C) (z : NoAttr K C "now") (q : Q (.int n) H) : rFld K "now" (.ref p) H Q := by
  obtain ⟨dx, o⟩ := (h.wdr k).ob
  exact s_fld o c z wf_now q
theorem n_wmeth {m : Str} {sp : Sp} {E : XK} {t : TA} (h : Sep L H) (k : Pick (wdR C p dm dt A ks B n N) L M) (h1 : ¬ m = ("marks" : Str)) (h2 : ¬ m = ("tops" : Str)) (h3 : ¬ m = ("now" : Str)) (q : t σ H fun vs H2 => sp (.ref p :: vs) H2 Q E) : rMeth C m sp [] E t σ Q (.ref p) H := by
  obtain ⟨dx, o⟩ := (h.wdr k).ob
  exact s_meth o (wf_no h1 h2 h3) q
/-- a word among the marks -/
theorem n_minW (h : Sep L H) (k : Pick (wdR C p dm dt A ks B n N) L F) (q : Q (.bl (A w).isSome) H) : rDIn (.str w) (.ref dm) H Q := by
  obtain ⟨val, hT, hM⟩ := (h.wdr k).ma
  refine s_din hT ?_
  rw [hM.none_iff]; exact q
theorem n_tinW (h : Sep L H) (k : Pick (wdR C p dm dt A ks B n N) L F) (q : Q (.bl (B w).isSome) H) : rDIn (.str w) (.ref dt) H Q := by
  obtain ⟨val, ks', hT, _, hM⟩ := (h.wdr k).tp
  refine s_din hT ?_
  rw [hM.none_iff]; exact q
theorem n_tnotinW (h : Sep L H) (k : Pick (wdR C p dm dt A ks B n N) L F) (q : Q (.bl (!(B w).isSome)) H) : rDNotIn (.str w) (.ref dt) H Q := by
  obtain ⟨val, ks', hT, _, hM⟩ := (h.wdr k).tp
  refine s_dnotin hT ?_
  rw [hM.none_iff]; exact q
theorem n_mgetW {m : Int × Int} (h : Sep L H) (k : Pick (wdR C p dm dt A ks B n N) L F) (e : A w = some m) (q : ∀ t, H t = some (.tup [.int m.1, .int m.2]) → 0 ≤ m.1 → Sep (dat (.ref t) (.tuple [.int m.1, .int m.2]) :: L) H → Q (.ref t) H) : rDGet (.ref dm) (.str w) H Q := by
  obtain ⟨val, hT, hM⟩ := (h.wdr k).ma
  obtain ⟨t, e1, e2⟩ := hM.some e
  exact s_dget hT e1 (q t e2 ((h.wdr k).ok _ _ e).2.1 (h.addDat (.tup e2 (.cons (.int _) (.cons (.int _) .nil)))))
theorem n_tgetW {m : Int × Int} (h : Sep L H) (k : Pick (wdR C p dm dt A ks B n N) L F) (e : B w = some m) (q : ∀ t, H t = some (.tup [.int m.1, .int m.2]) → 0 ≤ m.1 → Sep (dat (.ref t) (.tuple [.int m.1, .int m.2]) :: L) H → Q (.ref t) H) : rDGet (.ref dt) (.str w) H Q := by
  obtain ⟨val, ks', hT, _, hM⟩ := (h.wdr k).tp
  obtain ⟨t, e1, e2⟩ := hM.some e
  have h0 : 0 ≤ m.1 := by
    rcases (h.wdr k).top w with ⟨z, _⟩ | ⟨m', z, h1, _⟩
    · rw [z] at e; cases e
    · rw [z] at e; cases e; exact h1
  exact s_dget hT e1 (q t e2 h0 (h.addDat (.tup e2 (.cons (.int _) (.cons (.int _) .nil)))))
theorem n_msortW (h : Sep L H) (k : Pick (wdR C p dm dt A ks B n N) L F) (q : ∀ l H', Sep (lis l ((gKeys (gOf A n)).map V.str) :: L) H' → Q (.ref l) H') : rSortDict [.ref dm] H Q := by
  have W := h.wdr k
  obtain ⟨val, hT, hM⟩ := W.ma
  refine s_sortD hT fun l hl => q l _ ?_
  have e : ks.mergeSort leS = gKeys (gOf A n) := keysOf_is hT.nd fun w => by
    rw [hT.mem, hM.none_iff]
    unfold gOf
    cases A w <;> rfl
  have := h.newL (xs := (gKeys (gOf A n)).map V.str) hl
  rw [← e] at this ⊢
  exact this
theorem gok_of (W : WoodAt C H p dm dt A ks B n N) : GOk (gOf A n) N := by
  obtain ⟨val, hT, hM⟩ := W.ma
  refine ⟨⟨ks, hT.nd, fun w => ?_, W.kl⟩, fun w v hv => ?_⟩
  · rw [hT.mem, hM.none_iff]
    unfold gOf
    cases A w <;> rfl
  · unfold gOf at hv
    cases hA : A w with
    | none => rw [hA] at hv; cases hv
    | some m =>
      rw [hA] at hv
      have : wn m n = v := Option.some.inj hv
      exact ⟨(W.ok w m hA).1, by rw [← this]; exact worth_nonneg (W.ok w m hA).2.1⟩
theorem c_worthat {t : Addr} {c e n : Int} (ht : H t = some (.tup [.int c, .int e])) (hc : 0 ≤ c) (q : Q (.int (worth c e n)) H) : spWorth K [.ref t, .int n] H Q E := ⟨t, c, e, n, rfl, SqT.of ht, hc, q⟩
/-! ### promises by things -/
def spWordsS (C : Addr) (K : PySem.W.Frag) : Sp := fun vs H Q _ => ∃ (p : Addr) (g : WM) (n : Int) (N : Nat) (F : List Res), vs = [.ref p] ∧ Sep (wd C p g n N :: F) H ∧ N ≤ 90000 ∧
  ∀ (q : Addr) (H' : Hp) (xs : List V), Sep (lisD q xs ((rOf g).map dP) :: wd C p g n N :: F) H' → Q (.ref q) H'
theorem c_words (h : Sep L H) (k : Pick (wd C p g n N) L F) (hN : N ≤ 90000) (q : ∀ (l : Addr) (xs : List V) (H' : Hp), Sep (lisD l xs ((rOf g).map dP) :: L) H' → Q (.ref l) H') : spWordsS C K [.ref p] H Q E :=
  ⟨p, g, n, N, F, rfl, h.pick k, hN, fun l H' xs h' => q l xs H' ((h'.pick (.there .here)).put (.there k))⟩
end
end Ah
set_option Elab.async false
set_option linter.all false
set_option maxRecDepth 100000
set_option maxHeartbeats 4000000
/-! going through a wood, best first: what is found, which branches wait -/
namespace Ah
open PySem PySem.Spec PyProof.Rows L2 TL
abbrev Br := Str × Bool × Int
def dB (i : Br) : PyData := .tuple [.str i.1, .bool i.2.1, .int i.2.2]
def encB (i : Br) : PyData := .tuple [.int (0 - i.2.2), .str i.1, .bool i.2.1]
def preB (b w : Str) : Bool := decide ((tl w).take (tl b).length = tl b)
theorem pre_iff {b w : Str} : tl b <+: tl w ↔ preB b w = true := by
  unfold preB
  rw [decide_eq_true_eq, List.prefix_iff_eq_take]
  exact eq_comm
/-- the rated words that begin so -/
noncomputable def fits (g : WM) (b : Str) : List RW := (rOf g).filter fun e => preB b e.1
noncomputable def toldOf (g : WM) (b : Str) (many : Int) : List RW := bestOf (fits g b) many
/-- the greatest worth behind a beginning -/
def IsTop (g : WM) (b : Str) (v : Int) : Prop := (∃ w, g w = some v ∧ tl b <+: tl w) ∧ ∀ w u, g w = some u → tl b <+: tl w → u ≤ v
def NoTop (g : WM) (b : Str) : Prop := ∀ w, g w ≠ none → ¬ tl b <+: tl w
theorem top_cases {A B : MarkM} {n : Int} {b : Str} (h : TopAt A B n b) : (B b = none ∧ NoTop (gOf A n) b) ∨ ∃ m, B b = some m ∧ 0 ≤ m.1 ∧ IsTop (gOf A n) b (wn m n) := by
  rcases h with ⟨h1, h2⟩ | ⟨m, h1, h2, h3, ⟨w, a, h4, h5, h6⟩, h7⟩
  · refine .inl ⟨h1, fun w hw => h2 w fun e => hw ?_⟩
    unfold gOf; rw [e]; rfl
  · refine .inr ⟨m, h1, h2, ⟨w, by unfold gOf; rw [h4, ← h6]; rfl, h5⟩, fun w u hw p => ?_⟩
    unfold gOf at hw
    cases e : A w with
    | none => rw [e] at hw; cases hw
    | some a =>
      rw [e] at hw
      have : wn a n = u := Option.some.inj hw
      rw [← this]; exact h7 w a e p
def cov (i : Br) (w : Str) : Prop := if i.2.1 = true then tl i.1 <+: tl w else i.1 = w
theorem cov_t {x w : Str} {v : Int} : cov (x, true, v) w ↔ tl x <+: tl w := by unfold cov; simp
theorem cov_f {x w : Str} {v : Int} : cov (x, false, v) w ↔ x = w := by unfold cov; simp
structure GoodB (g : WM) (b : Str) (i : Br) : Prop where
  pre : tl b <+: tl i.1
  yes : i.2.1 = true → IsTop g i.1 i.2.2
  no : i.2.1 = false → g i.1 = some i.2.2
structure GInv (g : WM) (b : Str) (found : List RW) (wait : List Br) : Prop where
  good : ∀ i ∈ wait, GoodB g b i
  fnd : ∀ e ∈ found, g e.1 = some e.2 ∧ tl b <+: tl e.1
  cover : ∀ w v, g w = some v → tl b <+: tl w → (w, v) ∈ found ∨ ∃ i ∈ wait, cov i w
  dj : wait.Pairwise fun i j => ∀ w, g w ≠ none → ¬ (cov i w ∧ cov j w)
  dj2 : ∀ e ∈ found, ∀ i ∈ wait, ¬ cov i e.1
  srt : found.Pairwise fun a c => ahead a c = true
  ah : ∀ e ∈ found, ∀ i ∈ wait, ahead e (i.1, i.2.2) = true
section
variable {g : WM} {b : Str} {found : List RW} {wait rest : List Br} {i : Br} {N : Nat}
theorem GInv.perm (h : GInv g b found wait) (p : wait.Perm rest) : GInv g b found rest := by
  refine ⟨fun i hi => h.good i (p.mem_iff.mpr hi), h.fnd, fun w v e q => ?_, ?_, fun e he i hi => h.dj2 e he i (p.mem_iff.mpr hi), h.srt, fun e he i hi => h.ah e he i (p.mem_iff.mpr hi)⟩
  · rcases h.cover w v e q with z | ⟨i, hi, c⟩
    · exact .inl z
    · exact .inr ⟨i, p.mem_iff.mp hi, c⟩
  · exact (p.pairwise_iff (fun {x y} hxy w hw c => hxy w hw ⟨c.2, c.1⟩)).mp h.dj
theorem GoodB.ex (h : GoodB g b i) : ∃ w, g w = some i.2.2 ∧ cov i w ∧ tl b <+: tl w := by
  obtain ⟨x, wh, v⟩ := i
  cases wh with
  | true =>
    obtain ⟨⟨w, e, p⟩, _⟩ := h.yes rfl
    exact ⟨w, e, cov_t.mpr p, h.pre.trans p⟩
  | false => exact ⟨x, h.no rfl, cov_f.mpr rfl, h.pre⟩
/-- what a branch covers comes no earlier than the branch -/
theorem GoodB.bound (h : GoodB g b i) {w : Str} {u : Int} (e : g w = some u) (c : cov i w) : u ≤ i.2.2 ∧ tl i.1 <+: tl w := by
  obtain ⟨x, wh, v⟩ := i
  cases wh with
  | true => exact ⟨(h.yes rfl).2 w u e (cov_t.mp c), cov_t.mp c⟩
  | false =>
    have := cov_f.mp c
    subst this
    have := h.no rfl
    rw [e] at this
    exact ⟨Int.le_of_eq (Option.some.inj this), List.prefix_refl _⟩
theorem prefix_le {x y : List Nat} (h : x <+: y) : ¬ y < x := by
  obtain ⟨r, rfl⟩ := h
  induction x with
  | nil => simp
  | cons a x ih =>
    intro z
    rw [List.cons_append, List.cons_lt_cons_iff] at z
    rcases z with z | ⟨_, z⟩
    · exact Nat.lt_irrefl _ z
    · exact ih z
theorem ahead_down {e : RW} {x w : Str} {v u : Int} (h : ahead e (x, v) = true) (l : u ≤ v) (p : tl x <+: tl w) : ahead e (w, u) = true := by
  rw [ahead_iff] at h ⊢
  have p2 := prefix_le p
  rcases h with h | ⟨h1, h2⟩
  · left; show u < e.2; have : v < e.2 := h; omega
  · have h1 : e.2 = v := h1
    by_cases c : u < v
    · left; show u < e.2; omega
    · right
      refine ⟨show e.2 = u by omega, ?_⟩
      show tl e.1 < tl w
      by_cases q : tl x < tl w
      · exact List.lt_trans h2 q
      · have := tl_tri x w q p2
        subst this; exact h2
theorem GInv.ahead (h : GInv g b found wait) {e : RW} (he : e ∈ found) {w : Str} {u : Int} (hi : i ∈ wait) (hw : g w = some u) (c : cov i w) : Ah.ahead e (w, u) = true := by
  obtain ⟨h1, h2⟩ := (h.good i hi).bound hw c
  exact ahead_down (h.ah e he i hi) h1 h2
/-- the number of waiting branches -/
theorem disj_len : ∀ (wait : List Br) (ks : List Str), (wait.Pairwise fun i j => ∀ w ∈ ks, ¬ (cov i w ∧ cov j w)) → (∀ i ∈ wait, ∃ w ∈ ks, cov i w) → wait.length ≤ ks.length
  | [], _, _, _ => Nat.zero_le _
  | i :: r, ks, h1, h2 => by
    classical
    obtain ⟨w, hw, c⟩ := h2 i (by simp)
    rw [List.pairwise_cons] at h1
    have ih := disj_len r (ks.filter fun w => decide (¬ cov i w)) (h1.2.imp fun h w hw => h w (List.mem_filter.mp hw).1) fun j hj => by
      obtain ⟨w', hw', c'⟩ := h2 j (by simp [hj])
      exact ⟨w', List.mem_filter.mpr ⟨hw', decide_eq_true fun z => h1.1 j hj w' hw' ⟨z, c'⟩⟩, c'⟩
    have lt : (ks.filter fun w => decide (¬ cov i w)).length < ks.length := by
      have := List.length_filter_le (fun w => decide (¬ cov i w)) ks
      by_cases e : (ks.filter fun w => decide (¬ cov i w)).length = ks.length
      · have := List.length_filter_eq_length_iff.mp e w hw
        simp only [decide_eq_true_eq] at this
        exact absurd c this
      · omega
    simp only [List.length_cons]; omega
theorem GInv.len (h : GInv g b found wait) (ok : GOk g N) : wait.length ≤ N := by
  refine Nat.le_trans (disj_len wait (gKeys g) (h.dj.imp fun {i j} hij w hw => hij w (by
    have := (ok.keys.2.1 w).mp hw
    intro z; rw [z] at this; cases this)) fun i hi => ?_) ok.keys.2.2
  obtain ⟨w, e, c, _⟩ := (h.good i hi).ex
  exact ⟨w, (ok.keys.2.1 w).mpr (by rw [e]; rfl), c⟩
theorem mem_fits (ok : GOk g N) {e : RW} : e ∈ fits g b ↔ g e.1 = some e.2 ∧ tl b <+: tl e.1 := by
  unfold fits
  rw [List.mem_filter, ok.mem, pre_iff]
theorem fits_nd (ok : GOk g N) : (fits g b).Nodup := by
  unfold fits
  refine List.Pairwise.filter _ (nodup_of_map ?_)
  rw [rOf_fst]; exact ok.keys.1
theorem srt_nd : ∀ {l : List RW}, l.Pairwise (fun a c => ahead a c = true) → l.Nodup
  | [], _ => .nil
  | a :: l, h => by
    rw [List.pairwise_cons] at h
    exact List.nodup_cons.mpr ⟨fun m => ahead_asymm (h.1 a m) (h.1 a m), srt_nd h.2⟩
/-- what is found is the first of all -/
theorem GInv.first (h : GInv g b found wait) (ok : GOk g N) : found = ((fits g b).mergeSort leR).take found.length ∧ found.length ≤ (fits g b).length := by
  have hn := srt_nd h.srt
  have hsub : ∀ e ∈ found, e ∈ fits g b := fun e he => (mem_fits ok).mpr (h.fnd e he)
  have hp : (found ++ (fits g b).filter fun e => decide (e ∉ found)).Perm (fits g b) := by
    refine (List.perm_ext_iff_of_nodup (List.nodup_append.mpr ⟨hn, (fits_nd ok).filter _, fun x hx y hy e => ?_⟩) (fits_nd ok)).mpr fun e => ?_
    · subst e
      have := (List.mem_filter.mp hy).2
      simp only [decide_eq_true_eq] at this
      exact this hx
    · rw [List.mem_append, List.mem_filter, decide_eq_true_eq]
      constructor
      · rintro (z | z)
        · exact hsub e z
        · exact z.1
      · intro z
        by_cases c : e ∈ found
        · exact .inl c
        · exact .inr ⟨z, c⟩
  have hs : (found ++ ((fits g b).filter fun e => decide (e ∉ found)).mergeSort leR).Pairwise fun a c => leR a c = true := by
    refine List.pairwise_append.mpr ⟨h.srt.imp leR_of_ahead, List.pairwise_mergeSort leR_trans leR_total _, fun a ha c hc => leR_of_ahead ?_⟩
    obtain ⟨h1, h2⟩ := List.mem_filter.mp (mem_best.mp hc)
    simp only [decide_eq_true_eq] at h2
    obtain ⟨g1, g2⟩ := (mem_fits ok).mp h1
    rcases h.cover c.1 c.2 g1 g2 with z | ⟨i, hi, cv⟩
    · exact absurd z h2
    · exact h.ahead ha hi g1 cv
  have hq : (found ++ ((fits g b).filter fun e => decide (e ∉ found)).mergeSort leR).Perm (fits g b) := ((List.Perm.append_left found (List.mergeSort_perm _ leR))).trans hp
  have e := sorted_is hq hs
  refine ⟨by rw [← e, List.take_left], ?_⟩
  have := hp.length_eq
  rw [List.length_append] at this; omega
/-- at the end -/
theorem GInv.told (h : GInv g b found wait) (ok : GOk g N) {many : Int} (hl : (found.length : Int) ≤ many) (he : wait = [] ∨ ¬ (found.length : Int) < many) : found = toldOf g b many ∧ (((fits g b).length : Int) ≤ many → wait = []) := by
  obtain ⟨h1, h2⟩ := h.first ok
  have full : wait = [] → found.length = (fits g b).length := fun z => by
    have hsub : ∀ e ∈ fits g b, e ∈ found := fun e he => by
      obtain ⟨g1, g2⟩ := (mem_fits ok).mp he
      rcases h.cover e.1 e.2 g1 g2 with y | ⟨i, hi, _⟩
      · exact y
      · rw [z] at hi; cases hi
    have hp : found.Perm (fits g b) := (List.perm_ext_iff_of_nodup (srt_nd h.srt) (fits_nd ok)).mpr fun e => ⟨fun he => (mem_fits ok).mpr (h.fnd e he), hsub e⟩
    exact hp.length_eq
  refine ⟨?_, fun hle => ?_⟩
  · unfold toldOf bestOf
    rcases he with z | z
    · have hL : ((fits g b).mergeSort leR).length = (fits g b).length := List.length_mergeSort _
      have hf := full z
      rw [List.take_of_length_le (by omega : ((fits g b).mergeSort leR).length ≤ many.toNat)]
      exact h1.trans (List.take_of_length_le (by omega))
    · have : found.length = many.toNat := by omega
      rw [← this]; exact h1
  · rcases he with z | z
    · exact z
    · have el : found.length = (fits g b).length := by omega
      have hp : found.Perm (fits g b) := by
        have := List.take_of_length_le (l := (fits g b).mergeSort leR) (i := found.length) (by rw [List.length_mergeSort]; omega)
        rw [h1, this]; exact List.mergeSort_perm _ _
      cases wait with
      | nil => rfl
      | cons i r =>
        obtain ⟨w, e, c, p⟩ := (h.good i (by simp)).ex
        have : (w, i.2.2) ∈ found := hp.mem_iff.mpr ((mem_fits ok).mpr ⟨e, p⟩)
        exact absurd c (h.dj2 _ this i (by simp))
/-! ### the steps -/
theorem GInv.start (h : IsTop g b i.2.2) (e : i = (b, true, i.2.2)) : GInv g b [] [i] := by
  obtain ⟨x, wh, v⟩ := i
  cases e
  refine ⟨fun i hi => ?_, (fun _ h => nomatch h), fun w u hw p => .inr ⟨_, List.mem_singleton.mpr rfl, cov_t.mpr p⟩, List.pairwise_singleton _ _, (fun _ h => nomatch h), .nil, (fun _ h => nomatch h)⟩
  have := List.mem_singleton.mp hi
  subst this
  exact ⟨List.prefix_refl _, fun _ => h, fun z => by cases z⟩
theorem GInv.start0 (h : NoTop g b) : GInv g b [] [] :=
  ⟨(fun _ h => nomatch h), (fun _ h => nomatch h), fun w u hw p => absurd p (h w (by rw [hw]; simp)), .nil, (fun _ h => nomatch h), .nil, (fun _ h => nomatch h)⟩
/-- the order of the branches -/
def ltB (i j : Br) : Prop := j.2.2 < i.2.2 ∨ (i.2.2 = j.2.2 ∧ (tl i.1 < tl j.1 ∨ (i.1 = j.1 ∧ i.2.1 = false ∧ j.2.1 = true)))
/-- a word is found -/
theorem GInv.word {x : Str} {v : Int} (h : GInv g b found ((x, false, v) :: rest)) (hm : ∀ j ∈ rest, ¬ ltB j (x, false, v)) : GInv g b (found ++ [(x, v)]) rest := by
  have hx : g x = some v := (h.good _ (List.mem_cons_self)).no rfl
  have dj := List.pairwise_cons.mp h.dj
  refine ⟨fun i hi => h.good i (by simp [hi]), fun e he => ?_, fun w u hw p => ?_, dj.2, fun e he i hi => ?_, ?_, fun e he i hi => ?_⟩
  · rcases List.mem_append.mp he with he | he
    · exact h.fnd e he
    · have := List.mem_singleton.mp he
      subst this
      exact ⟨hx, (h.good _ (List.mem_cons_self)).pre⟩
  · rcases h.cover w u hw p with z | ⟨i, hi, c⟩
    · exact .inl (List.mem_append.mpr (.inl z))
    · rcases List.mem_cons.mp hi with rfl | hi
      · have := cov_f.mp c
        subst this
        rw [hx] at hw
        have := Option.some.inj hw
        subst this
        exact .inl (by simp)
      · exact .inr ⟨i, hi, c⟩
  · rcases List.mem_append.mp he with he | he
    · exact h.dj2 e he i (by simp [hi])
    · have := List.mem_singleton.mp he
      subst this
      exact fun c => dj.1 i hi x (by rw [hx]; simp) ⟨cov_f.mpr rfl, c⟩
  · refine List.pairwise_append.mpr ⟨h.srt, List.pairwise_singleton _ _, fun e he y hy => ?_⟩
    have := List.mem_singleton.mp hy
    subst this
    exact h.ah e he _ (List.mem_cons_self)
  · rcases List.mem_append.mp he with he | he
    · exact h.ah e he i (by simp [hi])
    · have := List.mem_singleton.mp he
      subst this
      rw [ahead_iff]
      obtain ⟨y, wh, u⟩ := i
      have n := hm _ hi
      unfold ltB at n
      simp only [not_or, not_and] at n
      show u < v ∨ (v = u ∧ tl x < tl y)
      by_cases c : u < v
      · exact .inl c
      · have e : v = u := by have := n.1; omega
        refine .inr ⟨e, ?_⟩
        have n2 := n.2 e.symm
        by_cases c2 : tl x < tl y
        · exact c2
        · have e2 : y = x := tl_tri y x n2.1 c2
          subst e2
          refine absurd (⟨cov_f.mpr rfl, ?_⟩ : cov (y, false, v) y ∧ cov (y, wh, u) y) (dj.1 _ hi y (by rw [hx]; simp))
          cases wh with
          | true => exact cov_t.mpr (List.prefix_refl _)
          | false => exact cov_f.mpr rfl
/-- the branches behind a whole one -/
structure Behind (g : WM) (x : Str) (new : List Br) : Prop where
  item : ∀ i ∈ new, (i.2.1 = false ∧ i.1 = x ∧ g x = some i.2.2) ∨ ∃ c ∈ signsL, i.1 = x ++ sgn c ∧ i.2.1 = true ∧ IsTop g (x ++ sgn c) i.2.2
  self : ∀ v, g x = some v → (x, false, v) ∈ new
  kids : ∀ c ∈ signsL, ∀ w, g w ≠ none → tl (x ++ sgn c) <+: tl w → ∃ i ∈ new, i.2.1 = true ∧ i.1 = x ++ sgn c
  dj : new.Pairwise fun i j => ¬ (i.1 = j.1)
theorem pre_snoc {x w : Str} {c : Nat} (h : tl (x ++ sgn c) <+: tl w) : tl x <+: tl w := by
  rw [tl_snoc] at h
  exact List.IsPrefix.trans ⟨[c], rfl⟩ h
theorem GInv.whole {x : Str} {v : Int} {new : List Br} (ok : GOk g N) (h : GInv g b found ((x, true, v) :: rest)) (hn : Behind g x new) : GInv g b found (rest ++ new) := by
  have hx := h.good _ (List.mem_cons_self)
  have top := hx.yes rfl
  have dj := List.pairwise_cons.mp h.dj
  have up : ∀ i ∈ new, i.2.2 ≤ v ∧ tl x <+: tl i.1 ∧ ∀ w, cov i w → tl x <+: tl w := fun i hi => by
    rcases hn.item i hi with ⟨h1, h2, h3⟩ | ⟨c, hc, h1, h2, h3⟩
    · refine ⟨top.2 x _ h3 (List.prefix_refl _), by rw [h2]; exact List.prefix_refl _, fun w cv => ?_⟩
      unfold cov at cv
      rw [h1] at cv
      simp only [Bool.false_eq_true, if_false] at cv
      rw [← cv, h2]; exact List.prefix_refl _
    · obtain ⟨⟨w, e, p⟩, _⟩ := h3
      refine ⟨top.2 w _ e (pre_snoc p), by rw [h1, tl_snoc]; exact ⟨[c], rfl⟩, fun w cv => ?_⟩
      unfold cov at cv
      rw [if_pos h2, h1] at cv
      exact pre_snoc cv
  refine ⟨fun i hi => ?_, h.fnd, fun w u hw p => ?_, ?_, fun e he i hi => ?_, h.srt, fun e he i hi => ?_⟩
  · rcases List.mem_append.mp hi with hi | hi
    · exact h.good i (by simp [hi])
    · refine ⟨hx.pre.trans (up i hi).2.1, fun z => ?_, fun z => ?_⟩
      · rcases hn.item i hi with ⟨h1, h2, h3⟩ | ⟨c, hc, h1, h2, h3⟩
        · rw [z] at h1; cases h1
        · rw [h1]; exact h3
      · rcases hn.item i hi with ⟨h1, h2, h3⟩ | ⟨c, hc, h1, h2, h3⟩
        · rw [h2]; exact h3
        · rw [z] at h2; cases h2
  · rcases h.cover w u hw p with z | ⟨i, hi, c⟩
    · exact .inl z
    · refine .inr ?_
      rcases List.mem_cons.mp hi with rfl | hi
      · rcases behind_one (cov_t.mp c) (ok.ok w u hw).1 with rfl | ⟨c, hc, pc⟩
        · exact ⟨_, List.mem_append.mpr (.inr (hn.self u hw)), cov_f.mpr rfl⟩
        · obtain ⟨i, hi, e1, e2⟩ := hn.kids c hc w (by rw [hw]; simp) pc
          refine ⟨i, List.mem_append.mpr (.inr hi), ?_⟩
          unfold cov
          rw [if_pos e1, e2]; exact pc
      · exact ⟨i, List.mem_append.mpr (.inl hi), c⟩
  · refine List.pairwise_append.mpr ⟨dj.2, hn.dj.imp_of_mem fun {i j} hi hj ne w hw cc => ?_, fun i hi j hj w hw cc => dj.1 i hi w hw ⟨cov_t.mpr ((up j hj).2.2 w cc.2), cc.1⟩⟩
    -- two behind x that both cover w
    have key : ∀ i ∈ new, cov i w → (i.1 = w ∧ i.1 = x) ∨ ∃ c, i.1 = x ++ sgn c ∧ tl (x ++ sgn c) <+: tl w := fun i hi ci => by
      rcases hn.item i hi with ⟨h1, h2, h3⟩ | ⟨c, hc, h1, h2, h3⟩
      · unfold cov at ci
        rw [h1] at ci
        simp only [Bool.false_eq_true, if_false] at ci
        exact .inl ⟨ci, h2⟩
      · unfold cov at ci
        rw [if_pos h2, h1] at ci
        exact .inr ⟨c, h1, ci⟩
    have long : ∀ {c : Nat}, tl (x ++ sgn c) <+: tl w → w = x → False := fun {c} p e => by
      have := p.length_le
      rw [tl_snoc, e, List.length_append] at this
      simp only [List.length_singleton] at this
      omega
    rcases key i hi cc.1 with ⟨a1, a2⟩ | ⟨c, a1, a2⟩
    · rcases key j hj cc.2 with ⟨b1, b2⟩ | ⟨d, b1, b2⟩
      · exact ne (a1.trans b1.symm)
      · exact long b2 (a1.symm.trans a2)
    · rcases key j hj cc.2 with ⟨b1, b2⟩ | ⟨d, b1, b2⟩
      · exact long a2 (b1.symm.trans b2)
      · refine ne ?_
        rw [a1, b1]
        rw [tl_snoc] at a2 b2
        have e := List.prefix_of_prefix_length_le a2 b2 (by simp)
        have e2 := e.eq_of_length (by simp)
        exact tl_inj (by rw [tl_snoc, tl_snoc]; exact e2)
  · rcases List.mem_append.mp hi with hi | hi
    · exact h.dj2 e he i (by simp [hi])
    · exact fun c => h.dj2 e he _ (List.mem_cons_self) (cov_t.mpr ((up i hi).2.2 _ c))
  · rcases List.mem_append.mp hi with hi | hi
    · exact h.ah e he i (by simp [hi])
    · exact ahead_down (h.ah e he _ (List.mem_cons_self)) (up i hi).1 (up i hi).2.1
end
/-! ### a measure -/
def mB (i : Br) : Nat := if i.2.1 = true then 2 * 28 ^ (25 - (tl i.1).length) else 1
def mBs (l : List Br) : Nat := (l.map mB).sum
theorem mBs_perm {l m : List Br} (p : l.Perm m) : mBs l = mBs m := (p.map mB).sum_nat
theorem mBs_append (l m : List Br) : mBs (l ++ m) = mBs l + mBs m := by unfold mBs; rw [List.map_append, List.sum_append]
theorem mBs_cons (i : Br) (m : List Br) : mBs (i :: m) = mB i + mBs m := by unfold mBs; rw [List.map_cons, List.sum_cons]
theorem mB_pos (i : Br) : 1 ≤ mB i := by
  unfold mB
  split
  · have : 1 ≤ 28 ^ (25 - (tl i.1).length) := Nat.one_le_pow _ _ (by decide)
    omega
  · exact Nat.le_refl _
theorem mBs_le {l : List Br} {k : Nat} (h : ∀ i ∈ l, mB i ≤ k) : mBs l ≤ l.length * k := by
  induction l with
  | nil => simp [mBs]
  | cons i l ih =>
    rw [mBs_cons, List.length_cons, Nat.succ_mul]
    have := ih fun j hj => h j (by simp [hj])
    have := h i (by simp)
    omega
/-! ### the branches as data -/
theorem b2i_lt (x y : Bool) : decide (b2i x < b2i y) = (!x && y) := by cases x <;> cases y <;> decide
theorem dataLt_B (i j : Br) : PySem.W.dataLt (encB i) (encB j) = true ↔ ltB i j := by
  obtain ⟨x, wx, u⟩ := i
  obtain ⟨y, wy, v⟩ := j
  unfold encB ltB
  show PySem.W.dataLt (.tuple [.int (0 - u), .str x, .bool wx]) (.tuple [.int (0 - v), .str y, .bool wy]) = true ↔ v < u ∨ (u = v ∧ (tl x < tl y ∨ (x = y ∧ wx = false ∧ wy = true)))
  rw [PySem.W.dataLt_tuple]
  by_cases h : u = v
  · subst h
    rw [PySem.W.dataLt_all_yes (by simp [PySem.W.alike]) (by simp [PyData.eqv])]
    by_cases h2 : x = y
    · subst h2
      have e1 : ¬ (tl x < tl x) := List.lt_irrefl _
      rw [PySem.W.dataLt_all_yes (by simp [PySem.W.alike]) (by simp [PyData.eqv])]
      by_cases h3 : wx = wy
      · subst h3
        rw [PySem.W.dataLt_all_yes (by simp [PySem.W.alike]) (by cases wx <;> simp [PyData.eqv])]
        cases wx <;> simp [e1, PySem.W.keyToksAll] <;> rfl
      · rw [PySem.W.dataLt_all_no (by simp [PySem.W.alike]) (by cases wx <;> cases wy <;> simp_all [PyData.eqv]), PySem.W.dataLt_bool, b2i_lt]
        cases wx <;> cases wy <;> simp_all
    · rw [PySem.W.dataLt_all_no (by simp [PySem.W.alike]) (by simp [PyData.eqv, h2]), PySem.W.dataLt_str]
      have e1 : ¬ (u < u) := Int.lt_irrefl _
      simp [h2]
  · rw [PySem.W.dataLt_all_no (by simp [PySem.W.alike]) (by simp [PyData.eqv, h]), PySem.W.dataLt_int, decide_eq_true_eq]
    constructor
    · intro z; left; omega
    · rintro (z | z)
      · omega
      · exact absurd z.1 h
theorem ltB_trans {i j k : Br} (h : ltB i j) (g : ltB j k) : ltB i k := by
  unfold ltB at *
  rcases h with h | ⟨h, h2⟩
  · rcases g with g | ⟨g, g2⟩
    · left; omega
    · left; omega
  · rcases g with g | ⟨g, g2⟩
    · left; omega
    · right
      refine ⟨by omega, ?_⟩
      rcases h2 with h2 | ⟨h2, h3, h4⟩
      · rcases g2 with g2 | ⟨g2, g3, g4⟩
        · left; exact List.lt_trans h2 g2
        · left; rw [← g2]; exact h2
      · rcases g2 with g2 | ⟨g2, g3, g4⟩
        · left; rw [h2]; exact g2
        · rw [h4] at g3; cases g3
theorem minB : ∀ (l : List Br) (i : Br), ∃ m, PySem.W.minD (encB i) (l.map encB) = encB m ∧ m ∈ i :: l ∧ ∀ j ∈ i :: l, ¬ ltB j m := by
  have irr : ∀ i : Br, ¬ ltB i i := fun i h => by
    unfold ltB at h
    rcases h with h | ⟨_, h | ⟨_, h1, h2⟩⟩
    · omega
    · exact List.lt_irrefl _ h
    · rw [h1] at h2; cases h2
  have key : ∀ (l : List Br) (i : Br), ∃ m, PySem.W.minD (encB i) (l.map encB) = encB m ∧ m ∈ i :: l ∧ ¬ ltB i m ∧ ∀ j ∈ l, ¬ ltB j m := by
    intro l
    induction l with
    | nil => exact fun i => ⟨i, rfl, by simp, irr i, fun _ h => nomatch h⟩
    | cons k l ih =>
      intro i
      unfold PySem.W.minD at ih ⊢
      rw [List.map_cons, List.foldl_cons]
      by_cases c : PySem.W.dataLt (encB k) (encB i) = true
      · rw [if_pos c]
        obtain ⟨m, h1, h2, h3, h4⟩ := ih k
        refine ⟨m, h1, List.mem_cons_of_mem _ h2, fun z => ?_, fun j hj => ?_⟩
        · exact h3 (ltB_trans ((dataLt_B _ _).mp c) z)
        · rcases List.mem_cons.mp hj with rfl | hj
          · exact h3
          · exact h4 j hj
      · rw [if_neg c]
        obtain ⟨m, h1, h2, h3, h4⟩ := ih i
        refine ⟨m, h1, ?_, h3, fun j hj => ?_⟩
        · rcases List.mem_cons.mp h2 with z | z
          · simp [z]
          · simp [z]
        · rcases List.mem_cons.mp hj with rfl | hj
          · intro z
            -- j < m, while not (j < i), and m is i or lies among l with not (i < m)
            have : ¬ ltB j i := fun y => c ((dataLt_B _ _).mpr y)
            by_cases e : ltB m i
            · exact this (ltB_trans z e)
            · -- neither m < i nor i < m: they are the same
              have em : m = i := by
                obtain ⟨x, wx, u⟩ := m
                obtain ⟨y, wy, v⟩ := i
                unfold ltB at e h3
                simp only [not_or, not_and] at e h3
                have uv : u = v := by have := e.1; have := h3.1; omega
                have e2 := e.2 uv
                have h2 := h3.2 uv.symm
                have xy : x = y := tl_tri x y e2.1 h2.1
                have e3 := e2.2 xy
                have h3 := h2.2 xy.symm
                have ww : wx = wy := by cases wx <;> cases wy <;> simp_all
                subst uv; subst xy; subst ww; rfl
              rw [em] at z; exact this z
          · exact h4 j hj
  intro l i
  obtain ⟨m, h1, h2, h3, h4⟩ := key l i
  refine ⟨m, h1, h2, fun j hj => ?_⟩
  rcases List.mem_cons.mp hj with rfl | hj
  · exact h3
  · exact h4 j hj
theorem encB_inj {i j : Br} (h : encB i = encB j) : i = j := by
  obtain ⟨x, wx, u⟩ := i
  obtain ⟨y, wy, v⟩ := j
  unfold encB at h
  simp only [PyData.tuple.injEq, List.cons.injEq, PyData.int.injEq, PyData.str.injEq, PyData.bool.injEq, and_true] at h
  obtain ⟨h1, h2, h3⟩ := h
  have : u = v := by omega
  subst this; subst h2; subst h3; rfl
theorem eqv_B {i j : Br} : PyData.eqv (encB i) (encB j) = true ↔ i = j := by
  constructor
  · intro h
    apply encB_inj
    unfold encB at h ⊢
    simp only [PyData.eqv, PyData.eqvAll, Bool.and_eq_true, beq_iff_eq, decide_eq_true_eq, and_true] at h
    obtain ⟨h1, h2, h3⟩ := h
    have e1 : i.2.2 = j.2.2 := by simpa [PyData.eqv] using h1
    rw [e1, h2, h3]
  · rintro rfl
    simp [encB, PyData.eqv, PyData.eqvAll]
/-! ### promises -/
section
variable {K : PySem.W.Frag} {C p dm dt : Addr} {H H' : Hp} {Q : VK} {E : XK} {g : WM} {n : Int} {N : Nat} {L M F : List Res} {x b : Str} {A B : MarkM} {ks : List Str}
def spTopS (C : Addr) : Sp := fun vs H Q _ => ∃ (p : Addr) (x : Str) (g : WM) (n : Int) (N : Nat) (F : List Res), vs = [.ref p, .str x] ∧ Sep (wd C p g n N :: F) H ∧ (NoTop g x → Q .non H) ∧ ∀ v, IsTop g x v → Q (.int v) H
theorem c_top (h : Sep L H) (k : Pick (wd C p g n N) L F) (q0 : NoTop g x → Q .non H) (q1 : ∀ v, IsTop g x v → Q (.int v) H) : spTopS C [.ref p, .str x] H Q E := ⟨p, x, g, n, N, F, rfl, h.pick k, q0, q1⟩
theorem isTop_one {u v : Int} (h : IsTop g x u) (k : IsTop g x v) : u = v := by
  obtain ⟨⟨w, e, p⟩, h2⟩ := h
  obtain ⟨⟨w', e', p'⟩, k2⟩ := k
  exact Int.le_antisymm (k2 w u e p) (h2 w' v e' p')
theorem noTop_no {v : Int} (h : NoTop g x) (k : IsTop g x v) : False := by
  obtain ⟨⟨w, e, p⟩, _⟩ := k
  exact h w (by rw [e]; simp) p
/-- where the top is known to be there -/
theorem c_topR {v : Int} (h : Sep L H) (k : Pick (wdR C p dm dt A ks B n N) L F) (t : IsTop (gOf A n) x v) (q : Q (.int v) H) : spTopS C [.ref p, .str x] H Q E :=
  ⟨p, x, gOf A n, n, N, F, rfl, (h.pick k).ent ent_wdR, fun z => (noTop_no z t).elim, fun u hu => by rw [isTop_one hu t]; exact q⟩
theorem c_worthR {XA : Addr} {v : Int} {w : Str} (h : Sep L H) (k : Pick (wdR C p dm dt A ks B n N) L F) (t : gOf A n w = some v) (q : Q (.int v) H) : spWorthOf C XA [.ref p, .str w] H Q E :=
  c_worth ((h.pick k).ent ent_wdR) .here t q
theorem c_longer (h : Sep L H) (k : Pick (wdR C p dm dt A ks B n N) L F) (hx : x.length ≤ 1000) (q : ∀ l H', Sep (lis l ((longer B x).map V.str) :: L) H' → Q (.ref l) H') : spLonger C [.ref p, .str x] H Q E :=
  ⟨p, dm, dt, A, ks, B, n, N, x, rfl, (h.wdr k).toWoodP, hx, fun l H' e hn s => q l H' (h.addL s e hn)⟩
def spGoneS (C : Addr) : Sp := fun vs H Q _ => ∃ (p : Addr) (b : Str) (many : Int) (g : WM) (n : Int) (N : Nat) (F : List Res), vs = [.ref p, .str b, .int many] ∧ Sep (wd C p g n N :: F) H ∧ N ≤ 100000 ∧ 1 ≤ many ∧
  ∀ (t fl bl : Addr) (xs ys : List V) (brs : List Br) (H' : Hp), Sep (tpl t [.ref fl, .ref bl] :: lisD fl xs ((toldOf g b many).map dP) :: lisD bl ys (brs.map dB) :: wd C p g n N :: F) H' → GInv g b (toldOf g b many) brs → (((fits g b).length : Int) ≤ many → brs = []) → Q (.ref t) H'
def spToldS (C : Addr) : Sp := fun vs H Q _ => ∃ (p : Addr) (b : Str) (many : Int) (g : WM) (n : Int) (N : Nat) (F : List Res), vs = [.ref p, .str b, .int many] ∧ Sep (wd C p g n N :: F) H ∧ N ≤ 100000 ∧ 1 ≤ many ∧
  ∀ (fl : Addr) (xs : List V) (H' : Hp), Sep (lisD fl xs ((toldOf g b many).map dP) :: wd C p g n N :: F) H' → Q (.ref fl) H'
def spCutS (C : Addr) : Sp := fun vs H Q _ => ∃ (p : Addr) (b : Str) (many : Int) (g : WM) (n : Int) (N : Nat) (F : List Res), vs = [.ref p, .str b, .int many] ∧ Sep (wd C p g n N :: F) H ∧ N ≤ 100000 ∧ 1 ≤ many ∧
  ∀ (bl : Addr) (ys : List V) (brs : List Br) (H' : Hp), Sep (lisD bl ys (brs.map dB) :: wd C p g n N :: F) H' → GInv g b (toldOf g b many) brs → (((fits g b).length : Int) ≤ many → brs = []) → Q (.ref bl) H'
theorem c_told {many : Int} (h : Sep L H) (k : Pick (wd C p g n N) L F) (hN : N ≤ 100000 ∧ 1 ≤ many) (q : ∀ (l : Addr) (xs : List V) (H' : Hp), Sep (lisD l xs ((toldOf g b many).map dP) :: L) H' → Q (.ref l) H') : spToldS C [.ref p, .str b, .int many] H Q E :=
  ⟨p, b, many, g, n, N, F, rfl, h.pick k, hN.1, hN.2, fun l xs H' h' => q l xs H' ((h'.pick (.there .here)).put (.there k))⟩
theorem c_cut {many : Int} (h : Sep L H) (k : Pick (wd C p g n N) L F) (hN : N ≤ 100000 ∧ 1 ≤ many) (q : ∀ (l : Addr) (ys : List V) (brs : List Br) (H' : Hp), GInv g b (toldOf g b many) brs → (((fits g b).length : Int) ≤ many → brs = []) → Sep (lisD l ys (brs.map dB) :: L) H' → Q (.ref l) H') : spCutS C [.ref p, .str b, .int many] H Q E :=
  ⟨p, b, many, g, n, N, F, rfl, h.pick k, hN.1, hN.2, fun l ys brs H' h' i z => q l ys brs H' i z ((h'.pick (.there .here)).put (.there k))⟩
end
theorem top_len {g : WM} {N : Nat} (ok : GOk g N) {x : Str} {v : Int} (t : IsTop g x v) : (tl x).length ≤ 24 ∧ ∀ c ∈ tl x, low c = true ∨ c = 32 := by
  obtain ⟨⟨w, e, p⟩, _⟩ := t
  have hw := (ok.ok w v e).1
  refine ⟨Nat.le_trans p.length_le (wordL_len hw).2, fun c hc => wordL_signs hw c (p.subset hc)⟩
theorem ok_encB {g : WM} {N : Nat} (ok : GOk g N) {b : Str} {l : List Br} (h : ∀ i ∈ l, GoodB g b i) : SeqAt.shaped (.list (l.map encB)) = true := by
  refine shaped_of (n := 2) ?_
  simp only [okD]
  refine okDs_map fun i hi => ?_
  have ho : PyData.strOk i.1 = true := by
    obtain ⟨x, wh, v⟩ := i
    cases wh with
    | true => exact strOk_iff.mpr fun c hc => low_lt ((top_len ok ((h _ hi).yes rfl)).2 c hc)
    | false => exact (isW_ok (ok.ok x v ((h _ hi).no rfl)).1).2
  simp [encB, okD, okDs, ho]
theorem mB_whole {g : WM} {N : Nat} (ok : GOk g N) {x : Str} {v : Int} {new : List Br} (t : IsTop g x v) (hn : Behind g x new) (hl : new.length ≤ 28) : mBs new < mB (x, true, v) := by
  have hx := (top_len ok t).1
  have e : mB (x, true, v) = 2 * 28 ^ (25 - (tl x).length) := by unfold mB; rw [if_pos rfl]
  have hk : ∀ i ∈ new, i.2.1 = true → mB i = 2 * 28 ^ (24 - (tl x).length) := fun i hi z => by
    rcases hn.item i hi with ⟨h1, _⟩ | ⟨c, hc, h1, h2, h3⟩
    · rw [z] at h1; cases h1
    · unfold mB
      rw [if_pos z, h1, tl_snoc, List.length_append]
      congr 2
      simp only [List.length_singleton]; omega
  have hp : 28 ^ (25 - (tl x).length) = 28 * 28 ^ (24 - (tl x).length) := by
    rw [show 25 - (tl x).length = (24 - (tl x).length) + 1 by omega, Nat.pow_succ, Nat.mul_comm]
  have h1 : 1 ≤ 28 ^ (24 - (tl x).length) := Nat.one_le_pow _ _ (by decide)
  rw [e, hp]
  generalize 28 ^ (24 - (tl x).length) = P at hk h1
  -- at most one is not whole
  by_cases c : ∃ i ∈ new, i.2.1 = false
  · obtain ⟨i, hi, hf⟩ := c
    obtain ⟨l1, l2, rfl⟩ := List.append_of_mem hi
    have one : ∀ j ∈ l1 ++ l2, j.2.1 = true := fun j hj => by
      cases z : j.2.1 with
      | true => rfl
      | false =>
        have hj' : j ∈ l1 ++ i :: l2 := by
          rcases List.mem_append.mp hj with q | q
          · exact List.mem_append.mpr (.inl q)
          · exact List.mem_append.mpr (.inr (List.mem_cons_of_mem _ q))
        have e1 : ∀ k ∈ l1 ++ i :: l2, k.2.1 = false → k.1 = x := fun k hk2 hz => by
          rcases hn.item k hk2 with ⟨_, h2, _⟩ | ⟨_, _, _, h2, _⟩
          · exact h2
          · rw [hz] at h2; cases h2
        have d := List.pairwise_append.mp hn.dj
        have d2 := List.pairwise_cons.mp d.2.1
        rcases List.mem_append.mp hj with q | q
        · exact absurd ((e1 j hj' z).trans (e1 i hi hf).symm) (d.2.2 j q i (by simp))
        · exact absurd ((e1 i hi hf).trans (e1 j hj' z).symm) (d2.1 j q)
    have s : mBs (l1 ++ l2) ≤ (l1 ++ l2).length * (2 * P) := mBs_le fun j hj => by
      rw [hk j (by
        rcases List.mem_append.mp hj with q | q
        · exact List.mem_append.mpr (.inl q)
        · exact List.mem_append.mpr (.inr (List.mem_cons_of_mem _ q))) (one j hj)]
      exact Nat.le_refl _
    have hi1 : mB i = 1 := by unfold mB; rw [hf]; rfl
    rw [mBs_append] at s
    rw [mBs_append, mBs_cons, hi1]
    have hl2 : (l1 ++ l2).length ≤ 27 := by
      simp only [List.length_append, List.length_cons] at hl ⊢; omega
    have : (l1 ++ l2).length * (2 * P) ≤ 27 * (2 * P) := Nat.mul_le_mul_right _ hl2
    omega
  · -- all whole: none stands for the same sign twice, at most 27
    have all : ∀ j ∈ new, j.2.1 = true := fun j hj => by
      cases z : j.2.1 with
      | true => rfl
      | false => exact absurd ⟨j, hj, z⟩ c
    have s : mBs new ≤ new.length * (2 * P) := mBs_le fun j hj => by rw [hk j hj (all j hj)]; exact Nat.le_refl _
    by_cases e28 : new.length ≤ 27
    · have : new.length * (2 * P) ≤ 27 * (2 * P) := Nat.mul_le_mul_right _ e28
      omega
    · exfalso
      -- 28 different texts longer by one of 27 signs
      have hsub : ∀ y ∈ new.map (·.1), y ∈ signsL.map fun c => x ++ sgn c := fun y hy => by
        obtain ⟨i, hi, rfl⟩ := List.mem_map.mp hy
        rcases hn.item i hi with ⟨h1, _⟩ | ⟨c, hc, h1, _⟩
        · rw [all i hi] at h1; cases h1
        · exact List.mem_map.mpr ⟨c, hc, h1.symm⟩
      have nd : (new.map (·.1)).Nodup := List.pairwise_map.mpr hn.dj
      have : (new.map (·.1)).length ≤ (signsL.map fun c => x ++ sgn c).length := by
        have key : ∀ (l m : List Str), l.Nodup → (∀ y ∈ l, y ∈ m) → l.length ≤ m.length := by
          intro l
          induction l with
          | nil => intros; exact Nat.zero_le _
          | cons a l ih =>
            intro m hnd hs
            rw [List.nodup_cons] at hnd
            obtain ⟨m1, m2, rfl⟩ := List.append_of_mem (hs a (by simp))
            have := ih (m1 ++ m2) hnd.2 fun y hy => by
              have h2 := hs y (by simp [hy])
              rcases List.mem_append.mp h2 with q | q
              · exact List.mem_append.mpr (.inl q)
              · rcases List.mem_cons.mp q with q | q
                · subst q; exact absurd hy hnd.1
                · exact List.mem_append.mpr (.inr q)
            simp only [List.length_append, List.length_cons] at this ⊢; omega
        exact key _ _ nd hsub
      rw [List.length_map, List.length_map] at this
      have l27 : signsL.length = 27 := by decide
      omega
section
variable {K : PySem.W.Frag} {C p dm dt wl : Addr} {H H' : Hp} {Q : VK} {E : XK} {g : WM} {n : Int} {N : Nat} {L M F : List Res} {x b : Str} {A B : MarkM} {ks : List Str} {ys : List V} {l : List Br} {m : Br} {t : Addr}
theorem Sep.addTpl {a : Addr} {vs : List V} (h : Sep L H) (e : H a = some (.tup vs)) : Sep (Ah.tpl a vs :: L) H := h.pers ⟨fun _ z => z, e⟩
theorem encB_inv {x : V} {m : Br} (h : PD H x (encB m)) : ∃ t, x = .ref t ∧ H t = some (.tup [.int (0 - m.2.2), .str m.1, .bl m.2.1]) := by
  unfold encB at h
  obtain ⟨t, zs, rfl, e, h⟩ := h.ofTup
  obtain ⟨a, b, c, rfl, h1, h2, h3⟩ := h.three
  rw [h1.ofInt, h2.ofStr, h3.ofBl] at e
  exact ⟨t, rfl, e⟩
theorem encB_pd {m : Br} (h : H t = some (.tup [.int (0 - m.2.2), .str m.1, .bl m.2.1])) : PD H (.ref t) (encB m) := .tup h (.cons (.int _) (.cons (.str _) (.cons (.bl _) .nil)))
theorem dP_inv2 {x : V} {e : RW} (h : PD H x (dP e)) : ∃ t, x = .ref t ∧ H t = some (.tup [.str e.1, .int e.2]) := by
  unfold dP at h
  obtain ⟨t, zs, rfl, e2, h⟩ := h.ofTup
  obtain ⟨a, b, rfl, h1, h2⟩ := h.two
  rw [h1.ofStr, h2.ofInt] at e2
  exact ⟨t, rfl, e2⟩
theorem dB_inv2 {x : V} {m : Br} (h : PD H x (dB m)) : ∃ t, x = .ref t ∧ H t = some (.tup [.str m.1, .bl m.2.1, .int m.2.2]) := by
  unfold dB at h
  obtain ⟨t, zs, rfl, e2, h⟩ := h.ofTup
  obtain ⟨a, b, c, rfl, h1, h2, h3⟩ := h.three
  rw [h1.ofStr, h2.ofBl, h3.ofInt] at e2
  exact ⟨t, rfl, e2⟩
theorem alikeB (l : List Br) : PySem.W.AlikeAll (l.map encB) := ⟨fun x hx y hy => by
  obtain ⟨i, _, rfl⟩ := List.mem_map.mp hx
  obtain ⟨j, _, rfl⟩ := List.mem_map.mp hy
  simp [encB, PySem.W.alike, PySem.W.alikeAll], fun x hx => by
  obtain ⟨i, _, rfl⟩ := List.mem_map.mp hx
  simp [encB]⟩
theorem depthB : ∀ l : List Br, PyData.depthAll (l.map encB) ≤ 1
  | [] => by simp [PyData.depthAll]
  | i :: l => by
    have := depthB l
    have e : (encB i).depth ≤ 1 := by simp [encB, PyData.depth, PyData.depthAll]
    rw [List.map_cons]
    simp only [PyData.depthAll]
    omega
theorem plainB : ∀ l : List Br, PyData.plainAll (l.map encB) = true
  | [] => by simp [PyData.plainAll]
  | i :: l => by
    have := plainB l
    rw [List.map_cons]
    simp [PyData.plainAll, this, encB, PyData.plain]
theorem n_minB {i0 : Br} {r : List Br} (h : Sep L H) (k : Pick (Ah.lisD wl ys ((i0 :: r).map encB)) L M) (q : ∀ (t : Addr) (m : Br), m ∈ i0 :: r → (∀ j ∈ i0 :: r, ¬ ltB j m) → Sep (Ah.tpl t [.int (0 - m.2.2), .str m.1, .bl m.2.1] :: L) H → Q (.ref t) H) : rMinD K [.ref wl] H Q := by
  have hp := h.pds k
  obtain ⟨m, e1, e2, e3⟩ := minB r i0
  refine ⟨wl, ys, encB i0, r.map encB, rfl, SqL.of (h.lisD k), hp.dp, alikeB (i0 :: r), Nat.le_trans (depthB (i0 :: r)) (by decide), fun i x hx hd => ?_⟩
  rw [e1] at hd
  obtain ⟨d, h1, h2⟩ := hp.get hx
  have : d = encB m := Option.some.inj (h1.symm.trans hd)
  subst this
  obtain ⟨t, rfl, ht⟩ := encB_inv h2
  exact q t m e2 e3 (h.addTpl ht)
theorem erase_perm {α : Type} : ∀ {l : List α} {j : Nat} {m : α}, l[j]? = some m → l.Perm (m :: l.eraseIdx j)
  | a :: l, 0, m, e => by
    have : a = m := by simpa using e
    subst this; exact List.Perm.refl _
  | a :: l, j + 1, m, e => by
    have ih := erase_perm (l := l) (j := j) (m := m) (by simpa using e)
    rw [List.eraseIdx_cons_succ]
    exact (List.Perm.cons a ih).trans (List.Perm.swap m a _)
theorem map_erase {α β : Type} (f : α → β) : ∀ (l : List α) (j : Nat), (l.eraseIdx j).map f = (l.map f).eraseIdx j
  | [], _ => rfl
  | _ :: _, 0 => rfl
  | a :: l, j + 1 => by rw [List.eraseIdx_cons_succ, List.map_cons, List.map_cons, List.eraseIdx_cons_succ, map_erase f l j]
theorem n_remB (h : Sep L H) (k : Pick (Ah.lisD wl ys (l.map encB)) L F) (k2 : Pick (Ah.tpl t [.int (0 - m.2.2), .str m.1, .bl m.2.1]) L M) (hm : m ∈ l) (q : ∀ (rest : List Br) (ys' : List V) (H' : Hp), l.Perm (m :: rest) → Sep (Ah.lisD wl ys' (rest.map encB) :: F) H' → Q .non H') : rRemD K (.ref wl) [.ref t] H Q := by
  have hp := h.pds k
  have ht := h.tpl k2
  have hf : ∃ j, PySem.SeqAt.dataPlace (l.map encB) (encB m) = some j ∧ l[j]? = some m := by
    unfold PySem.SeqAt.dataPlace
    cases e : (l.map encB).findIdx? (fun y => PyData.eqv y (encB m)) with
    | none =>
      have := List.findIdx?_eq_none_iff.mp e (encB m) (List.mem_map.mpr ⟨m, hm, rfl⟩)
      rw [eqv_B.mpr rfl] at this; cases this
    | some j =>
      refine ⟨j, rfl, ?_⟩
      obtain ⟨hj, h1, _⟩ := List.findIdx?_eq_some_iff_getElem.mp e
      have hj2 : j < l.length := by simpa using hj
      rw [List.getElem_map] at h1
      rw [List.getElem?_eq_getElem hj2]
      exact congrArg some (eqv_B.mp h1)
  obtain ⟨j, e1, e2⟩ := hf
  refine ⟨wl, ys, .ref t, l.map encB, encB m, j, rfl, rfl, h.lisD k, hp.dp, (encB_pd ht).dp, plainB l, by simp [encB, PyData.plain, PyData.plainAll], Nat.le_trans (depthB l) (by decide), e1, ?_⟩
  refine q (l.eraseIdx j) (ys.eraseIdx j) _ (erase_perm e2) ?_
  have h2 := (h.pick k).setD (ys := ys.eraseIdx j) (es := (l.eraseIdx j).map encB) .here (by rw [map_erase]; exact hp.erase j)
  exact h2
/-- what a top is worth -/
def tvB (B : MarkM) (n : Int) (y : Str) : Int := match B y with | some m => wn m n | none => 0
def selfB (g : WM) (x : Str) : List Br := match g x with | some v => [(x, false, v)] | none => []
theorem behind_of (W : WoodAt C H p dm dt A ks B n N) (x : Str) : Behind (gOf A n) x (selfB (gOf A n) x ++ (longer B x).map fun y => (y, true, tvB B n y)) ∧ (selfB (gOf A n) x ++ (longer B x).map fun y => (y, true, tvB B n y)).length ≤ 28 := by
  have top : ∀ y ∈ longer B x, IsTop (gOf A n) y (tvB B n y) := fun y hy => by
    obtain ⟨c, hc, hs, rfl⟩ := mem_longer.mp hy
    rcases top_cases (W.top (x ++ sgn c)) with ⟨e, _⟩ | ⟨m, e, _, t⟩
    · rw [e] at hs; cases hs
    · unfold tvB; rw [e]; exact t
  refine ⟨⟨fun i hi => ?_, fun v hv => ?_, fun c hc w hw pc => ?_, ?_⟩, ?_⟩
  · rcases List.mem_append.mp hi with hi | hi
    · left
      unfold selfB at hi
      cases e : gOf A n x with
      | none => rw [e] at hi; cases hi
      | some v =>
        rw [e] at hi
        have := List.mem_singleton.mp hi
        subst this
        exact ⟨rfl, rfl, rfl⟩
    · right
      obtain ⟨y, hy, rfl⟩ := List.mem_map.mp hi
      obtain ⟨c, hc, hs, rfl⟩ := mem_longer.mp hy
      exact ⟨c, hc, rfl, rfl, top _ hy⟩
  · refine List.mem_append.mpr (.inl ?_)
    unfold selfB
    rw [hv]; simp
  · have hy : x ++ sgn c ∈ longer B x := mem_longer.mpr ⟨c, hc, by
      rcases top_cases (W.top (x ++ sgn c)) with ⟨_, h⟩ | ⟨m, e, _⟩
      · exact absurd pc (h w hw)
      · rw [e]; rfl, rfl⟩
    exact ⟨_, List.mem_append.mpr (.inr (List.mem_map.mpr ⟨_, hy, rfl⟩)), rfl, rfl⟩
  · refine List.pairwise_append.mpr ⟨?_, ?_, fun i hi j hj e => ?_⟩
    · unfold selfB
      cases gOf A n x with
      | none => exact .nil
      | some v => exact List.pairwise_singleton _ _
    · rw [List.pairwise_map]
      unfold longer
      rw [List.pairwise_map]
      refine (List.Pairwise.filter _ (show signsL.Pairwise (fun a b => a ≠ b) from by decide)).imp fun {a b} hab e => hab ?_
      have := congrArg tl (show x ++ sgn a = x ++ sgn b from e)
      rw [tl_snoc, tl_snoc] at this
      have := List.append_cancel_left this
      simpa using this
    · have e1 : i.1 = x := by
        unfold selfB at hi
        cases e : gOf A n x with
        | none => rw [e] at hi; cases hi
        | some v =>
          rw [e] at hi
          have := List.mem_singleton.mp hi
          subst this; rfl
      obtain ⟨y, hy, rfl⟩ := List.mem_map.mp hj
      obtain ⟨c, hc, hs, rfl⟩ := mem_longer.mp hy
      have := congrArg (fun z => (tl z).length) (e1.symm.trans e)
      simp only [tl_snoc, List.length_append, List.length_singleton] at this
      omega
  · rw [List.length_append, List.length_map]
    have h1 := longer_len (B := B) (x := x)
    have h2 : (selfB (gOf A n) x).length ≤ 1 := by
      unfold selfB
      cases gOf A n x <;> simp
    omega
end
end Ah
set_option Elab.async false
set_option linter.all false
set_option maxRecDepth 100000
set_option maxHeartbeats 4000000
/-! what the laws keep beside a wood: dicts of worths, lists told -/
namespace Ah
open PySem PySem.Spec PyProof.Rows L2 TL
theorem seti_same {g : WM} {w : Str} {c : Int} : seti g w c w = some c := by unfold seti; rw [if_pos rfl]
section
variable {K : PySem.W.Frag} {C p a : Addr} {H H' : Hp} {Q : VK} {E : XK} {σ : L2.St} {D : Ends} {g : WM} {n : Int} {N N0 : Nat} {L M F : List Res} {w : Str} {c v : Int} {xs : List V} {ds : List PyData}
theorem Sep.toL {ss : List Str} (h : Sep L H) (k : Chg (Ah.lisD a xs (ss.map PyData.str)) (Ah.lis a (ss.map V.str)) L M) : Sep M H := by
  obtain ⟨F, k1, k2⟩ := k.picks
  have e := PDs.ofStrs (h.pds k1)
  subst e
  exact h.weaken k ent_lisD
theorem n_dinG (h : Sep L H) (k : Pick (dic a (vI g) N) L M) (q : Q (.bl (g w).isSome) H) : rDIn (.str w) (.ref a) H Q := n_din h k (by rw [vI_is]; exact q)
theorem n_dnotinG (h : Sep L H) (k : Pick (dic a (vI g) N) L M) (q : Q (.bl (!(g w).isSome)) H) : rDNotIn (.str w) (.ref a) H Q := n_dnotin h k (by rw [vI_is]; exact q)
theorem n_dgetG (h : Sep L H) (k : Pick (dic a (vI g) N) L M) (e : g w = some c) (q : Q (.int c) H) : rDGet (.ref a) (.str w) H Q := n_dget h k (vI_some e) q
theorem n_dputG (h : Sep L H) (k : Chg (dic a (vI g) N) (dic a (vI (seti g w c)) (N + 1)) L M) (hN : N < 10000000) (q : ∀ H', Sep M H' → D.nx σ H') : rDPut (.int c) D σ (.ref a) (.str w) H :=
  n_dput h (by rw [← vI_set]; exact k) hN q
theorem n_dputGO (h : Sep L H) (k : Chg (dic a (vI g) N) (dic a (vI (seti g w c)) N) L M) (hN : N < 10000000) (e : (g w).isSome = true) (q : ∀ H', Sep M H' → D.nx σ H') : rDPut (.int c) D σ (.ref a) (.str w) H :=
  n_dputO h (by rw [← vI_set]; exact k) hN (by rw [vI_is]; exact e) q
theorem n_dpopG {ty : TE} (h : Sep L H) (k : Chg (dic a (vI g) N) (dic a (vI (deli g w)) N) L M) (ev : g w = some c) (k' : ∀ R : VK, R (.str w) H → ty σ H R) (q : ∀ H', Sep M H' → Q (.int c) H') : rPop1 ty σ (.ref a) H Q :=
  n_dpop1 h (by rw [← vI_del]; exact k) (vI_some ev) k' q
theorem n_listG (h : Sep L H) (k : Pick (dic a (vI g) N) L M) (ok : GOk g N0) (q : ∀ (ks : List Str) p H', (∀ s ∈ ks, isW s = true) → (∀ w, w ∈ ks ↔ (g w).isSome = true) → ks.Nodup → ks.length ≤ N → Sep (lis p (ks.map V.str) :: L) H' → Q (.ref p) H') : rListD2 [.ref a] H Q :=
  n_listD h k fun ks p H' nd hm hl h' => q ks p H' (fun s hs => by
    obtain ⟨v, e⟩ := Option.isSome_iff_exists.mp ((vI_is g s).symm.trans ((hm s).mp hs))
    exact (ok.ok s v e).1) (fun w => (hm w).trans (by rw [vI_is])) nd hl h'
theorem n_sortG (h : Sep L H) (k : Pick (dic a (vI g) N) L M) (q : ∀ p H', Sep (lis p ((gKeys g).map V.str) :: L) H' → Q (.ref p) H') : rSortDict [.ref a] H Q :=
  n_sortD h k fun ks p H' nd hm hl h' => q p H' (by
    have e : ks.mergeSort leS = gKeys g := keysOf_is nd fun w => (hm w).trans (by rw [vI_is])
    rw [← e]; exact h')
/-- [..][:m] -/
theorem n_slT {m : Int} (h : Sep L H) (k : Pick (lisD a xs ds) L M) (hm : 0 ≤ m) (q : ∀ p H', Sep (lisD p (xs.take m.toNat) (ds.take m.toNat) :: L) H' → Q (.ref p) H') : rSlL K (.ref a) none (some m) H Q :=
  ⟨a, xs, rfl, SqL.of (h.lisD k), fun p hp => q p _ (by rw [cutV_to _ hm]; exact h.newD hp ((h.pds k).take _))⟩
theorem n_appG (h : Sep L H) (k : Pick (wd C p g n N) L M) : GOk g N := h.gok k
end
/-! ### lists of rated words as data -/
theorem shp_rated {l : List RW} (h : ∀ e ∈ l, PyData.strOk e.1 = true) : SeqAt.shaped (.list (l.map dP)) = true := by
  refine shaped_of (n := 2) ?_
  simp only [okD]
  exact okDs_map fun e he => by simp [dP, okD, okDs, h e he]
theorem eqv_rated (l : List RW) (h : ∀ e ∈ l, PyData.strOk e.1 = true) : PyData.eqv (.list (l.map dP)) (.list (l.map dP)) = true := by
  refine eqv_same (n := 2) ?_
  simp only [okD]
  exact okDs_map fun e he => by simp [dP, okD, okDs, h e he]
section
variable {g : WM} {N : Nat} {b w : Str} {many v t s : Int} {e : RW}
theorem GOk.str (ok : GOk g N) : ∀ e ∈ rOf g, PyData.strOk e.1 = true := fun e he => (isW_ok (ok.ok _ _ (ok.mem.mp he)).1).2
theorem mem_told (ok : GOk g N) (h : e ∈ toldOf g b many) : g e.1 = some e.2 ∧ tl b <+: tl e.1 := by
  unfold toldOf bestOf at h
  exact (mem_fits ok).mp (mem_best.mp (List.mem_of_mem_take h))
theorem GOk.strT (ok : GOk g N) : ∀ e ∈ toldOf g b many, PyData.strOk e.1 = true := fun e he => (isW_ok (ok.ok _ _ (mem_told ok he).1).1).2
theorem told_len (ok : GOk g N) : (toldOf g b many).length ≤ N := by
  unfold toldOf bestOf
  rw [List.length_take, List.length_mergeSort]
  have : (fits g b).length ≤ (rOf g).length := List.length_filter_le _ _
  have := ok.len
  omega
theorem GOk.shp (ok : GOk g N) : SeqAt.shaped (.list ((rOf g).map dP)) = true := shp_rated ok.str
theorem GOk.shpT (ok : GOk g N) : SeqAt.shaped (.list ((toldOf g b many).map dP)) = true := shp_rated ok.strT
theorem GOk.eqv (ok : GOk g N) : PyData.eqv (.list ((rOf g).map dP)) (.list ((rOf g).map dP)) = true := eqv_rated _ ok.str
theorem GOk.eqvT (ok : GOk g N) : PyData.eqv (.list ((toldOf g b many).map dP)) (.list ((toldOf g b many).map dP)) = true := eqv_rated _ ok.strT
theorem GOk.mono {M : Nat} (ok : GOk g N) (h : N ≤ M) : GOk g M := ⟨by
  obtain ⟨ks, h1, h2, h3⟩ := ok.fin
  exact ⟨ks, h1, h2, by omega⟩, ok.ok⟩
/-! ### fading -/
theorem hv_hv (g : WM) (hs : 0 ≤ s) (ht : 0 ≤ t) : hv (hv g s) t = hv g (s + t) := by
  funext w
  unfold hv
  cases g w with
  | none => rfl
  | some v =>
    show some (v / 2 ^ s.toNat / 2 ^ t.toNat) = some (v / 2 ^ (s + t).toNat)
    rw [Int.ediv_ediv_of_nonneg (Int.le_of_lt (pow2_pos _)), ← Int.pow_add, show (s + t).toNat = s.toNat + t.toNat by omega]
theorem hv_0 (g : WM) : hv g 0 = g := by
  funext w
  unfold hv
  cases g w with
  | none => rfl
  | some v => simp
theorem GOk.hv (ok : GOk g N) (t : Int) : GOk (Ah.hv g t) N := by
  obtain ⟨ks, h1, h2, h3⟩ := ok.fin
  refine ⟨⟨ks, h1, fun w => (h2 w).trans ?_, h3⟩, fun w v hv' => ?_⟩
  · unfold Ah.hv; cases g w <;> simp
  · unfold Ah.hv at hv'
    cases e : g w with
    | none => rw [e] at hv'; cases hv'
    | some u =>
      rw [e] at hv'
      have : u / 2 ^ t.toNat = v := Option.some.inj hv'
      exact ⟨(ok.ok w u e).1, by rw [← this]; exact Int.ediv_nonneg (ok.ok w u e).2 (Int.le_of_lt (pow2_pos _))⟩
theorem GOk.seti {c : Int} (ok : GOk g N) (hw : isW w = true) (hc : 0 ≤ c) : GOk (Ah.seti g w c) (N + 1) := by
  obtain ⟨ks, h1, h2, h3⟩ := ok.fin
  refine ⟨⟨addK ks w, ?_, fun x => ?_, Nat.le_trans (addK_len _ _) (by omega)⟩, fun x v h => ?_⟩
  · unfold addK
    by_cases z : w ∈ ks
    · rw [if_pos z]; exact h1
    · rw [if_neg z]; exact nd_snoc h1 z
  · rw [mem_addK, h2]
    unfold Ah.seti
    by_cases z : x = w
    · simp [z]
    · simp [z]
  · unfold Ah.seti at h
    by_cases z : x = w
    · rw [if_pos z] at h
      subst z
      exact ⟨hw, by rw [← Option.some.inj h]; exact hc⟩
    · rw [if_neg z] at h; exact ok.ok x v h
theorem GOk.deli (ok : GOk g N) : GOk (Ah.deli g w) N := by
  obtain ⟨ks, h1, h2, h3⟩ := ok.fin
  refine ⟨⟨remK ks w, h1.filter _, fun x => ?_, Nat.le_trans (remK_len _ _) h3⟩, fun x v h => ?_⟩
  · rw [mem_remK, h2]
    unfold Ah.deli
    by_cases z : x = w
    · simp [z]
    · simp [z]
  · unfold Ah.deli at h
    by_cases z : x = w
    · rw [if_pos z] at h; cases h
    · rw [if_neg z] at h; exact ok.ok x v h
theorem GOk.empty : GOk (fun _ => none) 0 := ⟨⟨[], .nil, by simp, Nat.le_refl _⟩, (fun _ _ h => nomatch h)⟩
/-- fading turns no two about -/
theorem hv_ahead (ok : GOk g N) {a b : RW} (ha : g a.1 = some a.2) (hb : g b.1 = some b.2) (h : aheadR a b = true) (t : Int) : ∃ u v, Ah.hv g t a.1 = some u ∧ Ah.hv g t b.1 = some v ∧ v ≤ u := by
  refine ⟨a.2 / 2 ^ t.toNat, b.2 / 2 ^ t.toNat, by unfold Ah.hv; rw [ha]; rfl, by unfold Ah.hv; rw [hb]; rfl, Int.ediv_le_ediv (pow2_pos _) ?_⟩
  unfold aheadR at h
  by_cases z : a.2 = b.2
  · omega
  · rw [if_neg z, decide_eq_true_eq] at h; omega
end
section
variable {K : PySem.W.Frag} {C p a b : Addr} {H H' : Hp} {Q : VK} {E : XK} {σ : L2.St} {D : Ends} {g : WM} {n : Int} {N N0 : Nat} {L M F : List Res} {w x y : Str} {c v u : Int} {xs : List V} {ds : List PyData} {t s : Addr}
theorem Sep.toLI {ss : List Int} (h : Sep L H) (k : Chg (Ah.lisD a xs (ss.map PyData.int)) (Ah.lis a (ss.map V.int)) L M) : Sep M H := by
  obtain ⟨F, k1, k2⟩ := k.picks
  have e := PDs.ofInts (h.pds k1)
  subst e
  exact h.weaken k ent_lisD
theorem PD.tp2 (h : PD H (.ref t) (.tuple [.str x, .int u])) : H t = some (.tup [.str x, .int u]) := by
  obtain ⟨t', zs, e, e2, h⟩ := h.ofTup
  cases e
  obtain ⟨a, b, rfl, h1, h2⟩ := h.two
  rw [h1.ofStr, h2.ofInt] at e2
  exact e2
theorem c_ahead (h : Sep L H) (k1 : Pick (dat (.ref t) (.tuple [.str x, .int u])) L M) (k2 : Pick (dat (.ref s) (.tuple [.str y, .int v])) L F) (q : Q (.bl (aheadR (x, u) (y, v))) H) : spAhead K [.ref t, .ref s] H Q E :=
  ⟨t, s, (x, u), (y, v), rfl, SqT.of (h.dat k1).tp2, SqT.of (h.dat k2).tp2, q⟩
def spCountS : Sp := fun vs H Q _ => ∃ (b : Addr) (L : List Res), vs = [.ref b] ∧ Sep (box b :: L) H ∧ ∀ (r : Int) (H' : Hp), 0 ≤ r ∧ r ≤ 1000000000 → Sep (box b :: L) H' → Q (.int r) H'
theorem c_countS (h : Sep L H) (k : Pick (box b) L M) (q : ∀ (r : Int) (H' : Hp), 0 ≤ r ∧ r ≤ 1000000000 → Sep L H' → Q (.int r) H') : spCountS [.ref b] H Q E := ⟨b, M, rfl, h.pick k, fun r H' hr h' => q r H' hr (h'.put k)⟩
def spTimesS : Sp := fun vs H Q _ => ∃ (b : Addr) (L : List Res), vs = [.ref b] ∧ Sep (box b :: L) H ∧ ∀ (r : Int) (H' : Hp), 1 ≤ r ∧ r ≤ 1000000 → Sep (box b :: L) H' → Q (.int r) H'
theorem c_timesS (h : Sep L H) (k : Pick (box b) L M) (q : ∀ (r : Int) (H' : Hp), 1 ≤ r ∧ r ≤ 1000000 → Sep L H' → Q (.int r) H') : spTimesS [.ref b] H Q E := ⟨b, M, rfl, h.pick k, fun r H' hr h' => q r H' hr (h'.put k)⟩
end
/-- the first of the words, as they go into a dict -/
noncomputable def partG (g : WM) (i : Nat) : WM := fun w => if w ∈ (gKeys g).take i then g w else none
section
variable {g : WM} {N : Nat} {w : Str} {i : Nat}
theorem partG_0 : partG g 0 = fun _ => none := by funext w; unfold partG; simp
theorem partG_s (h : (gKeys g)[i]? = some w) (ok : GOk g N) : partG g (i + 1) = seti (partG g i) w ((g w).getD 0) := by
  funext x
  unfold partG seti
  rw [take_more h]
  have hs : (g w).isSome = true := (ok.keys.2.1 w).mp (List.mem_of_getElem? h)
  obtain ⟨v, e⟩ := Option.isSome_iff_exists.mp hs
  by_cases c : x = w
  · subst c; rw [if_pos rfl, if_pos (by simp), e]; rfl
  · rw [if_neg c]
    show _ = if x ∈ (gKeys g).take i then g x else none
    by_cases d : x ∈ (gKeys g).take i
    · rw [if_pos d, if_pos (List.mem_append.mpr (.inl d))]
    · rw [if_neg d, if_neg (by simp [d, c])]
theorem partG_all (ok : GOk g N) {j : Nat} (h : (gKeys g).length ≤ j) : partG g j = g := by
  funext x
  unfold partG
  rw [List.take_of_length_le h]
  by_cases c : x ∈ gKeys g
  · rw [if_pos c]
  · rw [if_neg c]
    cases e : g x with
    | none => rfl
    | some v => exact absurd ((ok.keys.2.1 x).mpr (by rw [e]; rfl)) c
theorem rOf_get {e : RW} (h : (rOf g)[i]? = some e) : (gKeys g)[i]? = some e.1 ∧ e.2 = (g e.1).getD 0 := by
  unfold rOf at h
  obtain ⟨w, h1, rfl⟩ := map_get h
  exact ⟨h1, rfl⟩
end
section
variable {K : PySem.W.Frag} {H : Hp} {Q : VK} {L M : List Res} {a : Addr} {s : Str} {ss : List Str}
theorem n_inS (h : Sep L H) (k : Pick (lis a (ss.map V.str)) L M) (q : Q (.bl (decide (s ∈ ss))) H) : rIn K false (.str s) (.ref a) H Q :=
  ⟨a, ss.map V.str, rfl, .inl (SqL.of (h.lis k)), rfl, flat_strs ss, by rw [inV_strs]; simpa using q⟩
theorem n_notInS (h : Sep L H) (k : Pick (lis a (ss.map V.str)) L M) (q : Q (.bl (!decide (s ∈ ss))) H) : rIn K true (.str s) (.ref a) H Q :=
  ⟨a, ss.map V.str, rfl, .inl (SqL.of (h.lis k)), rfl, flat_strs ss, by rw [inV_strs]; simpa using q⟩
end
theorem rOf_strs (g : WM) : ((rOf g).map fun e => PyData.str e.1) = (gKeys g).map PyData.str := by
  rw [← rOf_fst, List.map_map]; rfl
/-! ### a top as a value -/
open Classical in
noncomputable def topV (g : WM) (x : Str) : V := if h : ∃ v, IsTop g x v then .int (Classical.choose h) else .non
theorem topV_is {g : WM} {x : Str} {v : Int} (h : IsTop g x v) : topV g x = .int v := by
  have e : ∃ v, IsTop g x v := ⟨v, h⟩
  unfold topV
  rw [dif_pos e, isTop_one (Classical.choose_spec e) h]
theorem topV_no {g : WM} {x : Str} (h : NoTop g x) : topV g x = .non := by
  unfold topV
  rw [dif_neg]
  rintro ⟨v, e⟩
  exact noTop_no h e
section
variable {K : PySem.W.Frag} {C p a : Addr} {H H' : Hp} {Q : VK} {E : XK} {g g2 : WM} {n : Int} {N : Nat} {L M F : List Res} {x y : Str}
theorem c_topV (h : Sep L H) (k : Pick (wd C p g n N) L F) (q : Q (topV g x) H) : spTopS C [.ref p, .str x] H Q E :=
  c_top h k (fun z => by rw [← topV_no z]; exact q) fun v z => by rw [← topV_is z]; exact q
theorem topV_cases (g : WM) (x : Str) : topV g x = .non ∨ ∃ v, topV g x = .int v := by
  unfold topV
  split
  · exact .inr ⟨_, rfl⟩
  · exact .inl rfl
theorem s_neTop (q : Q (.bl (!decide (topV g x = topV g2 y))) H) : rNe (topV g x) (topV g2 y) H Q := by
  refine ⟨?_, q⟩
  rcases topV_cases g x with e | ⟨v, e⟩ <;> rcases topV_cases g2 y with e2 | ⟨v2, e2⟩ <;> rw [e, e2] <;> rfl
end
/-! ### sorted rated words; beginnings -/
section
variable {K : PySem.W.Frag} {H : Hp} {Q : VK} {L M : List Res} {a : Addr} {xs : List V} {l : List RW} {g : WM} {b w : Str} {N : Nat} {ks : List Str}
theorem pair_of_pds {α : Type} {f : α → PyData} : ∀ {xs : List V} {l : List α}, PDs H xs (l.map f) → Paired (fun x e => PD H x (f e)) xs l
  | _, [], .nil => .nil
  | _, _ :: _, .cons h t => .cons h (pair_of_pds t)
theorem pds_of_pair {α : Type} {f : α → PyData} : ∀ {xs : List V} {l : List α}, Paired (fun x e => PD H x (f e)) xs l → PDs H xs (l.map f)
  | _, _, .nil => .nil
  | _, _, .cons h t => .cons h (pds_of_pair t)
theorem n_sortR (h : Sep L H) (k : Pick (lisD a xs (l.map encR)) L M) (q : ∀ (p : Addr) (ys : List V) (H' : Hp), Sep (lisD p ys ((l.mergeSort leR).map encR) :: L) H' → Q (.ref p) H') : rSortD K [.ref a] H Q := by
  refine ⟨RW, a, xs, l, encR, fun x e => PD H x (encR e), rfl, SqL.of (h.lisD k), pair_of_pds (h.pds k), fun _ _ z => z.dp, alike_encR l, sortable_encR l, fun b _ => by simp [encR, PyData.depth, PyData.depthAll], fun zs p hz hp => ?_⟩
  rw [dataLe_R] at hz
  exact q p zs _ (h.newD hp (pds_of_pair hz))
theorem encR_inv2 {x : V} {e : RW} (h : PD H x (encR e)) : ∃ t, x = .ref t ∧ H t = some (.tup [.int (0 - e.2), .str e.1]) := by
  unfold encR at h
  obtain ⟨t, zs, rfl, e2, h⟩ := h.ofTup
  obtain ⟨a, b, rfl, h1, h2⟩ := h.two
  rw [h1.ofInt, h2.ofStr] at e2
  exact ⟨t, rfl, e2⟩
theorem pre_test (b w : Str) : decide (V.str (cutS w none (some (b.length : Int))) = V.str b) = preB b w := by
  unfold preB
  rw [Bool.eq_iff_iff, decide_eq_true_eq, decide_eq_true_eq]
  have e : tl (cutS w none (some (b.length : Int))) = (tl w).take (tl b).length := by
    rw [len_tl b]
    unfold cutS
    rw [tl_mk, HT.sIx_none, HT.sIx_nat, Nat.sub_zero, List.drop_zero]
    rw [List.take_eq_take_iff, len_tl w, Nat.min_assoc, Nat.min_self]
  constructor
  · intro z
    have := V.str.inj z
    rw [← e, this]
  · intro z
    rw [tl_inj (e.trans z)]
def rtd (g : WM) (w : Str) : RW := (w, (g w).getD 0)
theorem fits_perm (ok : GOk g N) (nd : ks.Nodup) (hm : ∀ w, w ∈ ks ↔ (g w).isSome = true) : ((ks.filter (preB b)).map (rtd g)).Perm (fits g b) := by
  have inj : ∀ x y, rtd g x = rtd g y → x = y := fun x y h => congrArg Prod.fst h
  refine (List.perm_ext_iff_of_nodup (List.pairwise_map.mpr ((nd.filter _).imp fun {x y} ne e => ne (inj _ _ e))) (fits_nd ok)).mpr fun e => ?_
  rw [mem_fits ok, List.mem_map]
  constructor
  · rintro ⟨w, hw, rfl⟩
    obtain ⟨h1, h2⟩ := List.mem_filter.mp hw
    obtain ⟨v, e⟩ := Option.isSome_iff_exists.mp ((hm w).mp h1)
    exact ⟨by show g w = some ((g w).getD 0); rw [e]; rfl, pre_iff.mpr h2⟩
  · rintro ⟨h1, h2⟩
    exact ⟨e.1, List.mem_filter.mpr ⟨(hm _).mpr (by rw [h1]; rfl), pre_iff.mp h2⟩, by unfold rtd; rw [h1]; rfl⟩
theorem sort_perm {l m : List RW} (p : l.Perm m) : l.mergeSort leR = m.mergeSort leR := sorted_is ((List.mergeSort_perm l leR).trans p) (List.pairwise_mergeSort leR_trans leR_total l)
theorem isW_sl {w : Str} (h : isW w = true) : w.length ≤ sizeLine := sz (by have := isW_len h; omega)
end
/-! ### the greatest of a list of worths -/
theorem max_top {g : WM} {x : Str} {ks : List Str} (hm : ∀ w, w ∈ ks ↔ (g w).isSome = true) {v : Int} (hv : v ∈ (ks.filter (preB x)).map fun w => (g w).getD 0) (hmax : ∀ u ∈ (ks.filter (preB x)).map fun w => (g w).getD 0, u ≤ v) : IsTop g x v := by
  obtain ⟨w, hw, rfl⟩ := List.mem_map.mp hv
  obtain ⟨h1, h2⟩ := List.mem_filter.mp hw
  obtain ⟨c, e⟩ := Option.isSome_iff_exists.mp ((hm w).mp h1)
  refine ⟨⟨w, by rw [e]; rfl, pre_iff.mpr h2⟩, fun w' u e' p => ?_⟩
  have := hmax u (List.mem_map.mpr ⟨w', List.mem_filter.mpr ⟨(hm w').mpr (by rw [e']; rfl), pre_iff.mp p⟩, by rw [e']; rfl⟩)
  exact this
theorem noTop_of {g : WM} {x : Str} {ks : List Str} (hm : ∀ w, w ∈ ks ↔ (g w).isSome = true) (h : ks.filter (preB x) = []) : NoTop g x := fun w hw p => by
  have : w ∈ ks.filter (preB x) := List.mem_filter.mpr ⟨(hm w).mpr (by cases e : g w with | none => exact absurd e hw | some _ => rfl), pre_iff.mp p⟩
  rw [h] at this; cases this
theorem max_ex : ∀ {ns : List Int}, ns ≠ [] → ∃ v ∈ ns, ∀ u ∈ ns, u ≤ v
  | [n], _ => ⟨n, by simp, by simp⟩
  | n :: m :: ns, _ => by
    obtain ⟨v, h1, h2⟩ := max_ex (ns := m :: ns) (by simp)
    by_cases c : v ≤ n
    · refine ⟨n, by simp, fun u hu => ?_⟩
      rcases List.mem_cons.mp hu with rfl | hu
      · exact Int.le_refl _
      · exact Int.le_trans (h2 u hu) c
    · refine ⟨v, by simp only [List.mem_cons]; exact .inr (by simpa using h1), fun u hu => ?_⟩
      rcases List.mem_cons.mp hu with rfl | hu
      · omega
      · exact h2 u hu
theorem n_max {K : PySem.W.Frag} {H : Hp} {Q : VK} {L M : List Res} {a : Addr} {ns : List Int} {v : Int} (h : Sep L H) (k : Pick (lis a (ns.map V.int)) L M) (hv : v ∈ ns) (hm : ∀ u ∈ ns, u ≤ v) (q : Q (.int v) H) : rMax K [.ref a] H Q := by
  refine ⟨a, ns, rfl, SqL.of (h.lis k), List.length_pos_of_mem hv, fun g hg hge => ?_⟩
  have : g = v := Int.le_antisymm (hm g hg) (hge v hv)
  subst this; exact q
section
variable {K : PySem.W.Frag} {H : Hp} {Q : VK} {L M F : List Res} {a b : Addr} {ns : List Int} {ss : List Str} {xs : List V} {ds : List PyData}
theorem eqv_nil (ds : List PyData) : PyData.eqv (.list ds) (.list []) = ds.isEmpty := by cases ds <;> simp [PyData.eqv, PyData.eqvAll]
theorem shp_ints (ns : List Int) : SeqAt.shaped (.list (ns.map PyData.int)) = true := by
  refine shaped_of (n := 1) ?_
  simp only [okD]
  exact okDs_map fun e he => by simp [okD]
theorem Sep.dpI (h : Sep L H) (k : Pick (Ah.lis a (ns.map V.int)) L M) : Dp K H (.ref a) (.list (ns.map PyData.int)) := .lst (SqL.of (h.lis k)) (PDs.ints (G := H) ns).dp
/-- xs == [] -/
theorem n_eqIE (h : Sep L H) (k : Pick (lis a (ns.map V.int)) L M) (k2 : Pick (lis b []) L F) (q : Q (.bl ns.isEmpty) H) : rEqD K (.ref a) (.ref b) H Q :=
  ⟨_, _, h.dpI k, h.dpE k2, shp_ints ns, rfl, by rw [eqv_nil]; cases ns <;> exact q⟩
theorem n_neIE (h : Sep L H) (k : Pick (lis a (ns.map V.int)) L M) (k2 : Pick (lis b []) L F) (q : Q (.bl (!ns.isEmpty)) H) : rNeD K (.ref a) (.ref b) H Q :=
  ⟨_, _, h.dpI k, h.dpE k2, shp_ints ns, rfl, by rw [eqv_nil]; cases ns <;> exact q⟩
theorem shp_strs (h : ∀ s ∈ ss, PyData.strOk s = true) : SeqAt.shaped (.list (ss.map PyData.str)) = true := by
  refine shaped_of (n := 1) ?_
  simp only [okD]
  exact okDs_map fun e he => by simp [okD, h e he]
theorem n_eqSE (h : Sep L H) (k : Pick (lis a (ss.map V.str)) L M) (k2 : Pick (lis b []) L F) (ho : ∀ s ∈ ss, isW s = true) (q : Q (.bl ss.isEmpty) H) : rEqD K (.ref a) (.ref b) H Q :=
  ⟨_, _, h.dpS k, h.dpE k2, shp_strs fun s hs => (isW_ok (ho s hs)).2, rfl, by rw [eqv_nil]; cases ss <;> exact q⟩
end
/-! ### halving a dict's worths, one by one -/
def halfK (g : WM) (ks : List Str) (m : Nat) : WM := fun w => if w ∈ ks then (g w).map fun v => v / 2 ^ m else g w
section
variable {g : WM} {ks : List Str} {m j : Nat} {w : Str} {v : Int} {i : Nat}
theorem halfK_nil : halfK g [] m = g := by funext w; unfold halfK; simp
theorem halfK_at (nd : ks.Nodup) (h : ks[i]? = some w) : halfK g (ks.take i) m w = g w := by
  unfold halfK
  rw [if_neg]
  intro hm
  obtain ⟨j, hj, e⟩ := List.mem_iff_getElem.mp hm
  rw [List.length_take] at hj
  rw [List.getElem_take] at e
  obtain ⟨hi2, e2⟩ := List.getElem?_eq_some_iff.mp h
  have := (List.getElem_inj nd).mp (e.trans e2.symm)
  omega
theorem seti_id (h : g w = some v) : seti g w v = g := by
  funext x
  unfold seti
  split
  · rename_i c; rw [c, h]
  · rfl
theorem seti_seti (g : WM) (w : Str) (u v : Int) : seti (seti g w u) w v = seti g w v := by
  funext x; unfold seti; split <;> rfl
theorem halfK_s (h : ks[i]? = some w) (hv : g w = some v) : seti (halfK g (ks.take i) m) w (v / 2 ^ m) = halfK g (ks.take (i + 1)) m := by
  funext x
  rw [take_more h]
  unfold seti halfK
  by_cases c : x = w
  · subst c; rw [if_pos rfl, if_pos (by simp), hv]; rfl
  · rw [if_neg c]
    by_cases d : x ∈ ks.take i
    · rw [if_pos d, if_pos (List.mem_append.mpr (.inl d))]
    · rw [if_neg d, if_neg (by simp [d, c])]
theorem halfK_all (hm : ∀ w, w ∈ ks ↔ (g w).isSome = true) {t : Int} : halfK g ks t.toNat = hv g t := by
  funext w
  unfold halfK hv
  by_cases c : w ∈ ks
  · rw [if_pos c]
  · rw [if_neg c]
    cases e : g w with
    | none => rfl
    | some v => exact absurd ((hm w).mpr (by rw [e]; rfl)) c
/-- no worth above B -/
def Bd (g : WM) (B : Int) : Prop := ∀ w v, g w = some v → v ≤ B
theorem hv_60 {N : Nat} (ok : GOk g N) {B t : Int} (b : Bd g B) (hB : B < 2 ^ 60) : hv g (min t 60) = hv g t := by
  by_cases c : t ≤ 60
  · rw [show min t 60 = t by omega]
  · funext w
    unfold hv
    cases e : g w with
    | none => rfl
    | some v =>
      show some (v / 2 ^ (min t 60).toNat) = some (v / 2 ^ t.toNat)
      have h1 : (2 : Int) ^ 60 ≤ 2 ^ t.toNat := pow2_mono (by omega)
      have v0 := (ok.ok w v e).2
      have vb := b w v e
      rw [show (min t 60).toNat = 60 by omega, Int.ediv_eq_zero_of_lt v0 (by omega), Int.ediv_eq_zero_of_lt v0 (by omega)]
theorem Bd.hv {N : Nat} (ok : GOk g N) {B t : Int} (b : Bd g B) : Bd (Ah.hv g t) B := fun w v h => by
  unfold Ah.hv at h
  cases e : g w with
  | none => rw [e] at h; cases h
  | some u =>
    rw [e] at h
    have : u / 2 ^ t.toNat = v := Option.some.inj h
    rw [← this]
    exact Int.le_trans (Int.ediv_le_self _ (ok.ok w u e).2) (b w u e)
theorem Bd.seti {B c : Int} (b : Bd g B) (h : c ≤ B) : Bd (Ah.seti g w c) B := fun x v e => by
  unfold Ah.seti at e
  by_cases z : x = w
  · rw [if_pos z] at e; rw [← Option.some.inj e]; exact h
  · rw [if_neg z] at e; exact b x v e
theorem Bd.deli {B : Int} (b : Bd g B) : Bd (Ah.deli g w) B := fun x v e => by
  unfold Ah.deli at e
  by_cases z : x = w
  · rw [if_pos z] at e; cases e
  · rw [if_neg z] at e; exact b x v e
theorem Bd.mono {B C : Int} (b : Bd g B) (h : B ≤ C) : Bd g C := fun w v e => Int.le_trans (b w v e) h
end
theorem noTop_new (x : Str) : NoTop (fun _ => none) x := fun _ h => absurd rfl h
theorem Bd.new (B : Int) : Bd (fun _ => none) B := fun _ _ h => nomatch h
theorem vI_new : vI (fun _ => none) = fun _ => none := rfl
theorem tl_cutN (w : Str) (k : Nat) : tl (cutS w none (some (k : Int))) = (tl w).take k := by
  unfold cutS
  rw [tl_mk, HT.sIx_none, HT.sIx_nat, Nat.sub_zero, List.drop_zero]
  rw [List.take_eq_take_iff, len_tl w, Nat.min_assoc, Nat.min_self]
theorem cutN_len (w : Str) (k : Nat) : (cutS w none (some (k : Int))).length ≤ k := by
  rw [len_tl, tl_cutN, List.length_take]; omega
section
variable {g : WM} {N : Nat} {b : Str} {many : Int}
theorem told_nil (ok : GOk g N) (hm : 1 ≤ many) (h : toldOf g b many = []) : NoTop g b := fun w hw p => by
  obtain ⟨v, e⟩ : ∃ v, g w = some v := by cases e : g w with | none => exact absurd e hw | some v => exact ⟨v, rfl⟩
  have hf : (w, v) ∈ (fits g b).mergeSort leR := mem_best.mpr ((mem_fits ok).mpr ⟨e, p⟩)
  unfold toldOf bestOf at h
  cases hs : (fits g b).mergeSort leR with
  | nil => rw [hs] at hf; cases hf
  | cons a l =>
    rw [hs, show many.toNat = (many.toNat - 1) + 1 by omega, List.take_succ_cons] at h
    cases h
theorem told_top (ok : GOk g N) {e : RW} {r : List RW} (h : toldOf g b many = e :: r) : IsTop g b e.2 := by
  obtain ⟨h1, h2⟩ := mem_told ok (show e ∈ toldOf g b many by rw [h]; simp)
  refine ⟨⟨e.1, h1, h2⟩, fun w u hw p => ?_⟩
  have hf : (w, u) ∈ (fits g b).mergeSort leR := mem_best.mpr ((mem_fits ok).mpr ⟨hw, p⟩)
  have hp : ((fits g b).mergeSort leR).Pairwise fun a b => leR a b = true := List.pairwise_mergeSort leR_trans leR_total _
  unfold toldOf bestOf at h
  cases hs : (fits g b).mergeSort leR with
  | nil => rw [hs] at hf; cases hf
  | cons a l =>
    rw [hs] at h hf hp
    have ea : a = e := by
      cases hmn : many.toNat with
      | zero => rw [hmn, List.take_zero] at h; cases h
      | succ k => rw [hmn, List.take_succ_cons] at h; exact (List.cons.inj h).1
    subst ea
    rcases List.mem_cons.mp hf with z | z
    · have : u = a.2 := congrArg Prod.snd z
      rw [this]; exact Int.le_refl _
    · have := (List.pairwise_cons.mp hp).1 _ z
      unfold leR at this
      simp only [Bool.or_eq_true, Bool.and_eq_true, decide_eq_true_eq] at this
      rcases this with q | ⟨q, _⟩
      · exact Int.le_of_lt q
      · exact Int.le_of_eq q.symm
end
/-- the words that begin so, sorted: from a dict's keys in whatever order -/
theorem told_of {g : WM} {N : Nat} (ok : GOk g N) {ks : List Str} (nd : ks.Nodup) (hm : ∀ w, w ∈ ks ↔ (g w).isSome = true) (b : Str) (many : Int) : (((ks.filter (preB b)).map (rtd g)).mergeSort leR).take many.toNat = toldOf g b many := by
  unfold toldOf bestOf
  rw [sort_perm (fits_perm ok nd hm)]
/-! ### lists of texts sorted -/
section
variable {K : PySem.W.Frag} {H : Hp} {Q : VK} {L M : List Res} {a : Addr} {ss : List Str}
theorem pair_strs : ∀ ss : List Str, Paired (fun x e => PD H x (PyData.str e)) (ss.map V.str) ss
  | [] => .nil
  | s :: ss => .cons (.str s) (pair_strs ss)
theorem n_sortS (h : Sep L H) (k : Pick (lis a (ss.map V.str)) L M) (q : ∀ (p : Addr) (H' : Hp), Sep (lis p ((ss.mergeSort leS).map V.str) :: L) H' → Q (.ref p) H') : rSortD K [.ref a] H Q := by
  refine ⟨Str, a, ss.map V.str, ss, PyData.str, fun x e => PD H x (PyData.str e), rfl, SqL.of (h.lis k), pair_strs ss, fun _ _ z => z.dp, alike_strs ss, sortable_strs ss, fun b _ => by simp [PyData.depth], fun zs p hz hp => ?_⟩
  have e : zs = (ss.mergeSort leS).map V.str := PDs.ofStrs (pds_of_pair (H := H) hz)
  subst e
  exact q p _ (h.newL hp)
theorem eqv_strs {ss : List Str} (h : ∀ s ∈ ss, PyData.strOk s = true) : PyData.eqv (.list (ss.map PyData.str)) (.list (ss.map PyData.str)) = true := by
  refine eqv_same (n := 1) ?_
  simp only [okD]
  exact okDs_map fun e he => by simp [okD, h e he]
end
theorem nodup_len : ∀ (l m : List Str), l.Nodup → (∀ y ∈ l, y ∈ m) → l.length ≤ m.length := by
  intro l
  induction l with
  | nil => intros; exact Nat.zero_le _
  | cons a l ih =>
    intro m hnd hs
    rw [List.nodup_cons] at hnd
    obtain ⟨m1, m2, rfl⟩ := List.append_of_mem (hs a (by simp))
    have := ih (m1 ++ m2) hnd.2 fun y hy => by
      have h2 := hs y (by simp [hy])
      rcases List.mem_append.mp h2 with q | q
      · exact List.mem_append.mpr (.inl q)
      · rcases List.mem_cons.mp q with q | q
        · subst q; exact absurd hy hnd.1
        · exact List.mem_append.mpr (.inr q)
    simp only [List.length_append, List.length_cons] at this ⊢; omega
/-- the last item -/
theorem PDs.atLast {H : Hp} {α : Type} {f : α → PyData} {zs : List V} {l : List α} (h : PDs H zs (l.map f)) (hne : l ≠ []) : ∃ e x, e ∈ l ∧ l.getLast? = some e ∧ atI zs (-1) = some x ∧ PD H x (f e) := by
  rcases List.eq_nil_or_concat zs with rfl | ⟨zs, x, rfl⟩
  · have := h.length
    rw [List.length_map] at this
    exact absurd (List.length_eq_zero_iff.mp this.symm) hne
  · rw [List.concat_eq_append] at h ⊢
    obtain ⟨e, he, hp⟩ := h.item (i := zs.length) (x := x) (by rw [List.getElem?_append_right (Nat.le_refl _), Nat.sub_self]; rfl)
    have hl : l.length = zs.length + 1 := by
      have := h.length
      rw [List.length_map, List.length_append, List.length_singleton] at this; omega
    exact ⟨e, x, List.mem_of_getElem? he, by rw [List.getLast?_eq_getElem?, hl]; exact he, atI_last _ _, hp⟩
end Ah
set_option Elab.async false
set_option linter.all false
set_option maxRecDepth 100000
set_option maxHeartbeats 4000000
/-! the third family of the laws' helpers: pools of words -/
namespace Ah
open PySem PySem.Spec PyProof.Rows L2 TL
section
variable {K : PySem.W.Frag} {g : TG} {tt : TT} {te : TE} {σ : L2.St} {H : Hp} {L M F : List Res} {vs : List Nat} {Qd : Addr → Hp → Prop} {lo : Int} {n : Nat}
/-- a comprehension over a range whose items are drawn -/
theorem n_lcR (I : Nat → List PyData → Prop) (h : Sep L H) (i0 : I 0 [])
    (hs : ∀ i ds D zs H', i < n → I i ds → Sep (lisD D zs ds :: L) H' → g (.int (lo + i)) (wipe σ vs) H' fun σ2 H2 => wipe σ2 vs = wipe σ vs ∧ tt σ2 H2 fun b H3 =>
      if b = true then te σ2 H3 fun y H4 => ∃ acc, H4 D = some (.lst acc) ∧ acc.length < sizeLine ∧ (∃ ds', I (i + 1) ds' ∧ LC D L ds' (upd H4 D (.lst (acc ++ [y])))) else ∃ ds', I (i + 1) ds' ∧ LC D L ds' H3)
    (hd : ∀ ds D zs H', I n ds → Sep (lisD D zs ds :: L) H' → Qd D H') :
    ∀ D, H D = none → ∃ W : Nat → Nat → Hp → Prop, (∃ m, W 0 m (upd H D (.lst []))) ∧ ∀ i m H, W i m H →
      ((Itr lo n).stop i H ∧ Qd D H) ∨ ((Itr lo n).go i H ∧ ∃ Nx : Hp → Prop, (∀ H', Nx H' → ∃ m', m' < m ∧ W (i + 1) m' H') ∧ ∀ x H', (Itr lo n).yld i H x H' → g x (wipe σ vs) H' fun σ2 H2 => wipe σ2 vs = wipe σ vs ∧ tt σ2 H2 fun b H3 =>
        if b = true then te σ2 H3 fun y H4 => ∃ acc, H4 D = some (.lst acc) ∧ acc.length < sizeLine ∧ Nx (upd H4 D (.lst (acc ++ [y]))) else Nx H3) := fun D hD =>
  lc_range (lo := lo) (n := n) (fun i H => ∃ ds, I i ds ∧ LC D L ds H) ⟨[], i0, LC.begin h hD⟩ (fun i H hi ⟨ds, p, zs, z⟩ => hs i ds D zs H hi p z) fun H ⟨ds, p, zs, z⟩ => hd ds D zs H p z
theorem LC.putE {D : Addr} {zs : List V} {ds : List PyData} {y : V} {d : PyData} {P : List PyData → Prop} (h : Sep M H) (s : Spl (lisD D zs ds :: L) M F) (hy : PD H y d) (e : P (ds ++ [d])) (l : ds.length < sizeLine) :
    ∃ acc, H D = some (.lst acc) ∧ acc.length < sizeLine ∧ ∃ ds', P ds' ∧ LC D L ds' (upd H D (.lst (acc ++ [y]))) := by
  obtain ⟨acc, h1, h2, h3⟩ := LC.put h s hy rfl l
  exact ⟨acc, h1, h2, _, e, h3⟩
end
/-- a word and one part more -/
theorem spA_more2 : ∀ (l acc m : List Nat), spA acc (l ++ 32 :: m) = spA acc l ++ spA [] m
  | [], acc, m => by simp [spA]
  | d :: l, acc, m => by
    by_cases e : d = 32
    · subst e
      show spA acc (32 :: (l ++ 32 :: m)) = _
      simp only [spA, if_pos]
      rw [spA_more2 l [] m]; rfl
    · show spA acc (d :: (l ++ 32 :: m)) = _
      simp only [spA, if_neg e]
      exact spA_more2 l (acc ++ [d]) m
theorem word_part {l p : List Nat} (h : wordL l = true) (hp : partL p = true) (hl : (l ++ 32 :: p).length ≤ 24) (h4 : (spA [] l).length + 1 ≤ 4) : wordL (l ++ 32 :: p) = true ∧ (spA [] (l ++ 32 :: p)).length = (spA [] l).length + 1 := by
  have h32 : 32 ∉ p := fun hm => by
    have := partL_low hp 32 hm
    unfold low at this
    simp at this
  have e : spA [] (l ++ 32 :: p) = spA [] l ++ [p] := by rw [spA_more2 l [] p, spA_one h32]
  unfold wordL at h ⊢
  simp only [Bool.and_eq_true, decide_eq_true_eq, List.all_eq_true] at h ⊢
  rw [e]
  refine ⟨⟨⟨hl, by rw [List.length_append, List.length_singleton]; exact h4⟩, fun q hq => ?_⟩, by rw [List.length_append, List.length_singleton]⟩
  rcases List.mem_append.mp hq with hq | hq
  · exact h.2 q hq
  · rw [List.mem_singleton.mp hq]; exact hp
theorem part_word {p : List Nat} (hp : partL p = true) : wordL p = true ∧ (spA [] p).length = 1 := by
  have h32 : 32 ∉ p := fun hm => by
    have := partL_low hp 32 hm
    unfold low at this
    simp at this
  have hl : p.length ≤ 12 := by
    unfold partL at hp
    simp only [Bool.and_eq_true, decide_eq_true_eq] at hp
    exact hp.1.2
  unfold wordL
  simp only [Bool.and_eq_true, decide_eq_true_eq, List.all_eq_true]
  rw [spA_one h32]
  refine ⟨⟨⟨by omega, by simp⟩, fun q hq => ?_⟩, rfl⟩
  rw [List.mem_singleton.mp hq]; exact hp
/-- four numbers are a box -/
theorem ent_box4 {a : Addr} {x0 x1 x2 x3 : Int} : Ent (lis a [.int x0, .int x1, .int x2, .int x3]) (box a) := fun G S (hS : (lis a [.int x0, .int x1, .int x2, .int x3]).p G S) => ⟨S, ⟨hS.1, by
  obtain ⟨_, u, e, e2⟩ := hS
  exact ⟨u, e, x0, x1, x2, x3, e2⟩⟩, fun _ z => z⟩
section
variable {K : PySem.W.Frag} {g : TG} {tb : TS} {D : Ends} {σ : L2.St} {H : Hp} {R : Res} {L F : List Res} {a : Addr} {xs : List V}
/-- for i, x in enumerate(list) -/
theorem n_forE [l : Lists K R a xs] (I : Nat → L2.St → List Res → Prop) (h : Sep L H) (s : Spl [R] L F) (i0 : I 0 σ F)
    (hs : ∀ i x T σ M H, xs[i]? = some x → I i σ M → Sep (tpl T [.int (i : Nat), x] :: R :: M) H → g (.ref T) σ H fun σ2 H2 => tb { D with nx := LI R I (i + 1), ct := LI R I (i + 1), bk := D.nx } σ2 H2)
    (hd : ∀ σ M H, I xs.length σ M → Sep (R :: M) H → D.nx σ H) :
    ∃ a' ys, [V.ref a] = [V.ref a'] ∧ SqL K H a' ys ∧ ∃ W : Nat → Nat → L2.St → Hp → Prop, (∃ m, W 0 m σ H) ∧ ∀ i m σ H, W i m σ H →
      ((Ite K a').stop i H ∧ D.nx σ H) ∨ ((Ite K a').go i H ∧ ∃ N : L2.St → Hp → Prop, (∀ σ' H', N σ' H' → ∃ m', m' < m ∧ W (i + 1) m' σ' H') ∧ ∀ x H', (Ite K a').yld i H x H' → g x σ H' fun σ2 H2 => tb { D with nx := N, ct := N, bk := D.nx } σ2 H2) := by
  have h1 := h.spl s
  refine ⟨a, xs, rfl, h1.sq (R := R) .here, fun i m σ H => m = xs.length - i ∧ i ≤ xs.length ∧ LI R I i σ H, ⟨xs.length, by simp, Nat.zero_le _, ⟨F, i0, h1⟩⟩, ?_⟩
  rintro i m σ H ⟨rfl, hi, p⟩
  obtain ⟨M, pI, z⟩ := p
  have q : SqL K H a xs := z.sq (R := R) .here
  by_cases hlt : i < xs.length
  · refine .inr ⟨⟨xs, xs[i], q, by simp [hlt]⟩, LI R I (i + 1), fun σ' H' p' => ⟨xs.length - (i + 1), by omega, rfl, hlt, p'⟩, fun x H' y => ?_⟩
    obtain ⟨T, x', rfl, hT, rfl, y⟩ := y
    exact hs i x' T σ M _ (y xs q) pI (z.newTp hT)
  · have e : i = xs.length := by omega
    subst e
    exact .inl ⟨⟨xs, q, Nat.le_refl _⟩, hd σ M H pI z⟩
end
end Ah
set_option Elab.async false
set_option linter.all false
set_option maxRecDepth 100000
set_option maxHeartbeats 4000000
/-! two values that are the same through and through: lists, tuples, plain ones -/
namespace Ah
open PySem PySem.Spec PyProof.Rows L2 TL
/-- law's: a list of at most 63 ints is handed in, True comes out -/
def spLaw (K : PySem.W.Frag) : Sp := fun vs H Q _ => ∃ (a : Addr) (ns : List Int), vs = [.ref a] ∧ SqL K H a (ns.map V.int) ∧ ns.length ≤ 63 ∧ ∀ H', Q (.bl true) H'
def SameU (K : PySem.W.Frag) : Nat → List Res → V → V → Prop
  | 0, _, _, _ => False
  | n + 1, L, u, v => (u = v ∧ (u = .non ∨ (∃ b, u = .bl b) ∨ (∃ i, u = .int i) ∨ ∃ s, u = .str s)) ∨
    ∃ (a b : Addr) (us vs : List V), u = .ref a ∧ v = .ref b ∧ us.length = vs.length ∧ us.length ≤ 100000 ∧
      ((∀ H, Sep L H → H a = some (.lst us) ∧ H b = some (.lst vs)) ∨ (∀ H, Sep L H → H a = some (.tup us) ∧ H b = some (.tup vs))) ∧
      ∀ (i : Nat) (x y : V), us[i]? = some x → vs[i]? = some y → SameU K n L x y
theorem SameU.more {K : PySem.W.Frag} {L L' : List Res} (m : ∀ H, Sep L' H → Sep L H) : ∀ {n : Nat} {u v : V}, SameU K n L u v → SameU K n L' u v
  | 0, _, _, h => h
  | n + 1, u, v, h => by
    rcases h with h | ⟨a, b, us, vs, e1, e2, hl, hn, ho, hi⟩
    · exact .inl h
    · refine .inr ⟨a, b, us, vs, e1, e2, hl, hn, ?_, fun i x y h1 h2 => SameU.more m (hi i x y h1 h2)⟩
      rcases ho with ho | ho
      · exact .inl fun H h => ho H (m H h)
      · exact .inr fun H h => ho H (m H h)
/-- the same: True -/
def spSame (K : PySem.W.Frag) (n : Nat) : Sp := fun vs H Q _ => ∃ (u v : V) (L : List Res), vs = [u, v] ∧ Sep L H ∧ SameU K n L u v ∧ ∀ H', Sep L H' → Q (.bl true) H'
section
variable {K : PySem.W.Frag} {L F F' M : List Res} {H : Hp} {Q : VK} {E : XK} {u v : V} {n : Nat} {a b : Addr} {xs ys : List V} {es : List RW} {ss : List Str}
theorem c_same (h : Sep L H) (s : SameU K n L u v) (q : ∀ H', Sep L H' → Q (.bl true) H') : spSame K n [u, v] H Q E := ⟨u, v, L, rfl, h, s, q⟩
theorem same_non : SameU K (n + 1) L .non .non := .inl ⟨rfl, .inl rfl⟩
theorem same_bl {b : Bool} : SameU K (n + 1) L (.bl b) (.bl b) := .inl ⟨rfl, .inr (.inl ⟨_, rfl⟩)⟩
theorem same_int {i : Int} : SameU K (n + 1) L (.int i) (.int i) := .inl ⟨rfl, .inr (.inr (.inl ⟨_, rfl⟩))⟩
theorem same_str {s : Str} : SameU K (n + 1) L (.str s) (.str s) := .inl ⟨rfl, .inr (.inr (.inr ⟨_, rfl⟩))⟩
theorem same_list (h1 : Pick (lis a xs) L F) (h2 : Pick (lis b ys) L F') (hl : xs.length = ys.length) (hn : xs.length ≤ 100000) (hi : ∀ (i : Nat) (x y : V), xs[i]? = some x → ys[i]? = some y → SameU K n L x y) : SameU K (n + 1) L (.ref a) (.ref b) :=
  .inr ⟨a, b, xs, ys, rfl, rfl, hl, hn, .inl fun H h => ⟨h.lis h1, h.lis h2⟩, hi⟩
theorem same_strs (h1 : Pick (lis a (ss.map V.str)) L F) (h2 : Pick (lis b (ss.map V.str)) L F') (hn : ss.length ≤ 100000) : SameU K (n + 2) L (.ref a) (.ref b) :=
  same_list h1 h2 rfl (by rw [List.length_map]; exact hn) fun i x y e1 e2 => by
    obtain ⟨s, _, rfl⟩ := map_get e1
    have e3 := e1.symm.trans e2
    cases e3
    exact same_str
theorem same_texts {α : Type} {f : α → Str} {l : List α} (h1 : Pick (lis a (l.map fun e => V.str (f e))) L F) (h2 : Pick (lis b (l.map fun e => V.str (f e))) L F') (hn : l.length ≤ 100000) : SameU K (n + 2) L (.ref a) (.ref b) :=
  same_list h1 h2 rfl (by rw [List.length_map]; exact hn) fun i x y e1 e2 => by
    obtain ⟨s, _, rfl⟩ := map_get e1
    have e3 := e1.symm.trans e2
    cases e3
    exact same_str
theorem same_pair {s : Str} {i : Int} {a b : Addr} (h1 : ∀ H, Sep L H → H a = some (.tup [.str s, .int i])) (h2 : ∀ H, Sep L H → H b = some (.tup [.str s, .int i])) : SameU K (n + 2) L (.ref a) (.ref b) :=
  .inr ⟨a, b, _, _, rfl, rfl, rfl, by simp, .inr fun H h => ⟨h1 H h, h2 H h⟩, fun i x y e1 e2 => by
    have e3 := e1.symm.trans e2
    cases e3
    match i, e1 with
    | 0, e1 => cases e1; exact same_str
    | 1, e1 => cases e1; exact same_int
    | i + 2, e1 => simp at e1⟩
theorem same_tup2 {p q : Addr} {x1 x2 y1 y2 : V} (h1 : Pick (tpl p [x1, x2]) L F) (h2 : Pick (tpl q [y1, y2]) L F') (s1 : SameU K n L x1 y1) (s2 : SameU K n L x2 y2) : SameU K (n + 1) L (.ref p) (.ref q) :=
  .inr ⟨p, q, [x1, x2], [y1, y2], rfl, rfl, rfl, by simp, .inr fun H h => ⟨h.tpl h1, h.tpl h2⟩, fun i x y e1 e2 => by
    match i, e1, e2 with
    | 0, e1, e2 => cases e1; cases e2; exact s1
    | 1, e1, e2 => cases e1; cases e2; exact s2
    | i + 2, e1, _ => simp at e1⟩
theorem same_rated (h : Sep L H) (h1 : Pick (lisD a xs (es.map dP)) L F) (h2 : Pick (lisD b ys (es.map dP)) L F') (hn : es.length ≤ 100000) : SameU K (n + 3) L (.ref a) (.ref b) := by
  have l1 := (h.pds h1).length
  have l2 := (h.pds h2).length
  rw [List.length_map] at l1 l2
  refine .inr ⟨a, b, xs, ys, rfl, rfl, by omega, by omega, .inl fun H h => ⟨h.lisD h1, h.lisD h2⟩, fun i x y e1 e2 => ?_⟩
  obtain ⟨e, g1, p1⟩ := (h.pds h1).item e1
  obtain ⟨e', g2, p2⟩ := (h.pds h2).item e2
  have : e = e' := Option.some.inj (g1.symm.trans g2)
  subst this
  obtain ⟨t, rfl, _⟩ := dP_inv2 p1
  obtain ⟨t', rfl, _⟩ := dP_inv2 p2
  refine same_pair (s := e.1) (i := e.2) (fun G hG => ?_) (fun G hG => ?_)
  · obtain ⟨e', g3, p3⟩ := (hG.pds h1).item e1
    have : e = e' := Option.some.inj (g1.symm.trans g3)
    subst this
    obtain ⟨t2, e4, p4⟩ := dP_inv2 p3
    cases e4; exact p4
  · obtain ⟨e', g3, p3⟩ := (hG.pds h2).item e2
    have : e = e' := Option.some.inj (g2.symm.trans g3)
    subst this
    obtain ⟨t2, e4, p4⟩ := dP_inv2 p3
    cases e4; exact p4
/-! steps -/
theorem ix_seqK {X : Cx} (hK : X.K = K) : IxR X (rIx K) := hK ▸ ix_seq
theorem s_isiTL {x : V} {tp : Addr} {t : String} {b1 b2 : Bool} (hT : H tp = some (.tup [.ty "tuple", .ty "list"])) (ty : TyX K H x (.type t)) (h1 : kitB t "tuple" = some b1) (h2 : kitB t "list" = some b2) (q : Q (.bl (b1 || b2)) H) : rIsiT K [x, .ref tp] H Q :=
  ⟨x, tp, _, .type t, [.type "tuple", .type "list"], b1 || b2, rfl, hT, .cons (.ty _) (.cons (.ty _) .nil), ty, by
    have e1 : PySem.W.kitOne K (.type t) (.type "tuple") = some b1 := kit_ty h1
    have e2 : PySem.W.kitOne K (.type t) (.type "list") = some b2 := kit_ty h2
    unfold PySem.W.kitAny
    rw [e1]
    cases b1
    · show PySem.W.kitAny K _ _ = _
      unfold PySem.W.kitAny
      rw [e2]
      cases b2 <;> rfl
    · rfl, q⟩
theorem PDs.bools : ∀ {zs : List V} {b : Bool} {n : Nat}, PDs H zs (List.replicate n (.bool b)) → zs = List.replicate n (.bl b)
  | _, _, 0, .nil => rfl
  | _, _, n + 1, .cons a t => by rw [PD.ofBl a, PDs.bools t]; rfl
theorem PDs.notFalse {zs : List V} {m : Nat} (h : PDs H zs (List.replicate m (.bool true))) : zs.all flatV = true ∧ inV (.bl false) zs = false := by
  rw [h.bools]
  refine ⟨?_, ?_⟩
  · rw [List.all_eq_true]
    intro x hx
    rw [(List.mem_replicate.mp hx).2]; rfl
  · unfold inV
    rw [List.any_eq_false]
    intro x hx
    rw [(List.mem_replicate.mp hx).2]
    simp [eqV]
theorem atI_nat' {α : Type} {l : List α} {i : Nat} {v : α} (h : l[i]? = some v) : atI l (0 + (i : Int)) = some v := by rw [Int.zero_add]; exact atI_nat h
end
/-! max(list, default=None) -/
def rMaxDf (K : PySem.W.Frag) : List V → List V → Hp → VK → Prop := fun vs zs H Q => ∃ (a : Addr) (ns : List Int), vs = [V.ref a] ∧ zs = [V.non] ∧ SqL K H a (ns.map V.int) ∧ (ns = [] → Q .non H) ∧ ∀ m, m ∈ ns → (∀ y, y ∈ ns → y ≤ m) → Q (.int m) H
theorem alike_ints (ns : List Int) : PySem.W.AlikeAll (ns.map PyData.int) := ⟨fun x hx y hy => by
  obtain ⟨i, _, rfl⟩ := List.mem_map.mp hx
  obtain ⟨j, _, rfl⟩ := List.mem_map.mp hy
  rfl, fun x hx => by
  obtain ⟨i, _, rfl⟩ := List.mem_map.mp hx
  exact fun z => nomatch z⟩
theorem depth_ints : ∀ ns : List Int, PyData.depthAll (ns.map PyData.int) ≤ 10
  | [] => Nat.zero_le _
  | n :: ns => by
    show max (PyData.depth (.int n)) (PyData.depthAll (ns.map PyData.int)) ≤ 10
    have := depth_ints ns
    have e : PyData.depth (.int n) ≤ 10 := by simp [PyData.depth]
    omega
theorem foldl_max (n : Int) : ∀ ns : List Int, (ns.foldl max n ∈ n :: ns) ∧ ∀ y ∈ n :: ns, y ≤ ns.foldl max n := fun ns => by
  induction ns generalizing n with
  | nil => exact ⟨List.mem_singleton.mpr rfl, fun y hy => by rw [List.mem_singleton.mp hy]; exact Int.le_refl _⟩
  | cons a l ih =>
    obtain ⟨h1, h2⟩ := ih (max n a)
    rw [List.foldl_cons]
    have h0 := h2 (max n a) (List.mem_cons_self)
    refine ⟨?_, fun y hy => ?_⟩
    · rcases List.mem_cons.mp h1 with e | e
      · rw [e]
        rcases Int.le_total n a with z | z
        · rw [Int.max_eq_right z]; exact List.mem_cons_of_mem _ (List.mem_cons_self)
        · rw [Int.max_eq_left z]; exact List.mem_cons_self
      · exact List.mem_cons_of_mem _ (List.mem_cons_of_mem _ e)
    · rcases List.mem_cons.mp hy with rfl | hy
      · omega
      · rcases List.mem_cons.mp hy with rfl | hy
        · omega
        · exact h2 y (List.mem_cons_of_mem _ hy)
theorem cr_maxDf {X : Cx} (hc : X.calm = true) (hu : X.A.units + 64 < cLine) : CallRK X (.builtin "max") ["default"] (rMaxDf X.K) := by
  intro pins s σ H vs zs us ws Q I r rz h
  obtain ⟨a, ns, rfl, rfl, hS, q0, q⟩ := h
  obtain ⟨its, rv, hl, hz⟩ := I.list hS
  obtain ⟨u, rfl, ru⟩ := vals1 r
  cases ru
  obtain ⟨u2, rfl, ru2⟩ := vals1 rz
  cases (show u2 = Value.none from ru2)
  obtain ⟨as, hr⟩ := Dp.readsAll I (ns.map PyData.int) (ns.map V.int) its (PDs.ints (G := H) ns).dp rv
  show wpAny _ _ (call (.builtin "max") [.ref a] [(Str.ofString "default", .none)]) _ _ _
  have hd := depth_ints ns
  refine PySem.W.max_list_default (I.ok.hd hc) hl.isList hr (alike_ints ns) (by omega) (fun hz h' tk hk => ?_) (fun y ys i v h' tk bs e hv hm hk => ?_)
  · have hn : ns = [] := by
      cases ns with
      | nil => rfl
      | cons => cases hz
    exact ⟨.non, H, I.kept hk, rfl, q0 hn⟩
  · cases ns with
    | nil => cases e
    | cons n ns =>
      rw [List.map_cons] at e
      obtain ⟨rfl, rfl⟩ := List.cons.inj e
      rw [PySem.W.maxD_ints] at hm
      obtain ⟨h1, h2⟩ := foldl_max n ns
      cases hm with
      | int i t => exact ⟨.int _, H, I.kept hk, ⟨t, rfl⟩, q _ h1 h2⟩
/-- max(list, default=None): one whole number behind -/
theorem pe_maxDf {X : Cx} {e k : Expr} {p pos kpos : Pos} {ta tk : TE} (hc : X.calm = true) (hu : X.A.units + 64 < cLine) (hm : X.mg "max" = none) (ha : PE X e ta) (hk : PE X k tk) (hg : Gl X "max" := by rfl) (hs : starEach [e] X.env = (false, eval e X.env) :: starEach [] X.env := by rfl)
    (he : backTo pos (starEach [e] X.env) = (false, eval e X.env) :: backTo pos (starEach [] X.env) := by rfl) (hpl : (backTo pos (starEach [e] X.env)).any (·.1) = false := by rfl) :
    PE X (.Call (.Name "max" p) [e] [⟨some "default", k, kpos⟩] pos) (tCKw (rMaxDf X.K) (tCons ta tNil) (tCons tk tNil)) :=
  pe_callBK (cr_maxDf hc hu) hg hm (by decide +kernel) (pa_cons ha pa_nil hs) (pk_cons hk pk_nil) (by decide) (by decide) he hpl rfl rfl rfl
theorem u_kw {r : List V → List V → Hp → VK → Prop} {t tk : TA} {σ : L2.St} {H : Hp} {Q : VK} (k : t σ H fun vs H1 => tk σ H1 fun zs H2 => r vs zs H2 Q) : tCKw r t tk σ H Q := k
instance iu_kw {r : List V → List V → Hp → VK → Prop} {t tk : TA} {σ : L2.St} {H : Hp} {Q : VK} : US (tCKw r t tk σ H Q) (t σ H fun vs H1 => tk σ H1 fun zs H2 => r vs zs H2 Q) := ⟨u_kw⟩
end Ah
set_option Elab.async false
set_option linter.all false
set_option maxRecDepth 100000
set_option maxHeartbeats 4000000
/-! texts of rated words; dicts of worths, key by key -/
namespace Ah
open PySem PySem.Spec PyProof.Rows L2 TL
/-- a rated word's text -/
def rText (e : Str × Int) : Str := Str.ofString (toString e.2) ++ Str.ofString " " ++ e.1
/-- the texts of a wood -/
noncomputable def tOf (g : WM) : List Str := (rOf g).map rText
theorem tOf_V (g : WM) : ((rOf g).map fun e => V.str (rText e)) = (tOf g).map V.str := by unfold tOf; rw [List.map_map]; rfl
theorem rText_ok {e : Str × Int} (h0 : 0 ≤ e.2) (hw : isW e.1 = true) : PyData.strOk (rText e) = true := by
  obtain ⟨n, hn⟩ := Int.eq_ofNat_of_zero_le h0
  refine strOk_iff.mpr fun c hc => ?_
  unfold rText at hc
  rw [TL.tl_append, TL.tl_append, hn, TL.tl_num] at hc
  rcases List.mem_append.mp hc with hc | hc
  · rcases List.mem_append.mp hc with hc | hc
    · have := TL.numL_digits n c hc; omega
    · rw [tl_blank, List.mem_singleton] at hc; omega
  · exact strOk_iff.mp (isW_ok hw).2 c hc
theorem log_62 {j : Int} (h0 : 0 ≤ j) (h : j < 2 ^ 62) : j.natAbs.log2 < 1920 := by
  by_cases h1 : j.natAbs = 0
  · rw [h1]; decide
  · have h2 : j.natAbs < 2 ^ 62 := by
      have : ((2 : Int) ^ 62) = ((2 ^ 62 : Nat) : Int) := by norm_cast
      omega
    exact Nat.lt_trans ((Nat.log2_lt h1).mpr h2) (by decide)
section
variable {K : PySem.W.Frag} {H : Hp} {Q : VK} {L M F F' : List Res} {a b C p : Addr} {g : WM} {N N0 : Nat} {w x : Str} {ks : List Str} {i : Nat} {v n : Int}
theorem GOk.tok (ok : GOk g N) : ∀ s ∈ tOf g, PyData.strOk s = true := fun s hs => by
  obtain ⟨e, he, rfl⟩ := List.mem_map.mp hs
  have := ok.ok _ _ (ok.mem.mp he)
  exact rText_ok this.2 this.1
theorem GOk.tlen (ok : GOk g N) : (tOf g).length ≤ N := by unfold tOf; rw [List.length_map]; exact ok.len
theorem GOk.shpX (ok : GOk g N) : SeqAt.shaped (.list ((tOf g).map PyData.str)) = true := shp_strs ok.tok
theorem GOk.eqvX (ok : GOk g N) : PyData.eqv (.list ((tOf g).map PyData.str)) (.list ((tOf g).map PyData.str)) = true := eqv_strs ok.tok
/-- a dict with the same keys: how many -/
theorem Sep.gokD (h : Sep L H) (k : Pick (Ah.dic a (vI g) N) L F) (ok : GOk g N0) : GOk g N := by
  obtain ⟨ks, t, hl⟩ := h.dic k
  exact ⟨⟨ks, t.nd, fun w => by rw [t.mem, vI_is], hl⟩, ok.ok⟩
/-- a dict's first keys -/
def partK (g : WM) (ks : List Str) (i : Nat) : WM := fun w => if w ∈ ks.take i then g w else none
theorem partK_0 : partK g ks 0 = fun _ => none := by funext w; unfold partK; simp
theorem partK_s (h : ks[i]? = some w) (e : g w = some v) : partK g ks (i + 1) = seti (partK g ks i) w v := by
  funext x
  unfold partK seti
  rw [take_more h]
  by_cases c : x = w
  · subst c; rw [if_pos rfl, if_pos (by simp), e]
  · rw [if_neg c]
    show _ = if x ∈ ks.take i then g x else none
    by_cases d : x ∈ ks.take i
    · rw [if_pos d, if_pos (List.mem_append.mpr (.inl d))]
    · rw [if_neg d, if_neg (by simp [d, c])]
theorem partK_at (nd : ks.Nodup) (h : ks[i]? = some w) : partK g ks i w = none := by
  unfold partK
  rw [if_neg]
  intro hm
  obtain ⟨j, hj, e⟩ := List.mem_iff_getElem.mp hm
  rw [List.length_take] at hj
  rw [List.getElem_take] at e
  obtain ⟨hi2, e2⟩ := List.getElem?_eq_some_iff.mp h
  have := (List.getElem_inj nd).mp (e.trans e2.symm)
  omega
theorem partK_all (h : ∀ w, w ∈ ks ↔ (g w).isSome = true) : partK g ks ks.length = g := by
  funext x
  unfold partK
  rw [List.take_of_length_le (Nat.le_refl _)]
  by_cases c : x ∈ ks
  · rw [if_pos c]
  · rw [if_neg c]
    cases e : g x with
    | none => rfl
    | some v => exact absurd ((h x).mpr (by rw [e]; rfl)) c
/-- the greatest of a dict's worths, or None: the top of no signs -/
theorem n_maxTop (h : Sep L H) (hm : ∀ w, w ∈ ks ↔ (g w).isSome = true) (k : Pick (lis a ((ks.map fun w => (g w).getD 0).map V.int)) L F) (q : Q (topV g (Str.ofString "")) H) : rMaxDf K [.ref a] [.non] H Q := by
  have pe : ∀ w : Str, TL.tl (Str.ofString "") <+: TL.tl w := fun w => by
    rw [show TL.tl (Str.ofString "") = [] from by decide +kernel]; exact List.nil_prefix
  refine ⟨a, _, rfl, rfl, SqL.of (h.lis k), fun e => ?_, fun m hmm hmax => ?_⟩
  · have hk : ks = [] := by simpa using e
    rw [topV_no] at q
    · exact q
    · intro w hw _
      have := (hm w).mpr (by cases z : g w with | none => exact absurd z hw | some v => rfl)
      rw [hk] at this; cases this
  · rw [topV_is (v := m)] at q
    · exact q
    · obtain ⟨w, hw, rfl⟩ := List.mem_map.mp hmm
      obtain ⟨v, e⟩ := Option.isSome_iff_exists.mp ((hm w).mp hw)
      rw [e]
      refine ⟨⟨w, e, pe w⟩, fun x u eu _ => ?_⟩
      have := hmax _ (List.mem_map.mpr ⟨x, (hm x).mpr (by rw [eu]; rfl), rfl⟩)
      rw [e, eu] at this; exact this
theorem n_clear {xs : List V} (h : Sep L H) (k : Chg (lis a xs) (lis a []) L M) (q : ∀ H', Sep M H' → Q .non H') : rClear (.ref a) [] H Q := by
  obtain ⟨F, k1, k2⟩ := k.picks
  exact ⟨a, xs, rfl, rfl, h.lis k1, q _ (h.setL k)⟩
theorem same_topV {m : Nat} : SameU K (m + 1) L (topV g x) (topV g x) := by
  rcases topV_cases g x with e | ⟨v, e⟩ <;> rw [e]
  · exact same_non
  · exact same_int
end
end Ah
set_option Elab.async false
set_option linter.all false
set_option maxRecDepth 100000
set_option maxHeartbeats 4000000
/-! calls within try -/
namespace Ah
open PySem PySem.Spec PyProof.Rows L2
section
variable {X : Cx} {k : Nat} {ps : List Str} {sp : Sp} {E : L2.St → XK} {x : Str} {p pos : Pos} {e : Expr} {es : List Expr} {t : TA}
theorem pe_fnS (F : Fn X.prog X.w X.K X.mg X.base k x ps sp) (hr : Room k X.A) (hx : ∀ σ, PassesAt (L2.CX X.prog X.w) X σ (E σ)) (ha : PA X (e :: es) t) (hg : Gl X x := by rfl)
    (hdb : (x == ("__debug__" : Str)) = false := by decide) (he : starEach (e :: es) X.env = (false, eval e X.env) :: starEach es X.env := by rfl) (hpl : (backTo pos (starEach es X.env)).any (·.1) = false := by rfl) :
    PE X (.Call (.Name x p) (e :: es) [] pos) (tCallS sp E t) := by
  obtain ⟨f, fd, a, m, kp, b⟩ := F.ex
  exact pe_callS a hr hg m kp b hx ha hdb he hpl
theorem u_callS {σ : L2.St} {H : Hp} {Q : VK} (h : t σ H fun vs H1 => sp vs H1 Q (E σ)) : tCallS sp E t σ H Q := h
instance iu_callS {σ : L2.St} {H : Hp} {Q : VK} : US (tCallS sp E t σ H Q) (t σ H fun vs H1 => sp vs H1 Q (E σ)) := ⟨u_callS⟩
end
/-- what two clauses wish of an exception -/
theorem w_one {K : PySem.W.Frag} {Wout : WX} {D : Ends} {cls c : Value} {ts : Addr → Value → Option Addr → TS} {r : List (Value × (Addr → Value → Option Addr → TS))} {d : Option Addr} {σ : L2.St} {H : Hp} (h : PySem.W.exmOne K cls c = some true) (k : ∀ a, H a = none → ts a cls d D σ H) : wMany K Wout D ((c, ts) :: r) cls d σ H :=
  ⟨true, h, (fun _ => k), (fun z => nomatch z)⟩
theorem w_next {K : PySem.W.Frag} {Wout : WX} {D : Ends} {cls c : Value} {ts : Addr → Value → Option Addr → TS} {r : List (Value × (Addr → Value → Option Addr → TS))} {d : Option Addr} {σ : L2.St} {H : Hp} (h : PySem.W.exmOne K cls c = some false) (k : wMany K Wout D r cls d σ H) : wMany K Wout D ((c, ts) :: r) cls d σ H :=
  ⟨false, h, (fun z => nomatch z), fun _ => k⟩
/-- is an exception of the one class taken by the clause of the other -/
theorem exm_pair {K : PySem.W.Frag} {A S : Addr} {b : Bool} (h1 : PySem.W.subIn K (.ref S) (.type "BaseException") = some true) (h2 : PySem.W.isClsIn K S = true) (h3 : PySem.W.typeIn K (.ref S) = some (.type "type")) (h4 : PySem.W.subIn K (.ref A) (.ref S) = some b) :
    PySem.W.exmOne K (.ref A) (.ref S) = some b := by
  unfold PySem.W.exmOne PySem.W.kitCls
  have h2' : (PySem.W.clsIn K S).isSome = true := h2
  rw [h1]
  simp only [h2', h3, Bool.true_and, beq_self_eq_true, if_true, h4]
end Ah
set_option Elab.async false
set_option linter.all false
set_option maxRecDepth 100000
set_option maxHeartbeats 4000000
/-! how many uses, how many fadings a word needs to be told: the plain law -/
namespace Ah
open PySem PySem.Spec PyProof.Rows L2 TL
/-- the other words that begin so -/
noncomputable def os (g : WM) (b w : Str) : List RW := (rOf g).filter fun e => decide (e.1 ≠ w) && preB b e.1
/-- how many of them come ahead of w, were it worth x -/
def rkL (l : List RW) (w : Str) (x : Int) : Nat := l.countP fun o => ahead o (w, x)
section
variable {g : WM} {N : Nat} {b w : Str} {v x m : Int} {ks : List Str} {e l : RW}
theorem os_fits : os g b w = (fits g b).filter fun e => decide (e.1 ≠ w) := by
  unfold os fits
  rw [List.filter_filter]
theorem rOf_nd (ok : GOk g N) : ((rOf g).map Prod.fst).Nodup := by rw [rOf_fst]; exact ok.keys.1
theorem fitsF_nd (ok : GOk g N) : ((fits g b).map Prod.fst).Nodup := by
  refine List.Nodup.sublist (List.Sublist.map _ List.filter_sublist) (rOf_nd ok)
theorem mem_os (ok : GOk g N) : e ∈ os g b w ↔ g e.1 = some e.2 ∧ e.1 ≠ w ∧ preB b e.1 = true := by
  unfold os
  rw [List.mem_filter, ok.mem, Bool.and_eq_true, decide_eq_true_eq]
theorem mem_fitsB (ok : GOk g N) : e ∈ fits g b ↔ g e.1 = some e.2 ∧ preB b e.1 = true := by
  unfold fits
  rw [List.mem_filter, ok.mem]
theorem rk_fits (ok : GOk g N) (ge : g w = some v) : rkL (os g b w) w v = (fits g b).countP fun o => ahead o (w, v) := by
  unfold rkL
  rw [os_fits, List.countP_filter]
  refine List.countP_congr fun o ho => ?_
  rw [Bool.and_eq_true, decide_eq_true_eq]
  refine ⟨fun h => h.1, fun h => ⟨h, fun e => ?_⟩⟩
  have h1 := (mem_fitsB ok).mp ho
  rw [e, ge] at h1
  have : o = (w, v) := Prod.ext e (Option.some.inj h1.1).symm
  rw [this] at h
  exact ahead_asymm h h
/-- told or not -/
theorem told_iff (ok : GOk g N) (ge : g w = some v) (hp : preB b w = true) (hm : 0 ≤ m) : w ∈ (toldOf g b m).map Prod.fst ↔ (rkL (os g b w) w v : Int) < m := by
  have hin : (w, v) ∈ (fits g b).mergeSort leR := mem_best.mpr ((mem_fitsB ok).mpr ⟨ge, hp⟩)
  obtain ⟨j, hj, ej⟩ := List.mem_iff_getElem.mp hin
  have e1 : ((fits g b).mergeSort leR)[j]? = some (w, v) := by rw [List.getElem?_eq_getElem hj, ej]
  have r := rank_is (fitsF_nd ok) e1
  rw [rk_fits ok ge, r]
  constructor
  · intro h
    obtain ⟨e, he, ew⟩ := List.mem_map.mp h
    unfold toldOf bestOf at he
    obtain ⟨i, hi, ei⟩ := List.mem_iff_getElem.mp he
    rw [List.length_take] at hi
    rw [List.getElem_take] at ei
    have hs : ((((fits g b).mergeSort leR)).map Prod.fst).Nodup := ((List.mergeSort_perm (fits g b) leR).map Prod.fst).nodup_iff.mpr (fitsF_nd ok)
    have : i = j := by
      refine (List.getElem_inj (h₀ := by rw [List.length_map]; omega) (h₁ := by rw [List.length_map]; omega) hs).mp ?_
      rw [List.getElem_map, List.getElem_map, ei, ej, ew]
    omega
  · intro h
    refine List.mem_map.mpr ⟨(w, v), ?_, rfl⟩
    unfold toldOf bestOf
    exact List.mem_iff_getElem.mpr ⟨j, by rw [List.length_take]; omega, by rw [List.getElem_take]; exact ej⟩
/-- the last one told, where w isn't -/
theorem told_last (ok : GOk g N) (ge : g w = some v) (hp : preB b w = true) (hm : 1 ≤ m) (h : ¬ (rkL (os g b w) w v : Int) < m) :
    ∃ (l : RW), (toldOf g b m).length = m.toNat ∧ (toldOf g b m)[m.toNat - 1]? = some l ∧ l ∈ os g b w ∧ v ≤ l.2 ∧ (os g b w).countP (fun o => ahead o l) = m.toNat - 1 := by
  rw [rk_fits ok ge] at h
  have hin : (w, v) ∈ (fits g b).mergeSort leR := mem_best.mpr ((mem_fitsB ok).mpr ⟨ge, hp⟩)
  obtain ⟨j, hj, ej⟩ := List.mem_iff_getElem.mp hin
  have e1 : ((fits g b).mergeSort leR)[j]? = some (w, v) := by rw [List.getElem?_eq_getElem hj, ej]
  have r := rank_is (fitsF_nd ok) e1
  rw [r] at h
  have hi : m.toNat - 1 < ((fits g b).mergeSort leR).length := by omega
  have e2 : ((fits g b).mergeSort leR)[m.toNat - 1]? = some (((fits g b).mergeSort leR)[m.toNat - 1]) := List.getElem?_eq_getElem hi
  generalize hl : ((fits g b).mergeSort leR)[m.toNat - 1] = l at e2
  have r2 := rank_is (fitsF_nd ok) e2
  have hlm : l ∈ fits g b := mem_best.mp (List.mem_of_getElem? e2)
  have hs : ((fits g b).mergeSort leR).Pairwise fun a b => leR a b = true := List.pairwise_mergeSort leR_trans leR_total _
  have hlw : l.1 ≠ w := fun e => by
    have h3 := (mem_fitsB ok).mp hlm
    rw [e, ge] at h3
    have : l = (w, v) := Prod.ext e (Option.some.inj h3.1).symm
    rw [this] at r2
    rw [r] at r2; omega
  have hle : leR l (w, v) = true := by
    have := List.pairwise_iff_getElem.mp hs (m.toNat - 1) j hi hj (by omega)
    rw [hl, ej] at this; exact this
  refine ⟨l, ?_, ?_, ?_, ?_, ?_⟩
  · unfold toldOf bestOf
    rw [List.length_take]; omega
  · unfold toldOf bestOf
    rw [List.getElem?_take_of_lt (by omega)]; exact e2
  · rw [os_fits]
    exact List.mem_filter.mpr ⟨hlm, by simpa using hlw⟩
  · have h5 := leR_iff.mp hle
    by_cases c : v ≤ l.2
    · exact c
    · exact absurd (ahead_iff.mpr (.inl (by show l.2 < v; omega))) h5
  · rw [os_fits, List.countP_filter, ← r2]
    refine List.countP_congr fun o ho => ?_
    rw [Bool.and_eq_true, decide_eq_true_eq]
    refine ⟨fun h => h.1, fun h => ⟨h, fun e => ?_⟩⟩
    have h1 := (mem_fitsB ok).mp ho
    rw [e, ge] at h1
    have : o = (w, v) := Prod.ext e (Option.some.inj h1.1).symm
    rw [this] at h
    exact leR_iff.mp hle h
/-- what w must be worth -/
def goal1 (l : RW) (w : Str) : Int := if tl l.1 < tl w then l.2 + 1 else l.2
theorem goal1_iff (hlw : l.1 ≠ w) : ahead l (w, x) = true ↔ x < goal1 l w := by
  unfold goal1
  rw [ahead_iff]
  show (x < l.2 ∨ (l.2 = x ∧ tl l.1 < tl w)) ↔ _
  by_cases c : tl l.1 < tl w
  · rw [if_pos c]; constructor
    · rintro (h | ⟨h, _⟩) <;> omega
    · intro h
      by_cases d : x < l.2
      · exact .inl d
      · exact .inr ⟨by omega, c⟩
  · rw [if_neg c]; constructor
    · rintro (h | ⟨_, h⟩)
      · exact h
      · exact absurd h c
    · exact .inl
theorem rk_iff {L : List RW} {k : Nat} (hl : l ∈ L) (hlw : l.1 ≠ w) (hc : L.countP (fun o => ahead o l) = k) : rkL L w x ≤ k ↔ goal1 l w ≤ x := by
  unfold rkL
  constructor
  · intro h
    by_cases c : goal1 l w ≤ x
    · exact c
    · exfalso
      have hal := (goal1_iff hlw).mpr (show x < goal1 l w by omega)
      have : L.countP (fun o => ahead o l) < L.countP (fun o => ahead o (w, x)) := by
        obtain ⟨s, t, rfl⟩ := List.append_of_mem hl
        rw [List.countP_append, List.countP_append, List.countP_cons_of_neg (by exact fun z => ahead_asymm z z), List.countP_cons_of_pos (by exact hal)]
        have h1 : s.countP (fun o => ahead o l) ≤ s.countP (fun o => ahead o (w, x)) := List.countP_mono_left fun o _ ho => ahead_trans ho hal
        have h2 : t.countP (fun o => ahead o l) ≤ t.countP (fun o => ahead o (w, x)) := List.countP_mono_left fun o _ ho => ahead_trans ho hal
        omega
      omega
  · intro h
    rw [← hc]
    refine List.countP_mono_left fun o _ ho => ?_
    have h1 : ¬ ahead l (w, x) = true := fun z => by have := (goal1_iff hlw).mp z; omega
    by_cases c : ahead (w, x) l = true
    · exact ahead_trans ho c
    · have := ahead_tri h1 c
      exact absurd (by rw [this]) hlw
/-- the uses needed -/
noncomputable def usesN (g : WM) (b w : Str) (m : Int) : Int :=
  if (rkL (os g b w) w ((g w).getD 0) : Int) < m then 0 else match (toldOf g b m)[m.toNat - 1]? with
    | some l => goal1 l w - (g w).getD 0
    | none => 0
theorem usesN_0 (ge : g w = some v) (h : (rkL (os g b w) w v : Int) < m) : usesN g b w m = 0 := by
  unfold usesN; rw [ge]; exact if_pos h
theorem usesN_l (ge : g w = some v) (h : ¬ (rkL (os g b w) w v : Int) < m) (hl : (toldOf g b m)[m.toNat - 1]? = some l) : usesN g b w m = goal1 l w - v := by
  unfold usesN; rw [ge, hl]; exact if_neg h
/-- told behind so many uses, and behind no fewer -/
theorem usesN_iff (ok : GOk g N) (ge : g w = some v) (hp : preB b w = true) (hm : 1 ≤ m) {y : Int} (hy : 0 ≤ y) : (rkL (os g b w) w (v + y) : Int) < m ↔ usesN g b w m ≤ y := by
  by_cases c : (rkL (os g b w) w v : Int) < m
  · rw [usesN_0 ge c]
    refine ⟨fun _ => hy, fun _ => ?_⟩
    have : rkL (os g b w) w (v + y) ≤ rkL (os g b w) w v := List.countP_mono_left fun o _ ho => by
      rw [ahead_iff] at *
      rcases ho with ho | ⟨ho, h2⟩
      · exact .inl (by show v < o.2; have : v + y < o.2 := ho; omega)
      · by_cases d : y = 0
        · exact .inr ⟨by show o.2 = v; have : o.2 = v + y := ho; omega, h2⟩
        · exact .inl (by show v < o.2; have : o.2 = v + y := ho; omega)
    omega
  · obtain ⟨l, h1, h2, h3, h4, h5⟩ := told_last ok ge hp hm c
    rw [usesN_l ge c h2]
    have h6 := (mem_os ok).mp h3
    have := rk_iff (x := v + y) h3 h6.2.1 h5
    omega
theorem usesN_pos (ok : GOk g N) (ge : g w = some v) (hp : preB b w = true) (hm : 1 ≤ m) : 0 ≤ usesN g b w m := by
  by_cases c : (rkL (os g b w) w v : Int) < m
  · rw [usesN_0 ge c]; exact Int.le_refl _
  · obtain ⟨l, h1, h2, h3, h4, h5⟩ := told_last ok ge hp hm c
    rw [usesN_l ge c h2]
    unfold goal1
    split <;> omega
/-- counted over a dict's keys -/
theorem rk_keys (ok : GOk g N) (nd : ks.Nodup) (hm : ∀ w, w ∈ ks ↔ (g w).isSome = true) : (ks.filter fun o => (decide (o ≠ w) && preB b o) && ahead (rtd g o) (w, x)).length = rkL (os g b w) w x := by
  have p : ks.Perm (gKeys g) := (List.perm_ext_iff_of_nodup nd ok.keys.1).mpr fun a => (hm a).trans (ok.keys.2.1 a).symm
  rw [← List.countP_eq_length_filter, p.countP_eq]
  unfold rkL os rOf
  rw [List.countP_filter, List.countP_map]
  refine List.countP_congr fun o ho => ?_
  simp only [Function.comp]
  rw [Bool.and_comm]
  exact Iff.rfl
end
theorem starts_pre0 (a b : Str) : Txt.startswith a b = decide ((tl a).take (tl b).length = tl b) := by
  unfold Txt.startswith
  rw [PySem.StrLaws.subAt_eq, Nat.zero_add, List.drop_zero, Bool.eq_iff_iff, Bool.and_eq_true, decide_eq_true_eq, decide_eq_true_eq, beq_iff_eq, len_tl b, len_tl a]
  show (tl b).length ≤ (tl a).length ∧ (tl a).take (tl b).length = tl b ↔ _
  constructor
  · exact fun h => h.2
  · intro h
    refine ⟨?_, h⟩
    have := congrArg List.length h
    rw [List.length_take] at this; omega
theorem bF {c : Bool} {A B : Prop} (h1 : c = false → A) (h2 : c = true → B) : if (!c) = true then A else B := by
  cases c with
  | true => exact iteF (h2 rfl)
  | false => exact iteT (h1 rfl)
theorem atI_m1 {α : Type} {xs : List α} {n : Nat} {v : α} (hl : xs.length = n) (h1 : 1 ≤ n) (h : xs[n - 1]? = some v) : atI xs (-1) = some v := by
  have hlt : n - 1 < xs.length := by omega
  have e : xs = xs.take (n - 1) ++ [v] := by
    have h2 := List.drop_eq_getElem_cons hlt
    have h3 : xs[n - 1] = v := Option.some.inj ((List.getElem?_eq_getElem hlt).symm.trans h)
    rw [h3, List.drop_eq_nil_of_le (show xs.length ≤ n - 1 + 1 by omega)] at h2
    rw [← h2, List.take_append_drop]
  rw [e]
  exact atI_last _ _
theorem starts_pre (a b : Str) : Txt.startswith a b = preB b a := starts_pre0 a b
section
variable {K : PySem.W.Frag} {H : Hp} {Q : VK} {a b : Str} {σ : L2.St}
theorem s_starts (q : Q (.bl (preB b a)) H) : ∃ a' b', V.str a = .str a' ∧ [V.str b] = [.str b'] ∧ Q (.bl (Txt.startswith a' b')) H := ⟨a, b, rfl, rfl, by rw [starts_pre]; exact q⟩
end
section
variable {K : PySem.W.Frag} {g : TG} {tb : TS} {D : Ends} {σ : L2.St} {H : Hp} {L F : List Res} {a : Addr} {ns : List Int}
theorem Sep.sqI (h : Sep L H) (k : Pick (Ah.dat (.ref a) (.tuple (ns.map PyData.int))) L F) : SqT K H a (ns.map V.int) := by
  obtain ⟨t, zs, e, h1, h2⟩ := (h.dat k).ofTup
  cases e
  rw [h2.ofInts] at h1
  exact SqT.of h1
/-- for x in (1, 2, ..) -/
theorem n_forTI (I : Nat → L2.St → List Res → Prop) (h : Sep (dat (.ref a) (.tuple (ns.map PyData.int)) :: F) H) (i0 : I 0 σ F)
    (hs : ∀ i n σ M H, ns[i]? = some n → I i σ M → Sep (dat (.ref a) (.tuple (ns.map PyData.int)) :: M) H → g (.int n) σ H fun σ2 H2 => tb { D with nx := LI (dat (.ref a) (.tuple (ns.map PyData.int))) I (i + 1), ct := LI (dat (.ref a) (.tuple (ns.map PyData.int))) I (i + 1), bk := D.nx } σ2 H2)
    (hd : ∀ σ M H, I ns.length σ M → Sep (dat (.ref a) (.tuple (ns.map PyData.int)) :: M) H → D.nx σ H) :
    (∃ xs, SqT K H a xs) ∧ ∃ W : Nat → Nat → L2.St → Hp → Prop, (∃ m, W 0 m σ H) ∧ ∀ i m σ H, W i m σ H →
      ((Itt K a).stop i H ∧ D.nx σ H) ∨ ((Itt K a).go i H ∧ ∃ N : L2.St → Hp → Prop, (∀ σ' H', N σ' H' → ∃ m', m' < m ∧ W (i + 1) m' σ' H') ∧ ∀ x H', (Itt K a).yld i H x H' → g x σ H' fun σ2 H2 => tb { D with nx := N, ct := N, bk := D.nx } σ2 H2) :=
  ⟨⟨_, h.sqI .here⟩, for_tup (xs := ns.map V.int) (LI (dat (.ref a) (.tuple (ns.map PyData.int))) I) ⟨F, i0, h⟩ (fun i σ H _ ⟨M, _, z⟩ => z.sqI .here) (fun i x σ H e ⟨M, p, z⟩ => by
    obtain ⟨n, hn, rfl⟩ := ints_get e
    exact hs i n σ M H hn p z) fun σ H ⟨M, p, z⟩ => hd σ M H (by rw [List.length_map] at p; exact p) z⟩
end
/-- what is told to who asks for the uses needed -/
noncomputable def askV (g : WM) (b w : Str) (m : Int) : V := match g w with
  | none => .str (Str.ofString "absent")
  | some _ => if preB b w = true then .int (usesN g b w m) else .str (Str.ofString "beside")
section
variable {K : PySem.W.Frag} {g : WM} {b w : Str} {m v : Int} {L : List Res} {k : Nat}
theorem askV_none (h : g w = none) : askV g b w m = .str (Str.ofString "absent") := by unfold askV; rw [h]
theorem askV_beside (h : g w = some v) (hp : preB b w = false) : askV g b w m = .str (Str.ofString "beside") := by unfold askV; rw [h, hp]; rfl
theorem askV_some (h : g w = some v) (hp : preB b w = true) : askV g b w m = .int (usesN g b w m) := by unfold askV; rw [h, hp]; rfl
theorem same_askV : SameU K (k + 1) L (askV g b w m) (askV g b w m) := by
  cases e : g w with
  | none => rw [askV_none e]; exact same_str
  | some v =>
    cases hp : preB b w with
    | false => rw [askV_beside e hp]; exact same_str
    | true => rw [askV_some e hp]; exact same_int
end
section
variable {g : WM} {N : Nat} {b w : Str} {v x c : Int}
theorem rk_congr {g2 : WM} {N2 : Nat} (ok : GOk g N) (ok2 : GOk g2 N2) (hs : ∀ o, (g2 o).isSome = (g o).isSome) (he : ∀ o, o ≠ w → g2 o = g o) : rkL (os g2 b w) w x = rkL (os g b w) w x := by
  rw [← rk_keys (ks := gKeys g) ok2 ok.keys.1 (fun a => (ok.keys.2.1 a).trans (by rw [hs])), ← rk_keys (ks := gKeys g) ok ok.keys.1 ok.keys.2.1]
  congr 1
  refine List.filter_congr fun o ho => ?_
  by_cases e : o = w
  · simp [e]
  · unfold rtd
    rw [he o e]
theorem rk_seti (ok : GOk g N) (ge : g w = some v) (hc : 0 ≤ c) : rkL (os (seti g w c) b w) w x = rkL (os g b w) w x := by
  refine rk_congr ok (ok.seti (ok.ok _ _ ge).1 hc) (fun o => ?_) (fun o ho => ?_)
  · unfold seti
    by_cases e : o = w
    · rw [if_pos e, e, ge]; rfl
    · rw [if_neg e]
  · unfold seti; rw [if_neg ho]
end
end Ah
set_option Elab.async false
set_option linter.all false
set_option maxRecDepth 100000
set_option maxHeartbeats 4000000
/-! methods called within try; dicts with pairs of texts as keys -/
namespace Ah
open PySem PySem.Spec PyProof.Rows L2 TL
def tMethS (C : Addr) (m : Str) (sp : Sp) (E : L2.St → XK) (ta : TE) (t : TA) : TE := fun σ H Q => tMeth C m sp [] (E σ) ta t σ H Q
section
variable {X : Cx} {k : Nat} {C : Addr} {x m : Str} {ps : List Str} {dv : List V} {sp : Sp} {E : L2.St → XK} {p pos apos : Pos} {e o : Expr} {es : List Expr} {ta : TE} {t : TA} {σ : L2.St} {H : Hp} {Q : VK}
theorem u_methS (h : tMeth C m sp [] (E σ) ta t σ H Q) : tMethS C m sp E ta t σ H Q := h
instance iu_methS  : US (tMethS C m sp E ta t σ H Q) (tMeth C m sp [] (E σ) ta t σ H Q) := ⟨u_methS⟩
theorem pe_mthS {pl : Sem Bool} (F : FnM X.prog X.w X.K X.mg X.base k C m ps dv sp) (hr : Room k X.A) (hx : ∀ σ, PassesAt (L2.CX X.prog X.w) X σ (E σ)) (he : PE X o ta) (ha : PA X (e :: es) t)
    (hst : starEach (e :: es) X.env = (false, eval e X.env) :: starEach es X.env := by rfl) (hpl : (backTo pos (starEach es X.env)).any (·.1) = false := by rfl)
    (ht : eval (.Call (.Attribute o m apos) (e :: es) [] pos) X.env = (do
      let ov ← eval o X.env
      standAt apos.atName
      let (f, first) ← holding [ov] (getMethod ov m pl)
      callWith pos f first (backTo pos (starEach (e :: es) X.env)) (backToKw pos (keywordEach [] X.env))) := by rfl) :
    PE X (.Call (.Attribute o m apos) (e :: es) [] pos) (tMethS C m sp E ta t) := by
  obtain ⟨f, fd, F, c, hm, hb, _⟩ := F.ex
  refine ⟨fun pins s σ H Q I h => ?_⟩
  refine PySem.W.methodCall_KW (pl := pl) (thn (he.run pins s σ H _ I h) fun u s1 ⟨x, H1, I1, rx, a, dx, fs, ex, ea, l, q⟩ => ?_) ht
  subst ex
  obtain rfl : u = Value.ref a := rx
  refine getmeth_ok I1 ea c hm l ?_
  refine PySem.W.callWith_K (first := [.ref a]) (h₀ := X.base) I.ok.mod.kin hm.kp (thn (ha.run pos pins s1 σ H1 _ I1 q) fun us s2 ⟨vs, H2, I2, r, q2⟩ => ⟨I2.kIn, ?_⟩) hst hpl
  have q3 : sp (.ref a :: (vs ++ [])) H2 Q (E σ) := q2
  rw [List.append_nil] at q3
  exact run_fnS (us := .ref a :: us) (vs := .ref a :: vs) F hr hb (hx σ) I2 (.cons rfl r) q3
theorem pe_mth0S {pl : Sem Bool} (F : FnM X.prog X.w X.K X.mg X.base k C m ps dv sp) (hr : Room k X.A) (hx : ∀ σ, PassesAt (L2.CX X.prog X.w) X σ (E σ)) (he : PE X o ta)
    (ht : eval (.Call (.Attribute o m apos) [] [] pos) X.env = (do
      let ov ← eval o X.env
      standAt apos.atName
      let (f, first) ← holding [ov] (getMethod ov m pl)
      callWith pos f first (backTo pos (starEach [] X.env)) (backToKw pos (keywordEach [] X.env))) := by rfl) :
    PE X (.Call (.Attribute o m apos) [] [] pos) (tMethS C m sp E ta tNil) := by
  obtain ⟨f, fd, F, c, hm, hb, _⟩ := F.ex
  refine ⟨fun pins s σ H Q I h => ?_⟩
  refine PySem.W.methodCall_KW (pl := pl) (thn (he.run pins s σ H _ I h) fun u s1 ⟨x, H1, I1, rx, a, dx, fs, ex, ea, l, q⟩ => ?_) ht
  subst ex
  obtain rfl : u = Value.ref a := rx
  refine getmeth_ok I1 ea c hm l ?_
  have q2 : sp [.ref a] H1 Q (E σ) := q
  exact PySem.W.callWith_K0 (first := [.ref a]) I1.kIn hm.kp (run_fnS (us := [.ref a]) (vs := [.ref a]) F hr hb (hx σ) I1 (.cons rfl .nil) q2)
end
/-! ### dicts with pairs of texts as keys -/
abbrev PK := Str × Str
abbrev PM := PK → Option (Int × Int)
def kP (k : PK) : List Key := [Sum.inr k.1, Sum.inr k.2]
theorem kP_inj {j k : PK} (h : kP j = kP k) : j = k := by
  unfold kP at h
  injection h with h1 h2
  injection h2 with h2 _
  exact Prod.ext (Sum.inr.inj h1) (Sum.inr.inj h2)
/-- marks of pairs: at most N -/
structure PDT (G : Hp) (kvs : List (List Key × V)) (M : PM) (ks : List PK) : Prop where
  keys : kvs.map (·.1) = ks.map kP
  nd : ks.Nodup
  no : ∀ k, M k = none → valV kvs (kP k) = none
  yes : ∀ k m, M k = some m → ∃ t, valV kvs (kP k) = some (.ref t) ∧ G t = some (.tup [.int m.1, .int m.2])
def dct (a : Addr) (M : PM) (N : Nat) : Res := one a (fun G u => ∃ kvs ks, u = .dT kvs ∧ ks.length ≤ N ∧ PDT G kvs M ks) (fun _ _ h => by
  obtain ⟨kvs, ks, rfl, _⟩ := h
  intro zs e; cases e) (fun _ _ _ h t => by
  obtain ⟨kvs, ks, e, l, p⟩ := h
  exact ⟨kvs, ks, e, l, p.keys, p.nd, p.no, fun k m hm => by
    obtain ⟨t', h1, h2⟩ := p.yes k m hm
    exact ⟨t', h1, t _ _ h2⟩⟩)
section
variable {L M : List Res} {H : Hp} {Q : VK} {σ : L2.St} {a : Addr} {P : PM} {N : Nat}
theorem n_tnew (h : Sep L H) (q : ∀ p H', Sep (dct p (fun _ => none) 0 :: L) H' → Q (.ref p) H') : tDNewT σ H Q := fun p hp =>
  q p _ (Sep.oneNew h hp ⟨[], [], rfl, Nat.le_refl _, rfl, .nil, fun _ _ => rfl, fun _ _ e => nomatch e⟩)
theorem ent_dct {N' : Nat} (h : N ≤ N') : Ent (dct a P N) (dct a P N') := fun G S ⟨h1, o, h2, kvs, ks, e, l, p⟩ => ⟨S, ⟨h1, o, h2, kvs, ks, e, Nat.le_trans l h, p⟩, fun _ z => z⟩
end
/-! ### fields -/
section
variable {K : PySem.W.Frag} {C a : Addr} {H : Hp} {Q : VK} {σ : L2.St} {D : Ends} {L M : List Res} {y v0 v1 v2 v3 v4 v5 : V} {m : Str}
theorem lk_Pairs_pair_marks : ([("pair_marks", v0), ("pair_era", v1)] : List (Str × V)).lookup ("pair_marks" : Str) = some v0 := by
  simp only [List.lookup, show (("pair_marks" : Str) == ("pair_marks" : Str)) = true by decide +kernel]
theorem put_Pairs_pair_marks : putF "pair_marks" y ([("pair_marks", v0), ("pair_era", v1)] : List (Str × V)) = ([("pair_marks", y), ("pair_era", v1)] : List (Str × V)) := by
  simp only [putF, show (("pair_marks" : Str) = ("pair_marks" : Str)) = True from eq_self _, if_true, if_false]
theorem ini_Pairs_pair_marks : putF "pair_marks" y ([] : List (Str × V)) = ([("pair_marks", y)] : List (Str × V)) := by
  simp only [putF]
theorem n_set_Pairs_pair_marks (h : Sep L H) (k : Chg (obj a C [("pair_marks", v0), ("pair_era", v1)]) (obj a C [("pair_marks", y), ("pair_era", v1)]) L M) (c : Cls K C) (n : NoAttr K C "pair_marks") (q : ∀ H', Sep M H' → D.nx σ H') : rSFld K "pair_marks" y D σ (.ref a) H :=
  n_sfld h (by rw [put_Pairs_pair_marks]; exact k) c n (by show 2 < 1000; decide) q
theorem n_ini_Pairs_pair_marks (h : Sep L H) (k : Chg (obj a C []) (obj a C [("pair_marks", y)]) L M) (c : Cls K C) (n : NoAttr K C "pair_marks") (q : ∀ H', Sep M H' → D.nx σ H') : rSFld K "pair_marks" y D σ (.ref a) H :=
  n_sfld h (by rw [ini_Pairs_pair_marks]; exact k) c n (by show 0 < 1000; decide) q
theorem lk_Pairs_pair_era : ([("pair_marks", v0), ("pair_era", v1)] : List (Str × V)).lookup ("pair_era" : Str) = some v1 := by
  simp only [List.lookup, show (("pair_era" : Str) == ("pair_marks" : Str)) = false by decide +kernel, show (("pair_era" : Str) == ("pair_era" : Str)) = true by decide +kernel]
theorem put_Pairs_pair_era : putF "pair_era" y ([("pair_marks", v0), ("pair_era", v1)] : List (Str × V)) = ([("pair_marks", v0), ("pair_era", y)] : List (Str × V)) := by
  simp only [putF, show (("pair_marks" : Str) = ("pair_era" : Str)) = False from eq_false (by decide +kernel), show (("pair_era" : Str) = ("pair_era" : Str)) = True from eq_self _, if_true, if_false]
theorem ini_Pairs_pair_era : putF "pair_era" y ([("pair_marks", v0)] : List (Str × V)) = ([("pair_marks", v0), ("pair_era", y)] : List (Str × V)) := by
  simp only [putF, show (("pair_marks" : Str) = ("pair_era" : Str)) = False from eq_false (by decide +kernel), if_false]
theorem n_set_Pairs_pair_era (h : Sep L H) (k : Chg (obj a C [("pair_marks", v0), ("pair_era", v1)]) (obj a C [("pair_marks", v0), ("pair_era", y)]) L M) (c : Cls K C) (n : NoAttr K C "pair_era") (q : ∀ H', Sep M H' → D.nx σ H') : rSFld K "pair_era" y D σ (.ref a) H :=
  n_sfld h (by rw [put_Pairs_pair_era]; exact k) c n (by show 2 < 1000; decide) q
theorem n_ini_Pairs_pair_era (h : Sep L H) (k : Chg (obj a C [("pair_marks", v0)]) (obj a C [("pair_marks", v0), ("pair_era", y)]) L M) (c : Cls K C) (n : NoAttr K C "pair_era") (q : ∀ H', Sep M H' → D.nx σ H') : rSFld K "pair_era" y D σ (.ref a) H :=
  n_sfld h (by rw [ini_Pairs_pair_era]; exact k) c n (by show 1 < 1000; decide) q
theorem no_Pairs (h0 : (m == ("pair_marks" : Str)) = false) (h1 : (m == ("pair_era" : Str)) = false) : ([("pair_marks", v0), ("pair_era", v1)] : List (Str × V)).lookup m = none := by
  simp only [List.lookup, h0, h1]
theorem lk_Layers_layer_house : ([("layer_house", v0), ("layer_own", v1), ("layer_hidden", v2)] : List (Str × V)).lookup ("layer_house" : Str) = some v0 := by
  simp only [List.lookup, show (("layer_house" : Str) == ("layer_house" : Str)) = true by decide +kernel]
theorem put_Layers_layer_house : putF "layer_house" y ([("layer_house", v0), ("layer_own", v1), ("layer_hidden", v2)] : List (Str × V)) = ([("layer_house", y), ("layer_own", v1), ("layer_hidden", v2)] : List (Str × V)) := by
  simp only [putF, show (("layer_house" : Str) = ("layer_house" : Str)) = True from eq_self _, if_true, if_false]
theorem ini_Layers_layer_house : putF "layer_house" y ([] : List (Str × V)) = ([("layer_house", y)] : List (Str × V)) := by
  simp only [putF]
theorem n_set_Layers_layer_house (h : Sep L H) (k : Chg (obj a C [("layer_house", v0), ("layer_own", v1), ("layer_hidden", v2)]) (obj a C [("layer_house", y), ("layer_own", v1), ("layer_hidden", v2)]) L M) (c : Cls K C) (n : NoAttr K C "layer_house") (q : ∀ H', Sep M H' → D.nx σ H') : rSFld K "layer_house" y D σ (.ref a) H :=
  n_sfld h (by rw [put_Layers_layer_house]; exact k) c n (by show 3 < 1000; decide) q
theorem n_ini_Layers_layer_house (h : Sep L H) (k : Chg (obj a C []) (obj a C [("layer_house", y)]) L M) (c : Cls K C) (n : NoAttr K C "layer_house") (q : ∀ H', Sep M H' → D.nx σ H') : rSFld K "layer_house" y D σ (.ref a) H :=
  n_sfld h (by rw [ini_Layers_layer_house]; exact k) c n (by show 0 < 1000; decide) q
theorem lk_Layers_layer_own : ([("layer_house", v0), ("layer_own", v1), ("layer_hidden", v2)] : List (Str × V)).lookup ("layer_own" : Str) = some v1 := by
  simp only [List.lookup, show (("layer_own" : Str) == ("layer_house" : Str)) = false by decide +kernel, show (("layer_own" : Str) == ("layer_own" : Str)) = true by decide +kernel]
theorem put_Layers_layer_own : putF "layer_own" y ([("layer_house", v0), ("layer_own", v1), ("layer_hidden", v2)] : List (Str × V)) = ([("layer_house", v0), ("layer_own", y), ("layer_hidden", v2)] : List (Str × V)) := by
  simp only [putF, show (("layer_house" : Str) = ("layer_own" : Str)) = False from eq_false (by decide +kernel), show (("layer_own" : Str) = ("layer_own" : Str)) = True from eq_self _, if_true, if_false]
theorem ini_Layers_layer_own : putF "layer_own" y ([("layer_house", v0)] : List (Str × V)) = ([("layer_house", v0), ("layer_own", y)] : List (Str × V)) := by
  simp only [putF, show (("layer_house" : Str) = ("layer_own" : Str)) = False from eq_false (by decide +kernel), if_false]
theorem n_set_Layers_layer_own (h : Sep L H) (k : Chg (obj a C [("layer_house", v0), ("layer_own", v1), ("layer_hidden", v2)]) (obj a C [("layer_house", v0), ("layer_own", y), ("layer_hidden", v2)]) L M) (c : Cls K C) (n : NoAttr K C "layer_own") (q : ∀ H', Sep M H' → D.nx σ H') : rSFld K "layer_own" y D σ (.ref a) H :=
  n_sfld h (by rw [put_Layers_layer_own]; exact k) c n (by show 3 < 1000; decide) q
theorem n_ini_Layers_layer_own (h : Sep L H) (k : Chg (obj a C [("layer_house", v0)]) (obj a C [("layer_house", v0), ("layer_own", y)]) L M) (c : Cls K C) (n : NoAttr K C "layer_own") (q : ∀ H', Sep M H' → D.nx σ H') : rSFld K "layer_own" y D σ (.ref a) H :=
  n_sfld h (by rw [ini_Layers_layer_own]; exact k) c n (by show 1 < 1000; decide) q
theorem lk_Layers_layer_hidden : ([("layer_house", v0), ("layer_own", v1), ("layer_hidden", v2)] : List (Str × V)).lookup ("layer_hidden" : Str) = some v2 := by
  simp only [List.lookup, show (("layer_hidden" : Str) == ("layer_house" : Str)) = false by decide +kernel, show (("layer_hidden" : Str) == ("layer_own" : Str)) = false by decide +kernel, show (("layer_hidden" : Str) == ("layer_hidden" : Str)) = true by decide +kernel]
theorem put_Layers_layer_hidden : putF "layer_hidden" y ([("layer_house", v0), ("layer_own", v1), ("layer_hidden", v2)] : List (Str × V)) = ([("layer_house", v0), ("layer_own", v1), ("layer_hidden", y)] : List (Str × V)) := by
  simp only [putF, show (("layer_house" : Str) = ("layer_hidden" : Str)) = False from eq_false (by decide +kernel), show (("layer_own" : Str) = ("layer_hidden" : Str)) = False from eq_false (by decide +kernel), show (("layer_hidden" : Str) = ("layer_hidden" : Str)) = True from eq_self _, if_true, if_false]
theorem ini_Layers_layer_hidden : putF "layer_hidden" y ([("layer_house", v0), ("layer_own", v1)] : List (Str × V)) = ([("layer_house", v0), ("layer_own", v1), ("layer_hidden", y)] : List (Str × V)) := by
  simp only [putF, show (("layer_house" : Str) = ("layer_hidden" : Str)) = False from eq_false (by decide +kernel), if_false, show (("layer_own" : Str) = ("layer_hidden" : Str)) = False from eq_false (by decide +kernel), if_false]
theorem n_set_Layers_layer_hidden (h : Sep L H) (k : Chg (obj a C [("layer_house", v0), ("layer_own", v1), ("layer_hidden", v2)]) (obj a C [("layer_house", v0), ("layer_own", v1), ("layer_hidden", y)]) L M) (c : Cls K C) (n : NoAttr K C "layer_hidden") (q : ∀ H', Sep M H' → D.nx σ H') : rSFld K "layer_hidden" y D σ (.ref a) H :=
  n_sfld h (by rw [put_Layers_layer_hidden]; exact k) c n (by show 3 < 1000; decide) q
theorem n_ini_Layers_layer_hidden (h : Sep L H) (k : Chg (obj a C [("layer_house", v0), ("layer_own", v1)]) (obj a C [("layer_house", v0), ("layer_own", v1), ("layer_hidden", y)]) L M) (c : Cls K C) (n : NoAttr K C "layer_hidden") (q : ∀ H', Sep M H' → D.nx σ H') : rSFld K "layer_hidden" y D σ (.ref a) H :=
  n_sfld h (by rw [ini_Layers_layer_hidden]; exact k) c n (by show 2 < 1000; decide) q
theorem no_Layers (h0 : (m == ("layer_house" : Str)) = false) (h1 : (m == ("layer_own" : Str)) = false) (h2 : (m == ("layer_hidden" : Str)) = false) : ([("layer_house", v0), ("layer_own", v1), ("layer_hidden", v2)] : List (Str × V)).lookup m = none := by
  simp only [List.lookup, h0, h1, h2]
theorem lk_Typist_layers : ([("layers", v0), ("most_told", v1), ("chosen_pairs", v2), ("text", v3), ("chosen", v4)] : List (Str × V)).lookup ("layers" : Str) = some v0 := by
  simp only [List.lookup, show (("layers" : Str) == ("layers" : Str)) = true by decide +kernel]
theorem put_Typist_layers : putF "layers" y ([("layers", v0), ("most_told", v1), ("chosen_pairs", v2), ("text", v3), ("chosen", v4)] : List (Str × V)) = ([("layers", y), ("most_told", v1), ("chosen_pairs", v2), ("text", v3), ("chosen", v4)] : List (Str × V)) := by
  simp only [putF, show (("layers" : Str) = ("layers" : Str)) = True from eq_self _, if_true, if_false]
theorem ini_Typist_layers : putF "layers" y ([] : List (Str × V)) = ([("layers", y)] : List (Str × V)) := by
  simp only [putF]
theorem n_set_Typist_layers (h : Sep L H) (k : Chg (obj a C [("layers", v0), ("most_told", v1), ("chosen_pairs", v2), ("text", v3), ("chosen", v4)]) (obj a C [("layers", y), ("most_told", v1), ("chosen_pairs", v2), ("text", v3), ("chosen", v4)]) L M) (c : Cls K C) (n : NoAttr K C "layers") (q : ∀ H', Sep M H' → D.nx σ H') : rSFld K "layers" y D σ (.ref a) H :=
  n_sfld h (by rw [put_Typist_layers]; exact k) c n (by show 5 < 1000; decide) q
theorem n_ini_Typist_layers (h : Sep L H) (k : Chg (obj a C []) (obj a C [("layers", y)]) L M) (c : Cls K C) (n : NoAttr K C "layers") (q : ∀ H', Sep M H' → D.nx σ H') : rSFld K "layers" y D σ (.ref a) H :=
  n_sfld h (by rw [ini_Typist_layers]; exact k) c n (by show 0 < 1000; decide) q
theorem lk_Typist_most_told : ([("layers", v0), ("most_told", v1), ("chosen_pairs", v2), ("text", v3), ("chosen", v4)] : List (Str × V)).lookup ("most_told" : Str) = some v1 := by
  simp only [List.lookup, show (("most_told" : Str) == ("layers" : Str)) = false by decide +kernel, show (("most_told" : Str) == ("most_told" : Str)) = true by decide +kernel]
theorem put_Typist_most_told : putF "most_told" y ([("layers", v0), ("most_told", v1), ("chosen_pairs", v2), ("text", v3), ("chosen", v4)] : List (Str × V)) = ([("layers", v0), ("most_told", y), ("chosen_pairs", v2), ("text", v3), ("chosen", v4)] : List (Str × V)) := by
  simp only [putF, show (("layers" : Str) = ("most_told" : Str)) = False from eq_false (by decide +kernel), show (("most_told" : Str) = ("most_told" : Str)) = True from eq_self _, if_true, if_false]
theorem ini_Typist_most_told : putF "most_told" y ([("layers", v0)] : List (Str × V)) = ([("layers", v0), ("most_told", y)] : List (Str × V)) := by
  simp only [putF, show (("layers" : Str) = ("most_told" : Str)) = False from eq_false (by decide +kernel), if_false]
theorem n_set_Typist_most_told (h : Sep L H) (k : Chg (obj a C [("layers", v0), ("most_told", v1), ("chosen_pairs", v2), ("text", v3), ("chosen", v4)]) (obj a C [("layers", v0), ("most_told", y), ("chosen_pairs", v2), ("text", v3), ("chosen", v4)]) L M) (c : Cls K C) (n : NoAttr K C "most_told") (q : ∀ H', Sep M H' → D.nx σ H') : rSFld K "most_told" y D σ (.ref a) H :=
  n_sfld h (by rw [put_Typist_most_told]; exact k) c n (by show 5 < 1000; decide) q
theorem n_ini_Typist_most_told (h : Sep L H) (k : Chg (obj a C [("layers", v0)]) (obj a C [("layers", v0), ("most_told", y)]) L M) (c : Cls K C) (n : NoAttr K C "most_told") (q : ∀ H', Sep M H' → D.nx σ H') : rSFld K "most_told" y D σ (.ref a) H :=
  n_sfld h (by rw [ini_Typist_most_told]; exact k) c n (by show 1 < 1000; decide) q
theorem lk_Typist_chosen_pairs : ([("layers", v0), ("most_told", v1), ("chosen_pairs", v2), ("text", v3), ("chosen", v4)] : List (Str × V)).lookup ("chosen_pairs" : Str) = some v2 := by
  simp only [List.lookup, show (("chosen_pairs" : Str) == ("layers" : Str)) = false by decide +kernel, show (("chosen_pairs" : Str) == ("most_told" : Str)) = false by decide +kernel, show (("chosen_pairs" : Str) == ("chosen_pairs" : Str)) = true by decide +kernel]
theorem put_Typist_chosen_pairs : putF "chosen_pairs" y ([("layers", v0), ("most_told", v1), ("chosen_pairs", v2), ("text", v3), ("chosen", v4)] : List (Str × V)) = ([("layers", v0), ("most_told", v1), ("chosen_pairs", y), ("text", v3), ("chosen", v4)] : List (Str × V)) := by
  simp only [putF, show (("layers" : Str) = ("chosen_pairs" : Str)) = False from eq_false (by decide +kernel), show (("most_told" : Str) = ("chosen_pairs" : Str)) = False from eq_false (by decide +kernel), show (("chosen_pairs" : Str) = ("chosen_pairs" : Str)) = True from eq_self _, if_true, if_false]
theorem ini_Typist_chosen_pairs : putF "chosen_pairs" y ([("layers", v0), ("most_told", v1)] : List (Str × V)) = ([("layers", v0), ("most_told", v1), ("chosen_pairs", y)] : List (Str × V)) := by
  simp only [putF, show (("layers" : Str) = ("chosen_pairs" : Str)) = False from eq_false (by decide +kernel), if_false, show (("most_told" : Str) = ("chosen_pairs" : Str)) = False from eq_false (by decide +kernel), if_false]
theorem n_set_Typist_chosen_pairs (h : Sep L H) (k : Chg (obj a C [("layers", v0), ("most_told", v1), ("chosen_pairs", v2), ("text", v3), ("chosen", v4)]) (obj a C [("layers", v0), ("most_told", v1), ("chosen_pairs", y), ("text", v3), ("chosen", v4)]) L M) (c : Cls K C) (n : NoAttr K C "chosen_pairs") (q : ∀ H', Sep M H' → D.nx σ H') : rSFld K "chosen_pairs" y D σ (.ref a) H :=
  n_sfld h (by rw [put_Typist_chosen_pairs]; exact k) c n (by show 5 < 1000; decide) q
theorem n_ini_Typist_chosen_pairs (h : Sep L H) (k : Chg (obj a C [("layers", v0), ("most_told", v1)]) (obj a C [("layers", v0), ("most_told", v1), ("chosen_pairs", y)]) L M) (c : Cls K C) (n : NoAttr K C "chosen_pairs") (q : ∀ H', Sep M H' → D.nx σ H') : rSFld K "chosen_pairs" y D σ (.ref a) H :=
  n_sfld h (by rw [ini_Typist_chosen_pairs]; exact k) c n (by show 2 < 1000; decide) q
theorem lk_Typist_text : ([("layers", v0), ("most_told", v1), ("chosen_pairs", v2), ("text", v3), ("chosen", v4)] : List (Str × V)).lookup ("text" : Str) = some v3 := by
  simp only [List.lookup, show (("text" : Str) == ("layers" : Str)) = false by decide +kernel, show (("text" : Str) == ("most_told" : Str)) = false by decide +kernel, show (("text" : Str) == ("chosen_pairs" : Str)) = false by decide +kernel, show (("text" : Str) == ("text" : Str)) = true by decide +kernel]
theorem put_Typist_text : putF "text" y ([("layers", v0), ("most_told", v1), ("chosen_pairs", v2), ("text", v3), ("chosen", v4)] : List (Str × V)) = ([("layers", v0), ("most_told", v1), ("chosen_pairs", v2), ("text", y), ("chosen", v4)] : List (Str × V)) := by
  simp only [putF, show (("layers" : Str) = ("text" : Str)) = False from eq_false (by decide +kernel), show (("most_told" : Str) = ("text" : Str)) = False from eq_false (by decide +kernel), show (("chosen_pairs" : Str) = ("text" : Str)) = False from eq_false (by decide +kernel), show (("text" : Str) = ("text" : Str)) = True from eq_self _, if_true, if_false]
theorem ini_Typist_text : putF "text" y ([("layers", v0), ("most_told", v1), ("chosen_pairs", v2)] : List (Str × V)) = ([("layers", v0), ("most_told", v1), ("chosen_pairs", v2), ("text", y)] : List (Str × V)) := by
  simp only [putF, show (("layers" : Str) = ("text" : Str)) = False from eq_false (by decide +kernel), if_false, show (("most_told" : Str) = ("text" : Str)) = False from eq_false (by decide +kernel), if_false, show (("chosen_pairs" : Str) = ("text" : Str)) = False from eq_false (by decide +kernel), if_false]
theorem n_set_Typist_text (h : Sep L H) (k : Chg (obj a C [("layers", v0), ("most_told", v1), ("chosen_pairs", v2), ("text", v3), ("chosen", v4)]) (obj a C [("layers", v0), ("most_told", v1), ("chosen_pairs", v2), ("text", y), ("chosen", v4)]) L M) (c : Cls K C) (n : NoAttr K C "text") (q : ∀ H', Sep M H' → D.nx σ H') : rSFld K "text" y D σ (.ref a) H :=
  n_sfld h (by rw [put_Typist_text]; exact k) c n (by show 5 < 1000; decide) q
theorem n_ini_Typist_text (h : Sep L H) (k : Chg (obj a C [("layers", v0), ("most_told", v1), ("chosen_pairs", v2)]) (obj a C [("layers", v0), ("most_told", v1), ("chosen_pairs", v2), ("text", y)]) L M) (c : Cls K C) (n : NoAttr K C "text") (q : ∀ H', Sep M H' → D.nx σ H') : rSFld K "text" y D σ (.ref a) H :=
  n_sfld h (by rw [ini_Typist_text]; exact k) c n (by show 3 < 1000; decide) q
theorem lk_Typist_chosen : ([("layers", v0), ("most_told", v1), ("chosen_pairs", v2), ("text", v3), ("chosen", v4)] : List (Str × V)).lookup ("chosen" : Str) = some v4 := by
  simp only [List.lookup, show (("chosen" : Str) == ("layers" : Str)) = false by decide +kernel, show (("chosen" : Str) == ("most_told" : Str)) = false by decide +kernel, show (("chosen" : Str) == ("chosen_pairs" : Str)) = false by decide +kernel, show (("chosen" : Str) == ("text" : Str)) = false by decide +kernel, show (("chosen" : Str) == ("chosen" : Str)) = true by decide +kernel]
theorem put_Typist_chosen : putF "chosen" y ([("layers", v0), ("most_told", v1), ("chosen_pairs", v2), ("text", v3), ("chosen", v4)] : List (Str × V)) = ([("layers", v0), ("most_told", v1), ("chosen_pairs", v2), ("text", v3), ("chosen", y)] : List (Str × V)) := by
  simp only [putF, show (("layers" : Str) = ("chosen" : Str)) = False from eq_false (by decide +kernel), show (("most_told" : Str) = ("chosen" : Str)) = False from eq_false (by decide +kernel), show (("chosen_pairs" : Str) = ("chosen" : Str)) = False from eq_false (by decide +kernel), show (("text" : Str) = ("chosen" : Str)) = False from eq_false (by decide +kernel), show (("chosen" : Str) = ("chosen" : Str)) = True from eq_self _, if_true, if_false]
theorem ini_Typist_chosen : putF "chosen" y ([("layers", v0), ("most_told", v1), ("chosen_pairs", v2), ("text", v3)] : List (Str × V)) = ([("layers", v0), ("most_told", v1), ("chosen_pairs", v2), ("text", v3), ("chosen", y)] : List (Str × V)) := by
  simp only [putF, show (("layers" : Str) = ("chosen" : Str)) = False from eq_false (by decide +kernel), if_false, show (("most_told" : Str) = ("chosen" : Str)) = False from eq_false (by decide +kernel), if_false, show (("chosen_pairs" : Str) = ("chosen" : Str)) = False from eq_false (by decide +kernel), if_false, show (("text" : Str) = ("chosen" : Str)) = False from eq_false (by decide +kernel), if_false]
theorem n_set_Typist_chosen (h : Sep L H) (k : Chg (obj a C [("layers", v0), ("most_told", v1), ("chosen_pairs", v2), ("text", v3), ("chosen", v4)]) (obj a C [("layers", v0), ("most_told", v1), ("chosen_pairs", v2), ("text", v3), ("chosen", y)]) L M) (c : Cls K C) (n : NoAttr K C "chosen") (q : ∀ H', Sep M H' → D.nx σ H') : rSFld K "chosen" y D σ (.ref a) H :=
  n_sfld h (by rw [put_Typist_chosen]; exact k) c n (by show 5 < 1000; decide) q
theorem n_ini_Typist_chosen (h : Sep L H) (k : Chg (obj a C [("layers", v0), ("most_told", v1), ("chosen_pairs", v2), ("text", v3)]) (obj a C [("layers", v0), ("most_told", v1), ("chosen_pairs", v2), ("text", v3), ("chosen", y)]) L M) (c : Cls K C) (n : NoAttr K C "chosen") (q : ∀ H', Sep M H' → D.nx σ H') : rSFld K "chosen" y D σ (.ref a) H :=
  n_sfld h (by rw [ini_Typist_chosen]; exact k) c n (by show 4 < 1000; decide) q
theorem no_Typist (h0 : (m == ("layers" : Str)) = false) (h1 : (m == ("most_told" : Str)) = false) (h2 : (m == ("chosen_pairs" : Str)) = false) (h3 : (m == ("text" : Str)) = false) (h4 : (m == ("chosen" : Str)) = false) : ([("layers", v0), ("most_told", v1), ("chosen_pairs", v2), ("text", v3), ("chosen", v4)] : List (Str × V)).lookup m = none := by
  simp only [List.lookup, h0, h1, h2, h3, h4]
end
/-! ### behind the fields -/
section
variable {K : PySem.W.Frag} {L F : List Res} {H : Hp} {Q : VK} {E : XK} {a : Addr} {xs : List V} {many : Int}
/-- the best of none -/
theorem c_best0 (h : Sep L H) (k : Pick (lisD a xs []) L F) (hm : 0 ≤ many) (z : ∀ (q : Addr) (H' : Hp), Sep (lisD q [] [] :: L) H' → Q (.ref q) H') : spBest K [.ref a, .int many] H Q E :=
  ⟨.ref a, [], many, rfl, h.dpL k, Nat.zero_le _, hm, fun q H' ys s hq e d => by
    have e0 : ys = [] := by
      have := DpAll.length d
      exact List.length_eq_zero_iff.mp (by rw [this]; simp [bestOf])
    subst e0
    exact z q H' (h.add (A := lisD q [] []) (S := fun x => x = q) s ⟨fun _ => Iff.rfl, _, e, rfl, .nil⟩ fun x hx => by rw [hx]; exact hq)⟩
end
/-! ### list(text) -/
def sgl (s : Str) : List Str := s.cps.toList.map fun c => (⟨#[c]⟩ : Str)
def rListS : List V → Hp → VK → Prop := fun xs H Q => ∃ s : Str, xs = [.str s] ∧ s.length ≤ sizeLine ∧ ∀ l, H l = none → Q (.ref l) (upd H l (.lst ((sgl s).map V.str)))
theorem vals_get : ∀ {xs : List V} {us : List Value}, us.length = xs.length → (∀ (j : Nat) (v : V), xs[j]? = some v → ∃ u, us[j]? = some u ∧ RelV v u) → Vals xs us
  | [], [], _, _ => .nil
  | [], _ :: _, h, _ => by simp at h
  | _ :: _, [], h, _ => by simp at h
  | x :: xs, u :: us, h, k => by
    obtain ⟨u', e, r⟩ := k 0 x rfl
    cases e
    exact .cons r (vals_get (by simpa using h) fun j v e => by
      obtain ⟨u', e', r'⟩ := k (j + 1) v (by simpa using e)
      exact ⟨u', by simpa using e', r'⟩)
section
variable {X : Cx}
theorem call_list_strS (hc : X.calm = true) : CallR X (.type "list") rListS := by
  intro pins s σ H xs us Q I r h
  obtain ⟨x, rfl, hl, q⟩ := h
  obtain ⟨u, rfl, rx⟩ := vals1 r
  obtain ⟨t, rfl⟩ := rx
  refine PySem.call_list_str (I.ok.hd hc) x t (fun h' tk acc' c' kp e hacc => ?_) hl
  have hv : Vals ((sgl x).map V.str) acc'.toList := vals_get (by simp [sgl, hacc.1]) fun j v hj => by
    unfold sgl at hj
    rw [List.map_map, List.getElem?_map, Option.map_eq_some_iff] at hj
    obtain ⟨c, hc2, rfl⟩ := hj
    have hj2 : j < x.cps.size := by
      have := (List.getElem?_eq_some_iff.mp hc2).1
      simpa using this
    have hj3 : j < acc'.size := by rw [hacc.1]; exact hj2
    obtain ⟨c', u', h1, h2⟩ := hacc.2 j acc'[j] (Array.getElem?_eq_getElem hj3)
    refine ⟨acc'[j], by simp [hj3], ?_⟩
    rw [h2]
    have : c' = c := by
      have h4 : x.cps.toList[j]? = some c' := by simpa using h1
      rw [hc2] at h4
      exact (Option.some.inj h4).symm
    subst this
    exact ⟨u', rfl⟩
  exact ⟨.ref s.heap.objs.size, _, I.laid (t' := tk) kp (Nat.le_refl _) (show ObjOk X.prog X.w _ h' _ (.lst _) from ⟨by rw [List.length_map]; unfold sgl; rw [List.length_map]; exact hl, acc'.toList, c', hv, by simpa using e⟩), rfl, q _ (I.hok.fresh (Nat.le_refl _))⟩
end
section
variable {L : List Res} {H : Hp} {Q : VK} {s : Str}
theorem n_listS (h : Sep L H) (hl : s.length ≤ sizeLine) (q : ∀ p H', Sep (lis p ((sgl s).map V.str) :: L) H' → Q (.ref p) H') : rListS [.str s] H Q :=
  ⟨s, rfl, hl, fun p hp => q p _ (h.newL hp)⟩
theorem sgl_len : (sgl s).length = s.length := by unfold sgl; rw [List.length_map]; rfl
theorem sgl_mem {w : Str} (h : w ∈ sgl s) : w.length = 1 := by
  unfold sgl at h
  obtain ⟨c, _, rfl⟩ := List.mem_map.mp h
  rfl
end
/-! typists: the line's last word, signs that can be typed -/
def lastW (ss : List Str) : Str := ss.getLast?.getD ""
def sgns : Str := Str.ofString "abcdefghijklmnopqrstuvwxyz "
def inSg (w : Str) : Bool := !(Builtin.Str.occurrences sgns w 0 sgns.length 1).isEmpty
def keyOk (t w : Str) : Bool := decide (w.length = 1) && (inSg w && !decide (t.length = 24))
end Ah
set_option Elab.async false
set_option linter.all false
set_option maxRecDepth 100000
set_option maxHeartbeats 4000000
/-! feeds of draws: the second family of helpers -/
namespace Ah
open PySem PySem.Spec PyProof.Rows L2 TL
/-- a feed stands at b: its cells, three numbers -/
def FeedAt (k : Int) (H : Hp) (b : Addr) : Prop := ∃ (c : Addr) (n0 : Int) (nr : List Int) (x1 x2 x3 : Int), H b = some (.lst [.ref c, .int x1, .int x2, .int x3]) ∧ H c = some (.lst (.int n0 :: nr.map V.int)) ∧ nr.length ≤ 1000 ∧ 0 ≤ x1 ∧ 0 ≤ x3 ∧ x3 ≤ k
section
variable {k k' : Int} {H H' : Hp} {b p : Addr} {o : HO}
theorem FeedAt.mono (h : FeedAt k H b) (l : k ≤ k') : FeedAt k' H b := by
  obtain ⟨c, n0, nr, x1, x2, x3, e, e2, r1, r2, r3, r4⟩ := h
  exact ⟨c, n0, nr, x1, x2, x3, e, e2, r1, r2, r3, by omega⟩
theorem FeedAt.ex (h : FeedAt k H b) : ∃ o, H b = some o := by
  obtain ⟨c, n0, nr, x1, x2, x3, e, _⟩ := h
  exact ⟨_, e⟩
theorem FeedAt.ne (h : FeedAt k H b) (n : H p = none) : b ≠ p := by
  obtain ⟨_, e⟩ := h.ex
  exact ne_of_none e n
theorem FeedAt.new (h : FeedAt k H b) (n : H p = none) : FeedAt k (upd H p o) b := by
  obtain ⟨c, n0, nr, x1, x2, x3, e, e2, r⟩ := h
  exact ⟨c, n0, nr, x1, x2, x3, keepN e n, keepN e2 n, r⟩
theorem FeedAt.same (h : FeedAt k H b) (s : Same H H') : FeedAt k H' b := by
  obtain ⟨c, n0, nr, x1, x2, x3, e, e2, r⟩ := h
  exact ⟨c, n0, nr, x1, x2, x3, s _ _ e, s _ _ e2, r⟩
theorem FeedAt.nes (h : FeedAt k H b) {ss : List Str} (e : H p = some (.lst (ss.map V.str))) : p ≠ b := by
  obtain ⟨c, n0, nr, x1, x2, x3, e1, e2, r⟩ := h
  rintro rfl
  rw [e1] at e
  cases ss <;> simp at e
/-- a list of texts changes -/
theorem FeedAt.upd (h : FeedAt k H b) {ss : List Str} (e : H p = some (.lst (ss.map V.str))) : FeedAt k (L2.upd H p o) b := by
  have hn := h.nes e
  obtain ⟨c, n0, nr, x1, x2, x3, e1, e2, r⟩ := h
  have hc : c ≠ p := by
    rintro rfl
    rw [e2] at e
    cases ss <;> simp at e
  exact ⟨c, n0, nr, x1, x2, x3, by rw [upd_ne hn.symm]; exact e1, by rw [upd_ne hc]; exact e2, r⟩
/-- all but the feed's box stays; its cells stay its cells -/
def ButF (b : Addr) (H H' : Hp) : Prop := But b H H' ∧ ∀ (c : Addr) (x1 x2 x3 : Int), H b = some (.lst [.ref c, .int x1, .int x2, .int x3]) → ∃ y1 y2 y3 : Int, H' b = some (.lst [.ref c, .int y1, .int y2, .int y3])
instance {b : Addr} {H H' : Hp} : CoeFun (ButF b H H') (fun _ => ∀ a o, a ≠ b → H a = some o → H' a = some o) := ⟨fun x => x.1⟩
theorem ButF.refl {b : Addr} {H : Hp} : ButF b H H := ⟨But.refl, fun _ _ _ _ h => ⟨_, _, _, h⟩⟩
theorem ButF.trans {b : Addr} {H H1 H2 : Hp} (x : ButF b H H1) (y : ButF b H1 H2) : ButF b H H2 := ⟨x.1.trans y.1, fun c x1 x2 x3 h => by
  obtain ⟨y1, y2, y3, h1⟩ := x.2 c x1 x2 x3 h
  exact y.2 c y1 y2 y3 h1⟩
theorem ButF.new {b p : Addr} {H H1 : Hp} {o : HO} (x : ButF b H H1) (h : H1 p = none) : ButF b H (L2.upd H1 p o) := ⟨x.1.new h, fun c x1 x2 x3 e => by
  obtain ⟨y1, y2, y3, h1⟩ := x.2 c x1 x2 x3 e
  exact ⟨y1, y2, y3, by rw [upd_ne (ne_of_none h1 h)]; exact h1⟩⟩
theorem ButF.of {b : Addr} {H H1 : Hp} (x : Same H H1) : ButF b H H1 := ⟨But.of x, fun c x1 x2 x3 e => ⟨_, _, _, x _ _ e⟩⟩
theorem ButF.mut {b : Addr} {H1 H : Hp} {D : Addr} {o : HO} (s : ButF b H1 H) (hD : H1 D = none) : ButF b H1 (L2.upd H D o) := ⟨s.1.mut hD, fun c x1 x2 x3 e => by
  obtain ⟨y1, y2, y3, h1⟩ := s.2 c x1 x2 x3 e
  exact ⟨y1, y2, y3, by rw [upd_ne (ne_of_none e hD)]; exact h1⟩⟩
theorem ButF.at {b c : Addr} {H H' : Hp} {x1 x2 x3 y1 y2 y3 : Int} (f : But b H H') (e : H b = some (.lst [.ref c, .int x1, .int x2, .int x3])) (e' : H' b = some (.lst [.ref c, .int y1, .int y2, .int y3])) : ButF b H H' :=
  ⟨f, fun c' _ _ _ h => by
    rw [e] at h
    cases h
    exact ⟨_, _, _, e'⟩⟩
theorem ButF.sql {K : PySem.W.Frag} {b a : Addr} {H H1 : Hp} {xs : List V} (x : ButF b H H1) (n : a ≠ b) (h : SqL K H a xs) : SqL K H1 a xs := x.1.sql n h
theorem ButF.free' {H1 : Hp} (x : ButF b H H1) (hb : FeedAt k H1 b) (h : H1 p = none) : H p = none := by
  obtain ⟨_, e⟩ := hb.ex
  exact x.1.free e h
end
def spDraw : Sp := fun vs H Q _ => ∃ (b : Addr) (m k : Int), vs = [.ref b, .int m] ∧ FeedAt k H b ∧ k ≤ 1000000000000 ∧ 0 < m ∧ m < 18446744073709551616 ∧
  ∀ (r : Int) (H' : Hp), 0 ≤ r → r < m → FeedAt (k + 1) H' b → ButF b H H' → Q (.int r) H'
theorem use_draw {H : Hp} {Q : VK} {E : XK} {b : Addr} {m k : Int} (hb : FeedAt k H b) (hk : k ≤ 1000000000000) (hm : 0 < m) (hl : m < 18446744073709551616)
    (g : ∀ (r : Int) (H' : Hp), 0 ≤ r → r < m → FeedAt (k + 1) H' b → ButF b H H' → Q (.int r) H') : spDraw [.ref b, .int m] H Q E := ⟨b, m, k, rfl, hb, hk, hm, hl, g⟩
def spFeed (K : PySem.W.Frag) : Sp := fun vs H Q _ => ∃ (a : Addr) (ns : List Int), vs = [.ref a] ∧ SqL K H a (ns.map V.int) ∧ ns.length ≤ 63 ∧
  ∀ (b : Addr) (H' : Hp), Same H H' → H b = none → (∀ (c : Addr) (x1 x2 x3 : Int), H' b = some (.lst [.ref c, .int x1, .int x2, .int x3]) → H c = none) → FeedAt 0 H' b → Q (.ref b) H'
/-- four letters -/
structure L4 (z : Str) : Prop where
  len : (tl z).length = 4
  low : ∀ c ∈ tl z, low c = true
def spPartF : Sp := fun vs H Q _ => ∃ (b : Addr) (z : Str) (k : Int), vs = [.ref b, .str z] ∧ FeedAt k H b ∧ k ≤ 100000000000 ∧ L4 z ∧ ∀ (s : Str) (H' : Hp), partL (tl s) = true → FeedAt (k + 20) H' b → ButF b H H' → Q (.str s) H'
def fitL (l : List Nat) : Bool := decide (l.length ≤ 24) && (decide ((spA [] l).length ≤ 4) && (spA [] l).all fun p => decide (p.length ≤ 12))
def spFit : Sp := fun vs H Q _ => ∃ s : Str, vs = [.str s] ∧ s.length ≤ 1000 ∧ ∀ H', Same H H' → Q (.bl (fitL (tl s))) H'
/-- a drawn word, near the words told -/
def spWordF (K : PySem.W.Frag) : Sp := fun vs H Q _ => ∃ (b a : Addr) (ss : List Str) (z : Str) (k : Int), vs = [.ref b, .ref a, .str z] ∧ FeedAt k H b ∧ k ≤ 10000000000 ∧ H a = some (.lst (ss.map V.str)) ∧ ss.length ≤ 1000 ∧ (∀ s ∈ ss, isW s = true) ∧ L4 z ∧
  ∀ (s : Str) (H' : Hp), isW s = true → FeedAt (k + 100) H' b → ButF b H H' → Q (.str s) H'
def spWordsF (K : PySem.W.Frag) : Sp := fun vs H Q _ => ∃ (b : Addr) (m k : Int), vs = [.ref b, .int m] ∧ FeedAt k H b ∧ k ≤ 1000000000 ∧ 0 < m ∧ m ≤ 1000 ∧
  ∀ (q : Addr) (ss : List Str) (H' : Hp), H' q = some (.lst (ss.map V.str)) → H q = none → ss.Nodup → ss ≠ [] → (ss.length : Int) ≤ m → (∀ s ∈ ss, isW s = true) → FeedAt (k + 200 * m + 10) H' b → ButF b H H' → Q (.ref q) H'
/-! ### a word lengthened -/
theorem spA_snoc : ∀ (l acc : List Nat) {c : Nat}, c ≠ 32 → ∃ ps p, spA acc l = ps ++ [p] ∧ spA acc (l ++ [c]) = ps ++ [p ++ [c]]
  | [], acc, c, h => ⟨[], acc, rfl, by simp [spA, h]⟩
  | d :: l, acc, c, h => by
    by_cases e : d = 32
    · subst e
      obtain ⟨ps, p, h1, h2⟩ := spA_snoc l [] h
      exact ⟨acc :: ps, p, by simp [spA, h1], by simp [spA, h2]⟩
    · obtain ⟨ps, p, h1, h2⟩ := spA_snoc l (acc ++ [d]) h
      refine ⟨ps, p, ?_, ?_⟩
      · simp only [spA, if_neg e]; exact h1
      · show spA acc (d :: (l ++ [c])) = _
        simp only [spA, if_neg e]; exact h2
theorem spA_more : ∀ (l acc m : List Nat), spA acc (l ++ 32 :: m) = spA acc l ++ spA [] m
  | [], acc, m => by simp [spA]
  | d :: l, acc, m => by
    by_cases e : d = 32
    · subst e
      show spA acc (32 :: (l ++ 32 :: m)) = _
      simp only [spA, if_pos]
      rw [spA_more l [] m]; rfl
    · show spA acc (d :: (l ++ 32 :: m)) = _
      simp only [spA, if_neg e]
      exact spA_more l (acc ++ [d]) m
theorem word_of_fit {l : List Nat} (hf : fitL l = true) (hp : ∀ p ∈ spA [] l, p ≠ [] ∧ p.all low = true) : wordL l = true := by
  unfold fitL at hf
  simp only [Bool.and_eq_true, decide_eq_true_eq, List.all_eq_true] at hf
  unfold wordL
  simp only [Bool.and_eq_true, decide_eq_true_eq, List.all_eq_true]
  refine ⟨⟨hf.1, hf.2.1⟩, fun p h => ?_⟩
  unfold partL
  have h1 := hp p h
  have h2 : 1 ≤ p.length := List.length_pos_iff.mpr h1.1
  simp only [h1.2, Bool.and_true, Bool.and_eq_true, decide_eq_true_eq]
  exact ⟨h2, hf.2.2 p h⟩
theorem wordL_parts {l : List Nat} (h : wordL l = true) : ∀ p ∈ spA [] l, p ≠ [] ∧ p.all low = true := fun p hp => by
  unfold wordL at h
  simp only [Bool.and_eq_true, List.all_eq_true] at h
  have := h.2 p hp
  exact ⟨partL_ne this, List.all_eq_true.mpr (partL_low this)⟩
theorem longer_word {l : List Nat} {c : Nat} (h : wordL l = true) (hc : low c = true) (hf : fitL (l ++ [c]) = true) : wordL (l ++ [c]) = true := by
  refine word_of_fit hf fun p hp => ?_
  obtain ⟨ps, q, h1, h2⟩ := spA_snoc l [] (low_ne hc)
  have hw := wordL_parts h
  rw [h1] at hw
  rw [h2] at hp
  rcases List.mem_append.mp hp with hp | hp
  · exact hw p (List.mem_append.mpr (.inl hp))
  · have e : p = q ++ [c] := by simpa using hp
    subst e
    have := hw q (by simp)
    exact ⟨by simp, by rw [List.all_append, this.2]; simp [hc]⟩
theorem longer_word2 {l : List Nat} {c : Nat} (h : wordL l = true) (hc : low c = true) (hf : fitL (l ++ [32, c]) = true) : wordL (l ++ [32, c]) = true := by
  refine word_of_fit hf fun p hp => ?_
  have e : spA [] (l ++ [32, c]) = spA [] l ++ [[c]] := by
    rw [spA_more l [] [c], spA_one (p := [c]) (by
      have := low_ne hc
      simp [eq_comm, this])]
  rw [e] at hp
  rcases List.mem_append.mp hp with hp | hp
  · exact wordL_parts h p hp
  · have : p = [c] := by simpa using hp
    subst this
    exact ⟨by simp, by simp [hc]⟩
/-! ### tails -/
theorem starts_is (a b : Str) : Txt.startswith a b = decide ((tl a).take (tl b).length = tl b) := by
  unfold Txt.startswith
  rw [PySem.StrLaws.subAt_eq, Nat.zero_add, List.drop_zero, Bool.eq_iff_iff, Bool.and_eq_true, decide_eq_true_eq, decide_eq_true_eq, beq_iff_eq, len_tl b, len_tl a]
  show (tl b).length ≤ (tl a).length ∧ (tl a).take (tl b).length = tl b ↔ _
  constructor
  · exact fun h => h.2
  · intro h
    refine ⟨?_, h⟩
    have := congrArg List.length h
    rw [List.length_take] at this; omega
def sj : List (List Nat) → List (List Nat)
  | [] => []
  | p :: r => joinL [32] (p :: r) :: sj r
def tailsA : List Nat → List (List Nat)
  | [] => []
  | c :: r => if c = 32 then r :: tailsA r else tailsA r
theorem sj_spA : ∀ (l acc : List Nat), sj (spA acc l) = (acc ++ l) :: tailsA l
  | [], acc => by simp [spA, sj, tailsA, joinL]
  | c :: r, acc => by
    by_cases h : c = 32
    · subst h
      have e : spA acc (32 :: r) = acc :: spA [] r := by simp [spA]
      have e2 : tailsA (32 :: r) = r :: tailsA r := by simp [tailsA]
      rw [e, e2]
      show joinL [32] (acc :: spA [] r) :: sj (spA [] r) = _
      rw [joinL_cons acc (spA_ne r []), join_spA, sj_spA r []]
      simp
    · have e : spA acc (c :: r) = spA (acc ++ [c]) r := by simp [spA, h]
      have e2 : tailsA (c :: r) = tailsA r := by simp [tailsA, h]
      rw [e, e2, sj_spA r]; simp
theorem sj_len : ∀ P : List (List Nat), (sj P).length = P.length
  | [] => rfl
  | _ :: r => by simp [sj, sj_len r]
theorem sj_get : ∀ (P : List (List Nat)) (k : Nat), k < P.length → (sj P)[k]? = some (joinL [32] (P.drop k))
  | p :: r, 0, _ => by simp [sj]
  | p :: r, k + 1, h => by
    have := sj_get r k (by simpa using h)
    simpa [sj] using this
def tailsL (l : List Nat) : List (List Nat) := l :: tailsA l
theorem tails_len (l : List Nat) : (tailsL l).length = (spA [] l).length := by
  have := sj_spA l []
  simp only [List.nil_append] at this
  unfold tailsL
  rw [← this, sj_len]
theorem tails_get {l : List Nat} {k : Nat} (h : k < (tailsL l).length) : (tailsL l)[k]? = some (joinL [32] ((spA [] l).drop k)) := by
  have := sj_spA l []
  simp only [List.nil_append] at this
  rw [tails_len] at h
  unfold tailsL
  rw [← this]
  exact sj_get _ _ h
theorem tailsA_len : ∀ l : List Nat, (tailsA l).length ≤ l.length
  | [] => Nat.le_refl _
  | c :: r => by
    unfold tailsA
    have := tailsA_len r
    split <;> simp <;> omega
/-- the first tail that begins so -/
def foundAt (l t : List Nat) : Option Nat := (List.range (tailsL l).length).find? fun k => decide (((tailsL l).getD k []).take t.length = t)
def optI : Option Nat → V
  | none => .non
  | some k => .int k
def spTail : Sp := fun vs H Q _ => ∃ (w : Str) (k : Nat), vs = [.str w, .int k] ∧ isW w = true ∧ k < (tailsL (tl w)).length ∧ ∀ (s : Str) (H' : Hp), tl s = (tailsL (tl w)).getD k [] → Tx 30 s → Same H H' → Q (.str s) H'
def spFound : Sp := fun vs H Q _ => ∃ w t : Str, vs = [.str w, .str t] ∧ isW w = true ∧ ∀ H', Same H H' → Q (optI (foundAt (tl w) (tl t))) H'
def spTails : Sp := fun vs H Q _ => ∃ w : Str, vs = [.str w] ∧ isW w = true ∧ ∀ (q : Addr) (ts : List Str) (H' : Hp), H' q = some (.lst (ts.map V.str)) → H q = none → ts.map tl = tailsL (tl w) → Same H H' → Q (.ref q) H'
def spBegF : Sp := fun vs H Q _ => ∃ (b a : Addr) (ss : List Str) (k : Int), vs = [.ref b, .ref a] ∧ FeedAt k H b ∧ k ≤ 100000000000 ∧ H a = some (.lst (ss.map V.str)) ∧ a ≠ b ∧ ss ≠ [] ∧ ss.length ≤ 1000 ∧ (∀ s ∈ ss, isW s = true) ∧
  ∀ (s : Str) (H' : Hp), Tx 24 s → FeedAt (k + 10) H' b → ButF b H H' → Q (.str s) H'
theorem wordL_spA {l : List Nat} (h : wordL l = true) : (spA [] l).length ≤ 4 := by
  unfold wordL at h
  simp only [Bool.and_eq_true, decide_eq_true_eq] at h
  exact h.1.2
theorem tl_cut_mid {z : Str} {i j : Nat} (h : i ≤ j) (hj : j ≤ (tl z).length) : tl (cutS z (some (i : Int)) (some (j : Int))) = ((tl z).drop i).take (j - i) := by
  unfold cutS
  rw [tl_mk, HT.sIx_nat, HT.sIx_nat, len_tl, Nat.min_eq_left (show i ≤ (tl z).length by omega)]
  first
    | rw [Nat.min_eq_left hj]
    | rfl
theorem joinL_drop_len : ∀ (P : List (List Nat)) (k : Nat), (joinL [32] (P.drop k)).length ≤ (joinL [32] P).length
  | [], k => by simp
  | p :: r, 0 => Nat.le_refl _
  | p :: r, k + 1 => by
    have := joinL_drop_len r k
    rw [List.drop_succ_cons]
    cases r with
    | nil => simp [joinL]
    | cons q r =>
      rw [joinL_cons p (by simp)]
      simp only [List.length_append, List.length_cons]
      omega
theorem suff_len (l : List Nat) (k : Nat) : (joinL [32] ((spA [] l).drop k)).length ≤ l.length := by
  have := joinL_drop_len (spA [] l) k
  rw [join_spA] at this
  simpa using this
end Ah
set_option Elab.async false
set_option linter.all false
set_option maxRecDepth 100000
set_option maxHeartbeats 4000000
/-! feeds of draws as things -/
namespace Ah
open PySem PySem.Spec PyProof.Rows L2 TL
def fdr (k : Int) (b : Addr) : Res where
  p G S := ∃ (c : Addr) (n0 : Int) (nr : List Int) (x1 x2 x3 : Int), G b = some (.lst [.ref c, .int x1, .int x2, .int x3]) ∧ G c = some (.lst (.int n0 :: nr.map V.int)) ∧ (nr.length ≤ 1000 ∧ 0 ≤ x1 ∧ 0 ≤ x3 ∧ x3 ≤ k) ∧ ∀ x, S x ↔ x = b ∨ x = c
  stay := by
    rintro G G' S ⟨c, n0, nr, x1, x2, x3, h1, h2, h3, h4⟩ k t
    exact ⟨c, n0, nr, x1, x2, x3, by rw [k b ((h4 b).mpr (.inl rfl))]; exact h1, by rw [k c ((h4 c).mpr (.inr rfl))]; exact h2, h3, h4⟩
  here := by
    rintro G S a ⟨c, n0, nr, x1, x2, x3, h1, h2, h3, h4⟩ ha
    rcases (h4 a).mp ha with rfl | rfl
    · exact ⟨_, h1, by intro zs e; cases e⟩
    · exact ⟨_, h2, by intro zs e; cases e⟩
theorem ent_fdr {k k' : Int} {b : Addr} (h : k ≤ k') : Ent (fdr k b) (fdr k' b) := fun G S ⟨c, n0, nr, x1, x2, x3, h1, h2, h3, h4⟩ => ⟨S, ⟨c, n0, nr, x1, x2, x3, h1, h2, ⟨h3.1, h3.2.1, h3.2.2.1, by omega⟩, h4⟩, fun _ z => z⟩
section
variable {L M F : List Res} {H H' : Hp} {k k' : Int} {b q a : Addr} {A A' R : Res} {Q : VK} {E : XK} {K : PySem.W.Frag} {ss : List Str}
theorem Sep.feed (h : Sep L H) (c : Pick (fdr k b) L M) : FeedAt k H b := by
  obtain ⟨S, c, n0, nr, x1, x2, x3, h1, h2, h3, _⟩ := h.of c
  exact ⟨c, n0, nr, x1, x2, x3, h1, h2, h3.1, h3.2.1, h3.2.2.1, h3.2.2.2⟩
theorem feed_step (f : ButF b H H') (g : FeedAt k' H' b) (S : Addr → Prop) (hS : (fdr k b).p H S) : (∃ S', (fdr k' b).p H' S' ∧ ∀ a, S' a → S a ∨ H a = none) ∧ ∀ a o, ¬ S a → H a = some o → H' a = some o := by
  obtain ⟨c, n0, nr, x1, x2, x3, h1, h2, h3, h4⟩ := hS
  obtain ⟨y1, y2, y3, e1⟩ := f.2 c x1 x2 x3 h1
  obtain ⟨c2, m0, mr, z1, z2, z3, g1, g2, g3⟩ := g
  rw [e1] at g1
  cases g1
  exact ⟨⟨S, ⟨c, m0, mr, _, _, _, e1, g2, g3, h4⟩, fun _ z => .inl z⟩, fun a o n e => f.1 a o (fun z => n ((h4 a).mpr (.inl z))) e⟩
theorem Sep.drawn (h : Sep L H) (c : Chg (fdr k b) (fdr k' b) L M) (f : ButF b H H') (g : FeedAt k' H' b) : Sep M H' := h.chg c (feed_step f g)
/-- the first thing changes, and there is a new one -/
theorem Sep.stepAdd {G G' : Hp} {T : Addr → Prop} (h : Sep (A :: F) G) (k : ∀ S, A.p G S → (∃ S', A'.p G' S' ∧ (∀ a, S' a → S a ∨ G a = none) ∧ ∀ a, T a → ¬ S' a) ∧ ∀ a o, ¬ S a → G a = some o → G' a = some o) (hR : R.p G' T) (hT : ∀ a, T a → G a = none) : Sep (R :: A' :: F) G' := by
  obtain ⟨S, h1, _, h3⟩ := h.s
  obtain ⟨⟨S', g1, g2, g4⟩, g3⟩ := k S h1
  have tm : TupM G G' := fun t zs e => g3 t _ (fun z => by
    obtain ⟨o, e2, n⟩ := A.here h1 z
    rw [e] at e2
    exact n zs (Option.some.inj e2).symm) e
  exact ⟨T, hR, fun a _ z => z, S', g1, fun a ha z => by
    rcases z with z | z
    · exact z
    · exact g4 a z ha, SepA.stay h3 (fun a o n e => g3 a o (fun z => n (.inr z)) e) (fun a z => by
      rcases z with (z | z) | z
      · exact z.elim
      · exact .inr (hT a z)
      · exact (g2 a z).imp .inr id) tm⟩
theorem c_draw {m : Int} (h : Sep L H) (c : Chg (fdr k b) (fdr (k + 1) b) L M) (hk : k ≤ 1000000000000) (hm : 0 < m ∧ m < 18446744073709551616) (q : ∀ (r : Int) (H' : Hp), 0 ≤ r ∧ r < m → Sep M H' → Q (.int r) H') : spDraw [.ref b, .int m] H Q E := by
  obtain ⟨F, k1, k2⟩ := c.picks
  exact ⟨b, m, k, rfl, h.feed k1, hk, hm.1, hm.2, fun r H' r0 r1 g f => q r H' ⟨r0, r1⟩ (h.drawn c f g)⟩
theorem c_feed {ns : List Int} (h : Sep L H) (c : Pick (scr K a (ns.map V.int)) L M) (hl : ns.length ≤ 63) (q : ∀ (b : Addr) (H' : Hp), Sep (fdr 0 b :: L) H' → Q (.ref b) H') : spFeed K [.ref a] H Q E :=
  ⟨a, ns, rfl, h.scr c, hl, fun b H' s hb hc ⟨c, n0, nr, x1, x2, x3, g1, g2, g3⟩ => q b H' (h.add (A := fdr 0 b) (S := fun x => x = b ∨ x = c) s ⟨c, n0, nr, x1, x2, x3, g1, g2, g3, fun _ => Iff.rfl⟩ fun x hx => by
    rcases hx with rfl | rfl
    · exact hb
    · exact hc _ _ _ _ g1)⟩
theorem c_wordsF {m : Int} (h : Sep L H) (c : Pick (fdr k b) L F) (hk : k ≤ 1000000000) (hm : 0 < m ∧ m ≤ 1000) (z : ∀ (q : Addr) (ss : List Str) (H' : Hp), ss.Nodup → ss ≠ [] → (ss.length : Int) ≤ m → (∀ s ∈ ss, isW s = true) → Sep (lis q (ss.map V.str) :: fdr (k + 200 * m + 10) b :: F) H' → Q (.ref q) H') : spWordsF K [.ref b, .int m] H Q E :=
  ⟨b, m, k, rfl, h.feed c, hk, hm.1, hm.2, fun q ss H' hq hn nd ne hl hw g f => z q ss H' nd ne hl hw (Sep.stepAdd (T := fun x => x = q) (h.pick c) (fun S hS => by
    obtain ⟨⟨S', s1, s2⟩, s3⟩ := feed_step (k' := k + 200 * m + 10) f g S hS
    refine ⟨⟨S', s1, s2, fun a ha hs => ?_⟩, s3⟩
    subst ha
    obtain ⟨c, n0, nr, x1, x2, x3, h1, h2, h3, h4⟩ := hS
    obtain ⟨c', m0, mr, y1, y2, y3, g1, g2, g3, g4⟩ := s1
    obtain ⟨w1, w2, w3, e1⟩ := f.2 c x1 x2 x3 h1
    rw [e1] at g1
    cases g1
    rcases (g4 a).mp hs with rfl | rfl
    · rw [hn] at h1; cases h1
    · rw [hn] at h2; cases h2) ⟨fun _ => Iff.rfl, _, hq, rfl⟩ fun x hx => by subst hx; exact hn)⟩
theorem fdr_ne (h : Sep L H) (c : Pick (fdr k b) L M) (c2 : Pick (lis a (ss.map V.str)) L F) : a ≠ b := (h.feed c).nes (h.lis c2)
theorem c_begF (h : Sep L H) (c : Chg (fdr k b) (fdr (k + 10) b) L M) (c2 : Pick (lis a (ss.map V.str)) L F) (hk : k ≤ 100000000000) (hne : ss ≠ []) (hl : ss.length ≤ 1000) (hw : ∀ s ∈ ss, isW s = true) (q : ∀ (s : Str) (H' : Hp), Tx 24 s → Sep M H' → Q (.str s) H') : spBegF [.ref b, .ref a] H Q E := by
  obtain ⟨F', k1, k2⟩ := c.picks
  exact ⟨b, a, ss, k, rfl, h.feed k1, hk, h.lis c2, fdr_ne h k1 c2, hne, hl, hw, fun s H' tx g f => q s H' tx (h.drawn c f g)⟩
end
end Ah
set_option Elab.async false
set_option linter.all false
set_option maxRecDepth 100000
set_option maxHeartbeats 4000000
/-! defs that call repr: their promises hold where no repr is under way -/
namespace Ah
open PySem PySem.Spec PyProof.Rows L2 TL
/-- a def's promise where no repr is under way -/
structure OkG (P : Program) (w : World) (K : PySem.W.Frag) (mg : Str → Option Value) (base : Heap) (k : Nat) (f : Addr) (fd : FuncData) (ps : List Str) (sp : Sp) : Prop where
  len : ∀ vs H Q E, sp vs H Q E → vs.length = ps.length
  run : ∀ (A : Around) (outer : List Env) (s : Shared) (H : Hp) (args : Args) (us : List Value) (vs : List V) (Q : VK) (E : XK), A.guards = some [] → Room k A → Env0 P w K mg base A outer s H → BindsTo s fd args (ps.zip us) → Vals vs us → sp vs H Q E →
    codeAny (model P w) A (.call (.ref f) args) (CR (L2.CX P w) outer P w H s Q E) s
structure FnG (P : Program) (w : World) (K : PySem.W.Frag) (mg : Str → Option Value) (base : Heap) (k : Nat) (x : Str) (ps : List Str) (sp : Sp) : Prop where
  ex : ∃ (f : Addr) (fd : FuncData), OkG P w K mg base k f fd ps sp ∧ mg x = some (.ref f) ∧ PySem.W.keepIn K (.ref f) = true ∧ Binds K fd ps []
section
variable {P : Program} {w : World} {K : PySem.W.Frag} {mg : Str → Option Value} {base : Heap} {k : Nat} {x qual : Str} {ps N : List Str} {sp : Sp} {st : Stmt}
theorem okG_of {f : Addr} {fd : FuncData} (F : Fun K x qual st f fd) (S : FnScope N ps (defScope st)) (len : ∀ vs H Q E, sp vs H Q E → vs.length = ps.length)
    (hbody : ∀ (cdv : Value) (A : Around) (outer : List Env) (s : Shared) (H : Hp) (vs : List V) (Q : VK) (E : XK), A.guards = some [] → Room k (A.deeper (envOfC qual (defScope st) s.heap.objs.size f cdv)) → sp vs H Q E →
      ∃ t, PSs (cxOf (L2.CX P w) P w K mg base N qual (defScope st) f cdv A outer s H E) (defBody st) t ∧ t { nx := fun _ H' => Q .non H', rt := Q } (start N vs) H) : OkG P w K mg base (k + 1) f fd ps sp := by
  obtain ⟨oc, od, kV, doc, pm, an, cdv, ct, osl, rfl, lk, hcd⟩ := F.ex
  refine ⟨len, fun A outer s H args us vs Q E hg hr e0 hb r hsp => ?_⟩
  have KX : K.In s.heap := e0.mod.kin.keeps fun b o e => (e0.bs b o e).1
  have lim : s.heap.NoLimit := e0.mod.nolimit.keeps fun b o e => (e0.bs b o e).1
  refine codeAny_call_function hr.depth (KX _ _ lk) rfl S.co S.gen rfl (PySem.W.codeRec_of KX hcd) (hb _ _ _ _ ?_)
  refine wpAny_newFunctionEnv_cells S.kind (fun ⟨n, v⟩ hy => (S.par n (List.of_mem_zip hy).1).imp id fun q => ⟨q, PySem.W.cellsFrom_some _ _ _ (.inl q)⟩) fun env he s1 z => ?_
  subst he
  refine ⟨lim.keeps z.toInCall.keep, codeAny_func ?_⟩
  obtain ⟨t, ht, hq⟩ := hbody cdv A outer s H vs Q E hg (hr.deeper _) hsp
  refine wpAny_mono (ht.run [] s1 (start N vs) H _ (inv_start S hr.hd e0 (len _ _ _ _ hsp) r z) hq) (fun fl s' hs => ?_) fun e s' hs => hs
  cases fl with
  | ret u =>
    obtain ⟨v, σ', H', J, rv, q⟩ := hs
    exact ⟨v, H', J.os, J.bare, J.base, J.hok, rv, q⟩
  | next =>
    obtain ⟨σ', H', J, q⟩ := hs
    exact ⟨V.non, H', J.os, J.bare, J.base, J.hok, rfl, q⟩
  | brk => exact hs.elim fun _ h => h.elim fun _ h => h.2.elim
  | cont => exact hs.elim fun _ h => h.elim fun _ h => h.2.elim
theorem DefAt.okG (D : DefAt K mg x st) (S : FnScope N ps (defScope st)) (B : BindOk x st ps) (len : ∀ vs H Q E, sp vs H Q E → vs.length = ps.length)
    (hbody : ∀ (f : Addr) (cdv : Value) (A : Around) (outer : List Env) (s : Shared) (H : Hp) (vs : List V) (Q : VK) (E : XK), A.guards = some [] → Room k (A.deeper (envOfC x (defScope st) s.heap.objs.size f cdv)) → sp vs H Q E →
      ∃ t, PSs (cxOf (L2.CX P w) P w K mg base N x (defScope st) f cdv A outer s H E).nox (defBody st) t ∧ t { nx := fun _ H' => Q .non H', rt := Q } (start N vs) H) : FnG P w K mg base (k + 1) x ps sp := by
  obtain ⟨f, fd, F, m⟩ := D.ex
  refine ⟨f, fd, okG_of F S len fun cdv A outer s H vs Q E hg hr h => ?_, m, F.kp, F.binds B⟩
  obtain ⟨t, h1, h2⟩ := hbody f cdv A outer s H vs Q E hg hr h
  exact ⟨t, h1.nox, h2⟩
theorem Fun.okG {f : Addr} {fd : FuncData} (F : Fun K x x st f fd) (S : FnScope N ps (defScope st)) (len : ∀ vs H Q E, sp vs H Q E → vs.length = ps.length)
    (hbody : ∀ (cdv : Value) (A : Around) (outer : List Env) (s : Shared) (H : Hp) (vs : List V) (Q : VK) (E : XK), A.guards = some [] → Room k (A.deeper (envOfC x (defScope st) s.heap.objs.size f cdv)) → sp vs H Q E →
      ∃ t, PSs (cxOf (L2.CX P w) P w K mg base N x (defScope st) f cdv A outer s H E).nox (defBody st) t ∧ t { nx := fun _ H' => Q .non H', rt := Q } (start N vs) H) : OkG P w K mg base (k + 1) f fd ps sp :=
  okG_of F S len fun cdv A outer s H vs Q E hg hr h => by
    obtain ⟨t, h1, h2⟩ := hbody cdv A outer s H vs Q E hg hr h
    exact ⟨t, h1.nox, h2⟩
end
section
variable {X : Cx} {k : Nat} {ps : List Str} {sp : Sp} {E : XK} {x : Str} {p pos : Pos} {e : Expr} {es : List Expr} {t : TA}
theorem pe_fnG (F : FnG X.prog X.w X.K X.mg X.base k x ps sp) (hgd : X.A.guards = some []) (hr : Room k X.A) (hx : Passes (L2.CX X.prog X.w) X E) (ha : PA X (e :: es) t) (hg : Gl X x := by rfl)
    (hdb : (x == ("__debug__" : Str)) = false := by decide) (he : starEach (e :: es) X.env = (false, eval e X.env) :: starEach es X.env := by rfl) (hpl : (backTo pos (starEach es X.env)).any (·.1) = false := by rfl) :
    PE X (.Call (.Name x p) (e :: es) [] pos) (tCall sp [] E t) := by
  obtain ⟨f, fd, a, m, kp, b⟩ := F.ex
  refine ⟨fun pins s σ H Q I h => ?_⟩
  refine wpAny_Call_Name_kw (ld_glob I hg m ?_ hdb)
  refine PySem.W.callWith_K (h₀ := X.base) I.ok.mod.kin kp (thn (ha.run pos pins s σ H _ I h) fun us s1 ⟨vs, H1, I1, r, q⟩ => ⟨I1.kIn, ?_⟩) he hpl
  have q2 : sp (vs ++ []) H1 Q E := q
  rw [List.append_nil] at q2
  have hl : us.length = ps.length := by rw [← r.length]; exact a.len _ _ _ _ q2
  have hb := b s1 us I1.kIn (by rw [List.append_nil]; exact hl)
  rw [List.append_nil] at hb
  refine wpAny_call (codeAny_mono (a.run X.A X.stack s1 H1 ⟨us, []⟩ us vs Q E hgd hr I1.env0 hb r q2) fun r s' hq => ?_)
  cases r with
  | error e => exact hx pins σ H1 s1 e s' I1 hq
  | ok fl =>
    cases fl with
    | ret u => exact I1.after hq
    | next => exact False.elim hq
    | brk => exact False.elim hq
    | cont => exact False.elim hq
end
/-! ### repr -/
def rRepr (K : PySem.W.Frag) : List V → Hp → VK → Prop := fun xs H Q => ∃ (a : Addr) (d : PyData), xs = [.ref a] ∧ Dp K H (.ref a) d ∧ d.showable = true ∧ d.hasDict = false ∧ d.depth ≤ 30 ∧ d.shown.length ≤ sizeLine ∧ Q (.str d.shown) H
theorem call_repr {X : Cx} {K : PySem.W.Frag} (hK : X.K = K) (hg : X.A.guards = some []) (hu : X.A.units + 64 < cLine) : CallR X (.builtin "repr") (rRepr K) := by
  subst hK
  intro pins s σ H xs us Q I r h
  obtain ⟨a, d, rfl, hd, h1, h2, h3, h4, q⟩ := h
  obtain ⟨u, rfl, rx⟩ := vals1 r
  obtain rfl : u = Value.ref a := rx
  obtain ⟨as, rd⟩ := Dp.reads I d (.ref a) (.ref a) hd rfl
  exact repr_of_reads' rd h1 (PyData.noDict_hsm h2) hg (by omega) (fun _ _ e => e) (fun h' u tk hk => ⟨.str d.shown, H, I.kept (t' := tk) hk, ⟨u, rfl⟩, q⟩) h4
/-! ### the law's end -/
section
variable {P : Program} {w : World} {K : PySem.W.Frag} {mg mb : Str → Option Value} {k : Nat} {fa a : Addr} {fd : FuncData} {x : Str} {sp : Sp} {s : Shared} {vs : List Value} {ns : List Int}
/-- the law runs from a heap in which at most the script is tracked -/
theorem law_run {H : Hp} (KX : K.In s.heap) (hns : s.heap.Ns mainGlobals mg) (hb : s.heap.Ns builtinsNs mb) (hbb : ∀ x : Str, x ≠ "__name__" → mb x = bootBuiltins x) (hlim : s.heap.NoLimit) (hg : s.gens = #[])
    (ha : s.heap.get? a = some { cls := .type "list", data := .seq vs.toArray }) (hr : Room k callerA)
    (F : ∀ base : Heap, K.In base → base.Ns mainGlobals mg → OkG P w K mg base k fa fd [x] sp) (hbind : ∀ (s : Shared) (u : Value), BindsTo s fd ⟨[u], []⟩ [(x, u)])
    (hsp : sp [.ref a] H (fun v _ => v = .bl true) fun _ _ _ => False) (hCX : ∀ e s', L2.CX P w [] H s (fun _ _ _ => False) e s' → False)
    (hO : Only H) (hok : HOk P w H s.heap) (hA : ∀ b, H b ≠ none → b = a ∧ K.lookup a = none) :
    codeAny (model P w) callerA (.call (.ref fa) ⟨[.ref a], []⟩) (fun r s' => r = .ok (.ret (.bool true)) ∧ OldK s.heap s'.heap ∧ s'.os = s.os ∧ AllBare s'.gens) s := by
  have off : ∀ b, (b = a → False) → H b = none := fun b n => by
    cases q : H b with
    | none => rfl
    | some u => exact (n (hA b (by rw [q]; simp)).1).elim
  have nsK : ∀ {b : Addr} {m : Str → Option Value}, s.heap.Ns b m → (hidT s.heap H).Ns b m := fun {b m} ⟨o, es, ep, e, d, r⟩ =>
    ⟨o, es, ep, hidT_get e (off b fun z => by
      subst z
      rw [ha] at e; cases e
      cases (show Data.seq vs.toArray _ = Data.dict es ep from d)), d, r⟩
  have hKb : K.In (hidT s.heap H) := fun b o e => hidT_get (KX b o e) (by
    cases q : H b with
    | none => rfl
    | some u =>
      obtain ⟨rfl, z⟩ := hA b (by rw [q]; simp)
      rw [z] at e; cases e)
  have hM : Mod K mg (hidT s.heap H) := ⟨hKb, nsK hns, ⟨mb, nsK hb, hbb⟩, hlim.elim fun mc h => ⟨mc, nsK h.1, h.2⟩⟩
  have e0 : Env0 P w K mg (hidT s.heap H) callerA [] s H := ⟨rfl, hM, fun b o e => of_hidT e, Nat.le_of_eq (hidT_size _ _), trivial, (fun b hb => nomatch (show b ∈ ([] : List Addr) from hb)), hok, .of_eq hg⟩
  refine codeAny_mono ((F _ hKb (nsK hns)).run callerA [] s H ⟨[.ref a], []⟩ [.ref a] [.ref a] _ _ rfl hr e0 (hbind s (.ref a)) (.cons rfl .nil) hsp) fun r s' h => ?_
  cases r with
  | error e => exact (hCX e s' h).elim
  | ok fl =>
    cases fl with
    | ret u =>
      obtain ⟨v, H', os, bare, un, hok', r', q⟩ := h
      obtain rfl : v = .bl true := q
      obtain rfl : u = Value.bool true := r'
      refine ⟨rfl, OldK.of_keep fun b o e => ?_, os, bare⟩
      rcases hO b with z | ⟨ob, zs, z⟩
      · exact un.keep b o e z (fun h => nomatch (show b ∈ ([] : List Addr) from h)) (by simp)
      · have e1 := (hok b _ z).1
        have e2 := (hok' b _ (un.frzs b ob _ z)).1
        rw [e] at e1; cases e1
        exact e2
    | next => exact False.elim h
    | brk => exact False.elim h
    | cont => exact False.elim h
theorem law_callG (KX : K.In s.heap) (hns : s.heap.Ns mainGlobals mg) (hb : s.heap.Ns builtinsNs mb) (hbb : ∀ x : Str, x ≠ "__name__" → mb x = bootBuiltins x) (hlim : s.heap.NoLimit) (hg : s.gens = #[])
    (ha : s.heap.get? a = some { cls := .type "list", data := .seq vs.toArray }) (hi : IntsAre vs ns) (hl : ns.length ≤ sizeLine) (hr : Room k callerA)
    (F : ∀ base : Heap, K.In base → base.Ns mainGlobals mg → OkG P w K mg base k fa fd [x] sp) (hbind : ∀ (s : Shared) (u : Value), BindsTo s fd ⟨[u], []⟩ [(x, u)])
    (hsp : ∀ H : Hp, Only H → SqL K H a (ns.map V.int) → sp [.ref a] H (fun v _ => v = .bl true) fun _ _ _ => False) (hCX : ∀ H e s', L2.CX P w [] H s (fun _ _ _ => False) e s' → False) :
    codeAny (model P w) callerA (.call (.ref fa) ⟨[.ref a], []⟩) (fun r s' => r = .ok (.ret (.bool true)) ∧ OldK s.heap s'.heap ∧ s'.os = s.os ∧ AllBare s'.gens) s := by
  have rv := vals_ints hi
  cases hk : K.lookup a with
  | some o =>
    have e := KX a o hk
    rw [ha] at e
    cases e
    have O : Only (fun _ => none) := fun _ => .inl rfl
    exact law_run KX hns hb hbb hlim hg ha hr F hbind (hsp _ O (.inr ⟨_, vs.toArray, _, hk, rfl, rfl, rfl, by rw [List.size_toArray, hi.length]; exact hl, by simpa using rv⟩)) (hCX _) O (fun b u z => nomatch (show (none : Option HO) = some u from z)) fun b z => absurd rfl z
  | none =>
    let H : Hp := fun b => if b = a then some (.frz { cls := .type "list", data := .seq vs.toArray } (.lst (ns.map V.int))) else none
    have at_a : H a = some (.frz { cls := .type "list", data := .seq vs.toArray } (.lst (ns.map V.int))) := if_pos rfl
    have else_ : ∀ b, b ≠ a → H b = none := fun b n => if_neg n
    have O : Only H := fun b => by
      by_cases c : b = a
      · rw [c]; exact .inr ⟨_, _, at_a⟩
      · exact .inl (else_ b c)
    refine law_run KX hns hb hbb hlim hg ha hr F hbind (hsp H O (.inl (.inr ⟨_, at_a⟩))) (hCX _) O (fun b u z => ?_) fun b z => ?_
    · by_cases c : b = a
      · subst c
        rw [at_a] at z
        cases z
        exact ⟨ha, by rw [List.length_map]; exact hl, vs, _, rv, ha⟩
      · rw [else_ b c] at z; cases z
    · by_cases c : b = a
      · exact ⟨c, hk⟩
      · exact absurd (else_ b c) z
end
theorem walkG {l : PySem.W.OpenLaw} {q : Program} {loose : List Str} {XP : (Str → Option Value) → Heap → Prop} {YP : World → Heap → Prop} {d : DefRec} {K : Params → PySem.W.Frag} {k : Nat} {x : Str} (hn : l.most = some 63) (hdf : d.params.defaults = []) (hr : Room k callerA)
    (hY : ∀ (w : World) (h : Heap), YP w h → (K w.params).In h)
    (F : ∀ (w : World) (mg : Str → Option Value) (fa : Addr) (h : Heap), (K w.params).In h → h.Ns mainGlobals mg → mg d.name = some (.ref fa) →
      ∃ fd : FuncData, (∀ (s : Shared) (u : Value), BindsTo s fd ⟨[u], []⟩ [(x, u)]) ∧ ∀ base : Heap, (K w.params).In base → base.Ns mainGlobals mg → OkG l.prog w (K w.params) mg base k fa fd [x] (spLaw (K w.params))) :
    PySem.W.WalkO q loose XP YP l.row.toRowW d [] (fun f vs => PySem.call f vs) := by
  refine Att.attach_call hn hdf fun w s₀ s₁ mg mb fa o pm cd doc a vs ns G Y ho hd hcd hmg hobj hints hlen hg => ?_
  have KX := hY w _ Y
  obtain ⟨fd, hb, hF⟩ := F w mg fa _ KX G.T.g hmg
  exact law_callG KX G.T.g G.T.b G.T.builtins G.T.nolimit hg hobj hints (Nat.le_trans hlen (by decide)) hr hF hb (fun H hO hS => ⟨a, ns, rfl, hS, hlen, fun _ => rfl⟩) fun _ _ _ z => by
    obtain ⟨_, _, _, _, _, _, _, _, _, _, _, _, z⟩ := z
    exact z
end Ah
set_option Elab.async false
set_option linter.all false
set_option maxRecDepth 100000
set_option maxHeartbeats 4000000
/-! rows of layers: a word, its worth, whether it is an own one -/
namespace Ah
open PySem PySem.Spec PyProof.Rows L2 TL
abbrev RB := Str × Int × Bool
/-- the one row stands ahead of the other -/
def geB (i j i' j' : Int) (s s' : Str) : Bool := if i = i' then if j = j' then if s = s' then true else !decide (tl s < tl s') else decide (j' ≤ j) else decide (i' ≤ i)
def befR (x y : RB) : Prop := geB (if !x.2.2 then 1 else 0) (0 - x.2.1) (if !y.2.2 then 1 else 0) (0 - y.2.1) x.1 y.1 = false
def dR (r : RB) : PyData := .tuple [.str r.1, .int r.2.1, .bool r.2.2]
theorem dR_inv2 {H : Hp} {x : V} {r : RB} (h : PD H x (dR r)) : ∃ t, x = .ref t ∧ H t = some (.tup [.str r.1, .int r.2.1, .bl r.2.2]) := by
  obtain ⟨t, zs, rfl, h1, h2⟩ := h.ofTup
  obtain ⟨x, y, z, rfl, a, b, c⟩ := PDs.three h2
  rw [PD.ofStr a, PD.ofInt b, PD.ofBl c] at h1
  exact ⟨t, rfl, h1⟩
/-! ### how long what repr tells is -/
theorem len_app (a b : Str) : (a ++ b).length = a.length + b.length := by rw [len_tl, tl_append, List.length_append, ← len_tl, ← len_tl]
theorem textFrom_le : ∀ (ts : List Str) (k : Nat) (acc : Str), (textFrom k acc ts).length ≤ acc.length + (ts.map fun t => t.length + 2).sum
  | [], _, acc => by show acc.length ≤ acc.length + 0; omega
  | t :: r, k, acc => by
    have ih := textFrom_le r (k + 1) (acc ++ (if k > 0 then ", " else "" : String) ++ t)
    rw [len_app, len_app] at ih
    have : (Str.ofString (if k > 0 then ", " else "" : String)).length ≤ 2 := by split <;> decide +kernel
    show (textFrom (k + 1) _ r).length ≤ _
    rw [List.map_cons, List.sum_cons]
    omega
theorem listText_le (ts : List Str) {n : Nat} (h : ∀ t ∈ ts, t.length ≤ n) : (listText ts).length ≤ 2 + ts.length * (n + 2) := by
  have h1 := textFrom_le ts 0 "["
  have h2 : ∀ l : List Str, (∀ t ∈ l, t.length ≤ n) → (l.map fun t => t.length + 2).sum ≤ l.length * (n + 2) := by
    intro l
    induction l with
    | nil => intro _; simp
    | cons a l ih =>
      intro hl
      have := ih fun t ht => hl t (by simp [ht])
      have := hl a (by simp)
      rw [List.map_cons, List.sum_cons, List.length_cons, Nat.succ_mul]; omega
  have h3 := h2 ts h
  unfold listText
  rw [len_app, show (Str.ofString "]").length = 1 from by decide +kernel]
  have e1 : (Str.ofString "[").length = 1 := by decide +kernel
  omega
/-- rows that can be shown -/
def RbOk (l : List RB) : Prop := ∀ r ∈ l, isW r.1 = true ∧ 0 ≤ r.2.1 ∧ r.2.1 < 2 ^ 62
section
variable {l : List RB}
theorem rb_len {r : RB} (h : isW r.1 = true ∧ 0 ≤ r.2.1 ∧ r.2.1 < 2 ^ 62) : (dR r).shown.length ≤ 300 := by
  have h1 : (reprText r.1).length ≤ 10 * r.1.length + 2 := PySem.StrLaws.reprText_len _ fun c hc => by
    have := strOk_iff.mp (isW_ok h.1).2 c hc
    omega
  have h2 := (isW_len h.1).2
  have h3 : (Str.ofString (toString r.2.1)).length ≤ 19 := PyProof.Rows.toString_length_le h.2.1 (by decide) (by have := h.2.2; omega)
  have h4 : (Str.ofString (if r.2.2 then "True" else "False")).length ≤ 5 := by split <;> decide +kernel
  have e : (dR r).shown = tupleText [reprText r.1, Str.ofString (toString r.2.1), Str.ofString (if r.2.2 then "True" else "False")] := by
    unfold dR
    simp only [PyData.shown, PyData.shownAll]
    cases r.2.2 <;> rfl
  rw [e]
  unfold tupleText
  have h5 := join_length_add [reprText r.1, Str.ofString (toString r.2.1), Str.ofString (if r.2.2 then "True" else "False")] (by simp)
  rw [piled_cons, piled_cons, piled_cons, piled_nil] at h5
  rw [len_app, len_app]
  have e1 : (Str.ofString "(").length = 1 := by decide +kernel
  have e2 : (Str.ofString (if ([reprText r.1, Str.ofString (toString r.2.1), Str.ofString (if r.2.2 then "True" else "False")] : List Str).length == 1 then ",)" else ")" : String)).length ≤ 2 := by
    show (Str.ofString ")").length ≤ 2; decide +kernel
  omega
theorem rows_shown (h : RbOk l) (hl : l.length ≤ 50000) : (PyData.list (l.map dR)).shown.length ≤ sizeLine := by
  have e : ∀ l : List RB, PyData.shownAll (l.map dR) = l.map fun r => (dR r).shown := by
    intro l
    induction l with
    | nil => rfl
    | cons a l ih => rw [List.map_cons, List.map_cons, ← ih]; rfl
  show (listText (PyData.shownAll (l.map dR))).length ≤ sizeLine
  rw [e]
  have := listText_le (l.map fun r => (dR r).shown) (n := 300) fun t ht => by
    obtain ⟨r, hr, rfl⟩ := List.mem_map.mp ht
    exact rb_len (h r hr)
  rw [List.length_map] at this
  rw [sizeLine_eq]; omega
theorem rows_showable (h : RbOk l) : (PyData.list (l.map dR)).showable = true := by
  show PyData.showableAll (l.map dR) = true
  induction l with
  | nil => rfl
  | cons a l ih =>
    show (PyData.showable (dR a) && PyData.showableAll (l.map dR)) = true
    rw [ih fun r hr => h r (by simp [hr]), Bool.and_true]
    have ha := h a (by simp)
    show (PyData.showable (.str a.1) && (PyData.showable (.int a.2.1) && (PyData.showable (.bool a.2.2) && true))) = true
    simp only [PyData.showable, Bool.true_and, Bool.and_true]
    exact decide_eq_true (log_62 ha.2.1 ha.2.2)
theorem rows_plain : (PyData.list (l.map dR)).hasDict = false := by
  show PyData.hasDictAll (l.map dR) = false
  induction l with
  | nil => rfl
  | cons a l ih => exact (Bool.or_eq_false_iff).mpr ⟨rfl, ih⟩
theorem rows_depth : (PyData.list (l.map dR)).depth ≤ 30 := by
  show PyData.depthAll (l.map dR) + 1 ≤ 30
  have : PyData.depthAll (l.map dR) ≤ 1 := by
    induction l with
    | nil => exact Nat.zero_le _
    | cons a l ih =>
      show max (dR a).depth (PyData.depthAll (l.map dR)) ≤ 1
      exact Nat.max_le.mpr ⟨Nat.le_refl 1, ih⟩
  omega
end
/-! ### hidden words -/
def hV (s : Str → Bool) : Str → Option V := fun w => if s w = true then some (.bl true) else none
theorem hV_is {s : Str → Bool} {w : Str} : (hV s w).isSome = s w := by unfold hV; cases s w <;> rfl
theorem hV_put {s : Str → Bool} {w : Str} : setv (hV s) w (.bl true) = hV fun x => if x = w then true else s x := by
  funext x
  unfold setv hV
  by_cases c : x = w
  · simp [c]
  · simp [c]
theorem hV_del {s : Str → Bool} {w : Str} : delv (hV s) w = hV fun x => if x = w then false else s x := by
  funext x
  unfold delv hV
  by_cases c : x = w
  · simp [c]
  · simp [c]
theorem hV_none : (fun _ : Str => (none : Option V)) = hV fun _ => false := by funext x; rfl
theorem sl_tupK {X : Cx} {K : PySem.W.Frag} (hK : X.K = K) : SlR X (rSlT K) := hK ▸ sl_tup
/-! ### tuples of two numbers and a text -/
def rGeT (K : PySem.W.Frag) : R2 := fun x y H Q => ∃ (a b : Addr) (i j i' j' : Int) (s s' : Str), x = .ref a ∧ y = .ref b ∧ SqT K H a [.int i, .int j, .str s] ∧ SqT K H b [.int i', .int j', .str s'] ∧ Q (.bl (geB i j i' j' s s')) H
theorem op_geT {X : Cx} (hu : X.A.units + 64 < cLine) : OpR X (compareOp .GtE) (rGeT X.K) := by
  intro pins σh σ H x y v u Q I rx ry h
  obtain ⟨a, b, i, j, i', j', s, s', rfl, rfl, ha, hb, q⟩ := h
  cases rx
  cases ry
  obtain ⟨its, r1, p1, _⟩ := I.tuple ha
  obtain ⟨its2, r2, p2, _⟩ := I.tuple hb
  cases r1 with
  | cons x0 r1 => cases r1 with
    | cons x1 r1 => cases r1 with
      | cons x2 r1 =>
        cases r1
        cases r2 with
        | cons y0 r2 => cases r2 with
          | cons y1 r2 => cases r2 with
            | cons y2 r2 =>
              cases r2
              obtain ⟨t0, rfl⟩ := x0
              obtain ⟨t1, rfl⟩ := x1
              obtain ⟨t2, rfl⟩ := x2
              obtain ⟨u0, rfl⟩ := y0
              obtain ⟨u1, rfl⟩ := y1
              obtain ⟨u2, rfl⟩ := y2
              have R := Ob.RcOp.tuples_ge (A := X.A) (e := fun n => if n = 0 then i == i' else if n = 1 then j == j' else s == s') (r := fun n => if n = 0 then decide (i' ≤ i) else if n = 1 then decide (j' ≤ j) else !decide (tl s < tl s')) p1 p2 (by omega) (fun n h1 h2 => by
                have h1' : n < 3 := h1
                rcases (by omega : n = 0 ∨ n = 1 ∨ n = 2) with rfl | rfl | rfl
                · exact SeqAt.EqAt.int_int _ _ _ _
                · exact SeqAt.EqAt.int_int _ _ _ _
                · exact SeqAt.EqAt.str_str _ _ _ _) (fun n h1 h2 _ => by
                have h1' : n < 3 := h1
                rcases (by omega : n = 0 ∨ n = 1 ∨ n = 2) with rfl | rfl | rfl
                · exact Ob.RcOp.ge_int _ _ _ _
                · exact Ob.RcOp.ge_int _ _ _ _
                · exact fun _ _ _ _ h => PySem.P.ge_str h)
              have e : Ob.lexAt (fun n => if n = 0 then i == i' else if n = 1 then j == j' else s == s') (fun n => if n = 0 then decide (i' ≤ i) else if n = 1 then decide (j' ≤ j) else !decide (tl s < tl s')) true 0 3 = geB i j i' j' s s' := by
                unfold geB
                rw [Ob.lexAt_succ, Ob.lexAt_succ, Ob.lexAt_succ, Ob.lexAt_zero]
                by_cases c1 : i = i'
                · by_cases c2 : j = j'
                  · by_cases c3 : s = s'
                    · simp [c1, c2, c3]
                    · simp [c1, c2, c3]
                  · simp [c1, c2]
                · simp [c1]
              have z : wpAny (model X.prog X.w) X.A (compareOp .GtE (.ref a) (.ref b)) (EP X pins σ Q) X.xe _ := R X.prog X.w X.xe (EP X pins σ Q) ⟨.bl _, H, I, rfl, by
                show Q (.bl (Ob.lexAt _ _ (decide (3 ≥ 3)) 0 (min 3 3))) H
                rw [show decide (3 ≥ 3) = true from rfl, show min 3 3 = 3 from rfl, e]; exact q⟩
              exact z
/-! ### what layers tell -/
abbrev lf (h o d : Addr) : List (Str × V) := [("layer_house", .ref h), ("layer_own", .ref o), ("layer_hidden", .ref d)]
/-- those that begin so and are not hidden, best first -/
def fitR (b : Str) (hs : Str → Bool) (l : List RW) : List RW := (l.filter fun e => preB b e.1 && !hs e.1).mergeSort leR
def ownR (t : Bool) (e : RW) : RB := (e.1, e.2, t)
/-- told: own words, then the house's -/
noncomputable def rowsL (gh go : WM) (hs : Str → Bool) (b : Str) : List RB := (fitR b hs (rOf go)).map (ownR true) ++ (fitR b hs ((rOf gh).filter fun e => !(go e.1).isSome)).map (ownR false)
theorem fitR_len {b : Str} {hs : Str → Bool} {l : List RW} : (fitR b hs l).length ≤ l.length := by
  unfold fitR
  rw [List.length_mergeSort]
  exact List.length_filter_le _ _
theorem mem_fitR {b : Str} {hs : Str → Bool} {l : List RW} {e : RW} : e ∈ fitR b hs l ↔ e ∈ l ∧ preB b e.1 = true ∧ hs e.1 = false := by
  unfold fitR
  rw [mem_best, List.mem_filter, Bool.and_eq_true, Bool.not_eq_true']
theorem rowsL_len {gh go : WM} {hs : Str → Bool} {b : Str} {N M : Nat} (ok : GOk gh N) (ok2 : GOk go M) : (rowsL gh go hs b).length ≤ N + M := by
  unfold rowsL
  rw [List.length_append, List.length_map, List.length_map]
  have h1 := fitR_len (b := b) (hs := hs) (l := rOf go)
  have h2 := fitR_len (b := b) (hs := hs) (l := (rOf gh).filter fun e => !(go e.1).isSome)
  have h3 := List.length_filter_le (fun e => !(go e.1).isSome) (rOf gh)
  have h4 := ok.len
  have h5 := ok2.len
  omega
section
variable {K : PySem.W.Frag} {L F : List Res} {H : Hp} {Q : VK} {E : XK} {a : Addr} {xs : List V} {l : List RW} {many : Int}
/-- best_of, by things -/
def spBestS (K : PySem.W.Frag) : Sp := fun vs H Q _ => ∃ (a : Addr) (xs : List V) (l : List RW) (many : Int) (L : List Res), vs = [.ref a, .int many] ∧ Sep (lisD a xs (l.map dP) :: L) H ∧ l.length ≤ 10000 ∧ 0 ≤ many ∧
  ∀ (r : Addr) (ys : List V) (H' : Hp), Sep (lisD r ys ((bestOf l many).map dP) :: lisD a xs (l.map dP) :: L) H' → Q (.ref r) H'
theorem c_bestS (h : Sep L H) (k : Pick (lisD a xs (l.map dP)) L F) (hl : l.length ≤ 10000) (hm : 0 ≤ many) (z : ∀ (r : Addr) (ys : List V) (H' : Hp), Sep (lisD r ys ((bestOf l many).map dP) :: L) H' → Q (.ref r) H') : spBestS K [.ref a, .int many] H Q E :=
  ⟨a, xs, l, many, F, rfl, h.pick k, hl, hm, fun r ys H' h' => z r ys H' ((h'.pick (.there .here)).put (.there k))⟩
theorem best_all (h : (l.length : Int) ≤ many) : bestOf l many = l.mergeSort leR := by
  unfold bestOf
  exact List.take_of_length_le (by rw [List.length_mergeSort]; omega)
end
theorem Sep.sq3 {K : PySem.W.Frag} {L F : List Res} {H : Hp} {a : Addr} {i j : Int} {s : Str} (h : Sep L H) (k : Pick (Ah.dat (.ref a) (.tuple [.int i, .int j, .str s])) L F) : SqT K H a [.int i, .int j, .str s] := by
  obtain ⟨t, zs, e, h1, h2⟩ := (h.dat k).ofTup
  obtain ⟨x, y, z, rfl, a, b, c⟩ := PDs.three h2
  rw [PD.ofInt a, PD.ofInt b, PD.ofStr c] at h1
  cases e
  exact SqT.of h1
/-! ### rows in their order -/
section
variable {gh go g : WM} {hs : Str → Bool} {b w : Str} {l : List RW} {N M : Nat}
theorem fitR_sorted : (fitR b hs l).Pairwise fun x y => leR x y = true := List.pairwise_mergeSort leR_trans leR_total _
theorem fitR_nd (h : (l.map Prod.fst).Nodup) : ((fitR b hs l).map Prod.fst).Nodup := by
  unfold fitR
  refine (((List.mergeSort_perm _ leR).map Prod.fst).nodup_iff).mpr ?_
  exact List.Nodup.sublist (List.Sublist.map _ List.filter_sublist) h
theorem bef_same {c : Bool} {x y : RW} (h : leR x y = true) (n : x.1 ≠ y.1) : befR (ownR c x) (ownR c y) := by
  unfold befR ownR geB
  rw [if_pos rfl]
  unfold leR at h
  simp only [Bool.or_eq_true, decide_eq_true_eq, Bool.and_eq_true, Bool.not_eq_true', decide_eq_false_iff_not] at h
  by_cases e : (0 : Int) - x.2 = 0 - y.2
  · rw [if_pos e, if_neg n]
    have h1 : ¬ tl y.1 < tl x.1 := by
      rcases h with h | h
      · omega
      · exact h.2
    have h2 : tl x.1 < tl y.1 := by
      by_cases z : tl x.1 < tl y.1
      · exact z
      · exact absurd (tl_tri _ _ z h1) n
    rw [decide_eq_true h2]; rfl
  · rw [if_neg e]
    exact decide_eq_false (by
      show ¬ (0 - y.2 ≤ 0 - x.2)
      rcases h with h | h
      · omega
      · exact absurd (by show (0 : Int) - x.2 = 0 - y.2; rw [h.1]) e)
theorem bef_two {x y : RW} : befR (ownR true x) (ownR false y) := by
  unfold befR ownR geB
  show (if (0 : Int) = 1 then _ else decide ((1 : Int) ≤ 0)) = false
  rw [if_neg (by decide)]
  rfl
theorem fit_bef {c : Bool} (h : (l.map Prod.fst).Nodup) : ((fitR b hs l).map (ownR c)).Pairwise befR := by
  rw [List.pairwise_map]
  have h1 := fitR_nd (b := b) (hs := hs) h
  unfold List.Nodup at h1
  rw [List.pairwise_map] at h1
  exact (List.pairwise_and_iff.mpr ⟨fitR_sorted, h1⟩).imp fun z => bef_same z.1 z.2
theorem rows_bef (okh : GOk gh N) (oko : GOk go M) : (rowsL gh go hs b).Pairwise befR := by
  unfold rowsL
  rw [List.pairwise_append]
  refine ⟨fit_bef (rOf_nd oko), fit_bef (List.Nodup.sublist (List.Sublist.map _ List.filter_sublist) (rOf_nd okh)), fun x hx y hy => ?_⟩
  obtain ⟨x', _, rfl⟩ := List.mem_map.mp hx
  obtain ⟨y', _, rfl⟩ := List.mem_map.mp hy
  exact bef_two
theorem rows_ok (okh : GOk gh N) (oko : GOk go M) {B : Int} (hB : B < 2 ^ 62) (bh : Bd gh B) (bo : Bd go B) : RbOk (rowsL gh go hs b) := fun r hr => by
  unfold rowsL at hr
  rcases List.mem_append.mp hr with hr | hr
  · obtain ⟨e, he, rfl⟩ := List.mem_map.mp hr
    have := oko.mem.mp (mem_fitR.mp he).1
    exact ⟨(oko.ok _ _ this).1, (oko.ok _ _ this).2, Int.lt_of_le_of_lt (bo _ _ this) hB⟩
  · obtain ⟨e, he, rfl⟩ := List.mem_map.mp hr
    have := okh.mem.mp (List.mem_filter.mp (mem_fitR.mp he).1).1
    exact ⟨(okh.ok _ _ this).1, (okh.ok _ _ this).2, Int.lt_of_le_of_lt (bh _ _ this) hB⟩
theorem fit_hide : fitR b (fun x => if x = w then true else hs x) l = (fitR b hs l).filter fun e => decide (e.1 ≠ w) := by
  unfold fitR
  refine (sorted_is ?_ (List.Pairwise.filter _ (List.pairwise_mergeSort leR_trans leR_total _))).symm
  refine ((List.mergeSort_perm _ leR).filter _).trans ?_
  rw [List.filter_filter]
  refine List.Perm.of_eq (List.filter_congr fun e _ => ?_)
  by_cases c : e.1 = w
  · simp [c]
  · simp [c]
theorem rows_hide : rowsL gh go (fun x => if x = w then true else hs x) b = (rowsL gh go hs b).filter fun r => decide (r.1 ≠ w) := by
  unfold rowsL
  rw [fit_hide, fit_hide, List.filter_append, List.filter_map, List.filter_map]
  rfl
theorem rows_own : (rowsL gh go hs b).filter (fun r => r.2.2) = (fitR b hs (rOf go)).map (ownR true) := by
  unfold rowsL
  rw [List.filter_append]
  have h1 : ∀ m : List RW, (m.map (ownR true)).filter (fun r => r.2.2) = m.map (ownR true) := fun m => List.filter_eq_self.mpr fun r hr => by
    obtain ⟨e, _, rfl⟩ := List.mem_map.mp hr; rfl
  have h2 : ∀ m : List RW, (m.map (ownR false)).filter (fun r => r.2.2) = [] := fun m => List.filter_eq_nil_iff.mpr fun r hr => by
    obtain ⟨e, _, rfl⟩ := List.mem_map.mp hr; simp [ownR]
  rw [h1, h2, List.append_nil]
theorem rOf_empty : rOf (fun _ : Str => (none : Option Int)) = [] := List.length_eq_zero_iff.mp (by have := (GOk.empty).len; omega)
theorem rows_plain2 : rowsL gh (fun _ => none) (fun _ => false) b = ((fits gh b).mergeSort leR).map (ownR false) := by
  unfold rowsL fitR fits
  rw [rOf_empty]
  have e1 : ((([] : List RW).filter fun e => preB b e.1 && !false).mergeSort leR).map (ownR true) = [] := by simp
  have e2 : ((rOf gh).filter fun _ => !(none : Option Int).isSome) = rOf gh := List.filter_eq_self.mpr fun _ _ => rfl
  rw [e1, e2, List.nil_append]
  congr 2
  exact List.filter_congr fun e _ => by simp
end
/-! ### pairs of a word and a worth, sorted -/
def leP (a b : RW) : Bool := !(if b.1 = a.1 then decide (b.2 < a.2) else decide (tl b.1 < tl a.1))
theorem leP_iff {a b : RW} : leP a b = true ↔ tl a.1 < tl b.1 ∨ (a.1 = b.1 ∧ a.2 ≤ b.2) := by
  unfold leP
  by_cases c : b.1 = a.1
  · rw [if_pos c]
    have h1 : ¬ tl a.1 < tl b.1 := by rw [c]; exact List.lt_irrefl _
    simp only [Bool.not_eq_true', decide_eq_false_iff_not]
    constructor
    · intro h; exact .inr ⟨c.symm, by omega⟩
    · rintro (h | h)
      · exact absurd h h1
      · omega
  · rw [if_neg c]
    simp only [Bool.not_eq_true', decide_eq_false_iff_not]
    constructor
    · intro h
      by_cases z : tl a.1 < tl b.1
      · exact .inl z
      · exact absurd (tl_tri _ _ h z) c
    · rintro (h | h)
      · exact List.lt_asymm h
      · exact absurd h.1.symm c
theorem leP_trans (a b c : RW) (h : leP a b = true) (g : leP b c = true) : leP a c = true := by
  rw [leP_iff] at *
  rcases h with h | h <;> rcases g with g | g
  · exact .inl (List.lt_trans h g)
  · exact .inl (by rw [← g.1]; exact h)
  · exact .inl (by rw [h.1]; exact g)
  · exact .inr ⟨h.1.trans g.1, Int.le_trans h.2 g.2⟩
theorem leP_total (a b : RW) : (leP a b || leP b a) = true := by
  rw [Bool.or_eq_true, leP_iff, leP_iff]
  by_cases h : tl a.1 < tl b.1
  · exact .inl (.inl h)
  · by_cases g : tl b.1 < tl a.1
    · exact .inr (.inl g)
    · have := tl_tri _ _ h g
      by_cases z : a.2 ≤ b.2
      · exact .inl (.inr ⟨this, z⟩)
      · exact .inr (.inr ⟨this.symm, by omega⟩)
theorem leP_anti {a b : RW} (h : leP a b = true) (g : leP b a = true) : a = b := by
  rw [leP_iff] at *
  rcases h with h | h <;> rcases g with g | g
  · exact absurd g (List.lt_asymm h)
  · rw [g.1] at h; exact absurd h (List.lt_irrefl _)
  · rw [h.1] at g; exact absurd g (List.lt_irrefl _)
  · exact Prod.ext h.1 (by omega)
theorem dataLe_P : PySem.W.dataLe false dP = leP := by
  funext a b
  show (!PySem.W.dataLt (dP b) (dP a)) = leP a b
  unfold dP leP
  rw [PySem.W.dataLt_pair (by simp [PySem.W.alike]) (by simp [PySem.W.alike])]
  by_cases c : b.1 = a.1
  · rw [if_pos c, if_pos (by simp [PyData.eqv, c])]
    by_cases d : b.2 = a.2
    · rw [if_pos (by simp [PyData.eqv, d])]
      simp [d]
    · rw [if_neg (by simp [PyData.eqv, d]), PySem.W.dataLt_int]
  · rw [if_neg c, if_neg (by simp [PyData.eqv, c]), PySem.W.dataLt_str]
theorem alike_dP (l : List RW) : PySem.W.AllAlike (l.map dP) := PySem.W.AllAlike.of fun a b => by simp [dP, PySem.W.alike, PySem.W.alikeAll]
theorem sortable_dP (l : List RW) : PySem.W.Sortable (l.map dP) := PySem.W.Sortable.tuples fun b => ⟨_, _, rfl⟩
theorem n_sortP {K : PySem.W.Frag} {L F : List Res} {H : Hp} {Q : VK} {a : Addr} {xs : List V} {l : List RW} (h : Sep L H) (k : Pick (lisD a xs (l.map dP)) L F) (q : ∀ (p : Addr) (ys : List V) (H' : Hp), Sep (lisD p ys ((l.mergeSort leP).map dP) :: L) H' → Q (.ref p) H') : rSortD K [.ref a] H Q := by
  refine ⟨RW, a, xs, l, dP, fun x e => PD H x (dP e), rfl, SqL.of (h.lisD k), pair_of_pds (h.pds k), fun _ _ z => z.dp, alike_dP l, sortable_dP l, fun b _ => by simp [dP, PyData.depth, PyData.depthAll], fun zs p hz hp => ?_⟩
  rw [dataLe_P] at hz
  exact q p zs _ (h.newD hp (pds_of_pair hz))
theorem gKeys_pw {g : WM} {N : Nat} (ok : GOk g N) : (gKeys g).Pairwise fun a b => leS a b = true := by
  obtain ⟨ks, k1, k2, _⟩ := ok.fin
  have e : gKeys g = ks.mergeSort leS := (keysOf_is k1 k2).symm
  have lS : ∀ a b, leS a b = !decide (tl b < tl a) := fun a b => by show (!PySem.W.dataLt (.str b) (.str a)) = _; rw [PySem.W.dataLt_str]
  rw [e]
  refine List.pairwise_mergeSort (fun a b c h g => ?_) (fun a b => ?_) _
  · rw [lS] at *
    simp only [Bool.not_eq_true', decide_eq_false_iff_not] at *
    intro z
    by_cases e : tl a < tl b
    · exact g (List.lt_trans z e)
    · have := tl_tri a b e h
      subst this; exact g z
  · rw [lS, lS, Bool.or_eq_true]
    simp only [Bool.not_eq_true', decide_eq_false_iff_not]
    by_cases e : tl b < tl a
    · exact .inr (List.lt_asymm e)
    · exact .inl e
/-- the rated words stand in the order of pairs -/
theorem rOf_pw {g : WM} {N : Nat} (ok : GOk g N) : (rOf g).Pairwise fun a b => leP a b = true := by
  have h1 := gKeys_pw ok
  have h2 := ok.keys.1
  unfold rOf
  rw [List.pairwise_map]
  refine (List.pairwise_and_iff.mpr ⟨h1, h2⟩).imp fun {x y} z => leP_iff.mpr (.inl ?_)
  have h3 : ¬ tl y < tl x := by
    have := z.1
    have lS : leS x y = !decide (tl y < tl x) := by show (!PySem.W.dataLt (.str y) (.str x)) = _; rw [PySem.W.dataLt_str]
    rw [lS] at this
    simpa using this
  show tl x < tl y
  by_cases c : tl x < tl y
  · exact c
  · exact absurd (tl_tri _ _ c h3) z.2
theorem own_sorted {g : WM} {N : Nat} {b : Str} (ok : GOk g N) : (fitR b (fun _ => false) (rOf g)).mergeSort leP = (rOf g).filter fun e => preB b e.1 := by
  refine List.Perm.eq_of_pairwise (le := fun a b => leP a b = true) (fun _ _ _ _ => leP_anti) (List.pairwise_mergeSort leP_trans leP_total _) ((rOf_pw ok).filter _) ?_
  refine (List.mergeSort_perm _ leP).trans ?_
  unfold fitR
  refine (List.mergeSort_perm _ leR).trans (List.Perm.of_eq (List.filter_congr fun e _ => by simp))
/-! ### words struck one by one -/
noncomputable def dropG (g : WM) (i : Nat) : WM := fun w => open Classical in if w ∈ (gKeys g).take i then none else g w
section
variable {g : WM} {N i : Nat} {w : Str}
theorem dropG_0 : dropG g 0 = g := by
  funext x
  unfold dropG
  rw [List.take_zero, if_neg (by simp)]
theorem dropG_at (ok : GOk g N) (h : (gKeys g)[i]? = some w) : dropG g i w = g w := by
  unfold dropG
  rw [if_neg]
  intro hm
  obtain ⟨j, hj, e⟩ := List.mem_iff_getElem.mp hm
  rw [List.length_take] at hj
  rw [List.getElem_take] at e
  obtain ⟨hi2, e2⟩ := List.getElem?_eq_some_iff.mp h
  have := (List.getElem_inj ok.keys.1).mp (e.trans e2.symm)
  omega
theorem dropG_s (h : (gKeys g)[i]? = some w) : deli (dropG g i) w = dropG g (i + 1) := by
  funext x
  unfold deli dropG
  rw [take_more h]
  by_cases c : x = w
  · rw [if_pos c, if_pos (by rw [c]; simp)]
  · rw [if_neg c]
    by_cases d : x ∈ (gKeys g).take i
    · rw [if_pos d, if_pos (List.mem_append_left _ d)]
    · rw [if_neg d, if_neg (by simp [c, d])]
theorem dropG_all (ok : GOk g N) (h : (gKeys g).length ≤ i) : dropG g i = fun _ => none := by
  funext x
  unfold dropG
  rw [List.take_of_length_le h]
  by_cases d : x ∈ gKeys g
  · rw [if_pos d]
  · rw [if_neg d]
    cases e : g x with
    | none => rfl
    | some v => exact absurd ((ok.keys.2.1 x).mpr (by rw [e]; rfl)) d
end
/-! ### lists of things that show -/
section
variable {α : Type} {f : α → PyData}
theorem list_shown {l : List α} (h : ∀ e ∈ l, (f e).shown.length ≤ 300) (hl : l.length ≤ 50000) : (PyData.list (l.map f)).shown.length ≤ sizeLine := by
  have e : ∀ l : List α, PyData.shownAll (l.map f) = l.map fun r => (f r).shown := by
    intro l
    induction l with
    | nil => rfl
    | cons a l ih => rw [List.map_cons, List.map_cons, ← ih]; rfl
  show (listText (PyData.shownAll (l.map f))).length ≤ sizeLine
  rw [e]
  have := listText_le (l.map fun r => (f r).shown) (n := 300) fun t ht => by
    obtain ⟨r, hr, rfl⟩ := List.mem_map.mp ht
    exact h r hr
  rw [List.length_map] at this
  rw [sizeLine_eq]; omega
theorem list_showable {l : List α} (h : ∀ e ∈ l, (f e).showable = true) : (PyData.list (l.map f)).showable = true := by
  show PyData.showableAll (l.map f) = true
  induction l with
  | nil => rfl
  | cons a l ih =>
    show (PyData.showable (f a) && PyData.showableAll (l.map f)) = true
    rw [ih fun r hr => h r (by simp [hr]), Bool.and_true]
    exact h a (by simp)
theorem list_plain {l : List α} (h : ∀ e ∈ l, (f e).hasDict = false) : (PyData.list (l.map f)).hasDict = false := by
  show PyData.hasDictAll (l.map f) = false
  induction l with
  | nil => rfl
  | cons a l ih => exact (Bool.or_eq_false_iff).mpr ⟨h a (by simp), ih fun r hr => h r (by simp [hr])⟩
theorem list_depth {l : List α} (h : ∀ e ∈ l, (f e).depth ≤ 1) : (PyData.list (l.map f)).depth ≤ 30 := by
  show PyData.depthAll (l.map f) + 1 ≤ 30
  have : PyData.depthAll (l.map f) ≤ 1 := by
    induction l with
    | nil => exact Nat.zero_le _
    | cons a l ih =>
      show max (f a).depth (PyData.depthAll (l.map f)) ≤ 1
      exact Nat.max_le.mpr ⟨h a (by simp), ih fun r hr => h r (by simp [hr])⟩
  omega
end
/-- rated words that can be shown -/
def RwOk (l : List RW) : Prop := ∀ r ∈ l, isW r.1 = true ∧ 0 ≤ r.2 ∧ r.2 < 2 ^ 62
theorem str_len {s : Str} (h : isW s = true) : (PyData.str s).shown.length ≤ 300 := by
  have h1 : (reprText s).length ≤ 10 * s.length + 2 := PySem.StrLaws.reprText_len _ fun c hc => by
    have := strOk_iff.mp (isW_ok h).2 c hc
    omega
  have h2 := (isW_len h).2
  show (reprText s).length ≤ 300
  omega
theorem rw_len {r : RW} (h : isW r.1 = true ∧ 0 ≤ r.2 ∧ r.2 < 2 ^ 62) : (dP r).shown.length ≤ 300 := by
  have h1 : (reprText r.1).length ≤ 10 * r.1.length + 2 := PySem.StrLaws.reprText_len _ fun c hc => by
    have := strOk_iff.mp (isW_ok h.1).2 c hc
    omega
  have h2 := (isW_len h.1).2
  have h3 : (Str.ofString (toString r.2)).length ≤ 19 := PyProof.Rows.toString_length_le h.2.1 (by decide) (by have := h.2.2; omega)
  have e : (dP r).shown = tupleText [reprText r.1, Str.ofString (toString r.2)] := by
    unfold dP
    simp only [PyData.shown, PyData.shownAll]
  rw [e]
  unfold tupleText
  have h5 := join_length_add [reprText r.1, Str.ofString (toString r.2)] (by simp)
  rw [piled_cons, piled_cons, piled_nil] at h5
  rw [len_app, len_app]
  have e1 : (Str.ofString "(").length = 1 := by decide +kernel
  have e2 : (Str.ofString (if ([reprText r.1, Str.ofString (toString r.2)] : List Str).length == 1 then ",)" else ")" : String)).length ≤ 2 := by
    show (Str.ofString ")").length ≤ 2; decide +kernel
  omega
theorem rw_show {r : RW} (h : isW r.1 = true ∧ 0 ≤ r.2 ∧ r.2 < 2 ^ 62) : (dP r).showable = true := by
  show (PyData.showable (.str r.1) && (PyData.showable (.int r.2) && true)) = true
  simp only [PyData.showable, Bool.true_and, Bool.and_true]
  exact decide_eq_true (log_62 h.2.1 h.2.2)
end Ah
set_option Elab.async false
set_option linter.all false
set_option maxRecDepth 100000
set_option maxHeartbeats 4000000
/-! defs that are handed the exception that is held -/
namespace Ah
open PySem PySem.Spec PyProof.Rows L2 L2H
/-- a def's promise where it is handed the exception at a, of the own class D -/
structure OkE (P : Program) (w : World) (K : PySem.W.Frag) (mg : Str → Option Value) (base : Heap) (k : Nat) (f : Addr) (fd : FuncData) (ps : List Str) (sp : Addr → Addr → Sp) : Prop where
  len : ∀ a D vs H Q E, sp a D vs H Q E → vs.length = ps.length
  run : ∀ (A : Around) (outer : List Env) (s : Shared) (H : Hp) (args : Args) (us : List Value) (vs : List V) (Q : VK) (E : XK) (a D : Addr) (oe : Obj), RoomH k A → PinOk outer H s (a, oe) → Zc (.ref D) none oe → (∃ zs, oe.data = .fields zs) → Env0 P w K mg base A outer s H → BindsTo s fd args (ps.zip us) → Vals vs us → sp a D vs H Q E →
    codeAny (model P w) A (.call (.ref f) args) (CR (L2.CX P w) outer P w H s Q E) s
structure FnE (P : Program) (w : World) (K : PySem.W.Frag) (mg : Str → Option Value) (base : Heap) (k : Nat) (x : Str) (ps : List Str) (sp : Addr → Addr → Sp) : Prop where
  ex : ∃ (f : Addr) (fd : FuncData), OkE P w K mg base k f fd ps sp ∧ mg x = some (.ref f) ∧ PySem.W.keepIn K (.ref f) = true ∧ Binds K fd ps []
section
variable {P : Program} {w : World} {K : PySem.W.Frag} {mg : Str → Option Value} {base : Heap} {k : Nat} {x qual : Str} {ps N : List Str} {sp : Addr → Addr → Sp} {st : Stmt}
theorem DefAt.okE (Df : DefAt K mg x st) (S : FnScope N ps (defScope st)) (B : BindOk x st ps) (len : ∀ a D vs H Q E, sp a D vs H Q E → vs.length = ps.length)
    (hbody : ∀ (f : Addr) (cdv : Value) (A : Around) (outer : List Env) (s : Shared) (H : Hp) (vs : List V) (Q : VK) (E : XK) (a D : Addr) (oe : Obj), Zc (.ref D) none oe → (∃ zs, oe.data = .fields zs) → RoomH k (A.deeper (envOfC x (defScope st) s.heap.objs.size f cdv)) → sp a D vs H Q E →
      ∃ t, PSs (cxH (L2.CX P w) P w K mg base N x (defScope st) f cdv A outer s H E (a, oe)) (defBody st) t ∧ t { nx := fun _ H' => Q .non H', rt := Q } (start N vs) H) : FnE P w K mg base (k + 1) x ps sp := by
  obtain ⟨f, fd, F, m⟩ := Df.ex
  refine ⟨f, fd, ?_, m, F.kp, F.binds B⟩
  obtain ⟨oc, od, kV, doc, pm, an, cdv, ct, osl, rfl, lk, hcd⟩ := F.ex
  refine ⟨len, fun A outer s H args us vs Q E a D oe hr hpin hz hf e0 hb r hsp => ?_⟩
  have KX : K.In s.heap := e0.mod.kin.keeps fun b o e => (e0.bs b o e).1
  have lim : s.heap.NoLimit := e0.mod.nolimit.keeps fun b o e => (e0.bs b o e).1
  refine codeAny_call_function hr.depth (KX _ _ lk) rfl S.co S.gen rfl (PySem.W.codeRec_of KX hcd) (hb _ _ _ _ ?_)
  refine wpAny_newFunctionEnv_cells S.kind (fun ⟨n, v⟩ hy => (S.par n (List.of_mem_zip hy).1).imp id fun q => ⟨q, PySem.W.cellsFrom_some _ _ _ (.inl q)⟩) fun env he s1 z => ?_
  subst he
  refine ⟨lim.keeps z.toInCall.keep, codeAny_func ?_⟩
  obtain ⟨t, ht, hq⟩ := hbody f cdv A outer s H vs Q E a D oe hz hf (hr.deeper _) hsp
  refine wpAny_mono (ht.run [] s1 (start N vs) H _ (inv_startH S hpin e0 (len _ _ _ _ _ _ hsp) r z) hq) (fun fl s' hs => ?_) fun e s' hs => hs
  cases fl with
  | ret u =>
    obtain ⟨v, σ', H', J, rv, q⟩ := hs
    exact ⟨v, H', J.os, J.bare, J.base, J.hok, rv, q⟩
  | next =>
    obtain ⟨σ', H', J, q⟩ := hs
    exact ⟨V.non, H', J.os, J.bare, J.base, J.hok, rfl, q⟩
  | brk => exact hs.elim fun _ h => h.elim fun _ h => h.2.elim
  | cont => exact hs.elim fun _ h => h.elim fun _ h => h.2.elim
end
section
variable {X : Cx} {k : Nat} {ps : List Str} {sp : Addr → Addr → Sp} {x : Str} {p pos : Pos} {e : Expr} {es : List Expr} {t : TA} {a D : Addr} {oe : Obj} {pn : List (Addr × Obj)}
/-- isinstance of an exception that is among the pins -/
theorem call_isH (C : ExcC X.K D) (hp : (a, oe) ∈ X.pn) (hz : Zc (.ref D) none oe) (hf : ∃ vs, oe.data = .fields vs) : CallR X (.builtin "isinstance") (rIsE X.K D a) := by
  intro pins s σ H xs us Q I r h
  obtain ⟨c, cv, b, rfl, hcv, e, q⟩ := h
  cases r with
  | cons rx rr => cases rr with
    | cons rt rr =>
      cases rr
      cases rx
      have ec := hcv _ rt
      subst ec
      obtain ⟨hget, _⟩ := I.pin (a, oe) (List.mem_append.mpr (.inl hp))
      obtain ⟨vs, hv⟩ := hf
      have J : PySem.W.InstAt s.heap a oe D none := by
        obtain ⟨oc, od, oda, osl⟩ := oe
        obtain ⟨h1, h2⟩ := hz
        dsimp only at h1 h2 hv
        subst h1 h2 hv
        exact ⟨hget, rfl, rfl, trivial⟩
      exact PySem.W.kia_one (PySem.W.handS_kitx_exc C.hg C.hk C.hs C.hd C.ha C.hn C.ht C.hm) I.kIn J e (fun z => nomatch z) fun tk => ⟨.bl b, H, I.kept (t' := tk) fun _ _ z => z, rfl, q⟩
/-- a call by which the held exception is handed on -/
theorem pe_fnE (F : FnE X.prog X.w X.K X.mg X.base k x ps sp) (hr : RoomH k X.A) (hp : (a, oe) ∈ X.pn) (hz : Zc (.ref D) none oe) (hf : ∃ vs, oe.data = .fields vs) (ha : PA X (e :: es) t) (hg : Gl X x := by rfl)
    (hdb : (x == ("__debug__" : Str)) = false := by decide) (he : starEach (e :: es) X.env = (false, eval e X.env) :: starEach es X.env := by rfl) (hpl : (backTo pos (starEach es X.env)).any (·.1) = false := by rfl) :
    PE X (.Call (.Name x p) (e :: es) [] pos) (fun σ H Q => t σ H fun vs H1 => sp a D vs H1 Q fun _ _ _ => False) := by
  obtain ⟨f, fd, F, m, kp, b⟩ := F.ex
  refine ⟨fun pins s σ H Q I h => ?_⟩
  refine wpAny_Call_Name_kw (ld_glob I hg m ?_ hdb)
  refine PySem.W.callWith_K (h₀ := X.base) I.ok.mod.kin kp (thn (ha.run pos pins s σ H _ I h) fun us s1 ⟨vs, H1, I1, r, q⟩ => ⟨I1.kIn, ?_⟩) he hpl
  have hl : us.length = ps.length := by rw [← r.length]; exact F.len _ _ _ _ _ _ q
  have hb := b s1 us I1.kIn (by rw [List.append_nil]; exact hl)
  rw [List.append_nil] at hb
  have P1 := I1.pin (a, oe) (List.mem_append_left _ hp)
  have hpin : PinOk X.stack H1 s1 (a, oe) := ⟨P1.1, P1.2.1, fun hm => (List.mem_cons.mp (I1.stkSub a hm)).elim P1.2.2.1 P1.2.2.2.1, P1.2.2.2.2⟩
  refine wpAny_call (codeAny_mono (F.run X.A X.stack s1 H1 ⟨us, []⟩ us vs Q (fun _ _ _ => False) a D oe hr hpin hz hf I1.env0 hb r q) fun r s' hq => ?_)
  cases r with
  | error e =>
    exfalso
    obtain ⟨_, _, _, _, _, _, _, _, _, _, _, _, z⟩ := hq
    exact z
  | ok fl =>
    cases fl with
    | ret u => exact I1.after hq
    | next => exact False.elim hq
    | brk => exact False.elim hq
    | cont => exact False.elim hq
end
/-! ### within a suite whose exception is of whatever class -/
def rIsEd (K : PySem.W.Frag) (a : Addr) (cls : Value) (d : Option Addr) : List V → Hp → VK → Prop := fun xs H Q => ∃ D, cls = .ref D ∧ d = none ∧ ExcC K D ∧ rIsE K D a xs H Q
def tCallE (a : Addr) (cls : Value) (d : Option Addr) (sp : Addr → Addr → Sp) (t : TA) : TE := fun σ H Q => ∃ D, cls = .ref D ∧ d = none ∧ t σ H fun vs H1 => sp a D vs H1 Q fun _ _ _ => False
section
variable {X : Cx} {k : Nat} {ps : List Str} {sp : Addr → Addr → Sp} {x : Str} {p pos : Pos} {e : Expr} {es : List Expr} {t : TA} {a : Addr} {cls : Value} {d : Option Addr} {oe : Obj} {pn : List (Addr × Obj)}
theorem call_isS (hz : Zc cls d oe) (hf : ∃ vs, oe.data = .fields vs) : CallR (X.suite a ((a, oe) :: pn)) (.builtin "isinstance") (rIsEd X.K a cls d) := by
  intro pins s σ H xs us Q I r h
  obtain ⟨D, rfl, rfl, C, h⟩ := h
  exact call_isH (X := X.suite a ((a, oe) :: pn)) (oe := oe) C (by simp) hz hf pins s σ H xs us Q I r h
theorem pe_fnEs (F : FnE X.prog X.w X.K X.mg X.base k x ps sp) (hr : Room k X.A) (hz : Zc cls d oe) (hf : ∃ vs, oe.data = .fields vs) (ha : PA (X.suite a ((a, oe) :: pn)) (e :: es) t) (hg : Gl X x := by rfl)
    (hdb : (x == ("__debug__" : Str)) = false := by decide) (he : starEach (e :: es) X.env = (false, eval e X.env) :: starEach es X.env := by rfl) (hpl : (backTo pos (starEach es X.env)).any (·.1) = false := by rfl) :
    PE (X.suite a ((a, oe) :: pn)) (.Call (.Name x p) (e :: es) [] pos) (tCallE a cls d sp t) := by
  refine ⟨fun pins s σ H Q I h => ?_⟩
  obtain ⟨D, rfl, rfl, h⟩ := h
  exact (pe_fnE (X := X.suite a ((a, oe) :: pn)) (p := p) (D := D) F ⟨hr.dp, hr.un⟩ (by simp) hz hf ha hg hdb he hpl).run pins s σ H Q I h
end
/-! ### within a def that is handed it -/
section
variable {P : Program} {w : World} {K : PySem.W.Frag} {mg : Str → Option Value} {base : Heap} {N : List Str} {qual : Str} {scope : Scope} {f : Addr} {cd : Value} {A : Around} {outer : List Env} {s : Shared} {H : Hp} {E : XK} {a D : Addr} {oe : Obj}
def rIsEh (K : PySem.W.Frag) (a D : Addr) : List V → Hp → VK → Prop := fun xs H Q => ExcC K D ∧ rIsE K D a xs H Q
theorem call_isD (hz : Zc (.ref D) none oe) (hf : ∃ vs, oe.data = .fields vs) : CallR (cxH (L2.CX P w) P w K mg base N qual scope f cd A outer s H E (a, oe)) (.builtin "isinstance") (rIsEh K a D) := by
  intro pins s1 σ H1 xs us Q I r h
  exact call_isH (X := cxH (L2.CX P w) P w K mg base N qual scope f cd A outer s H E (a, oe)) (oe := oe) h.1 (List.mem_singleton.mpr rfl) hz hf pins s1 σ H1 xs us Q I r h.2
end
/-- is an instance of the one own class one of the other -/
theorem kit_pair {K : PySem.W.Frag} {A S : Addr} {b : Bool} (h2 : PySem.W.isClsIn K S = true) (h3 : PySem.W.typeIn K (.ref S) = some (.type "type")) (h4 : PySem.W.subIn K (.ref A) (.ref S) = some b) (h5 : A = S → b = true) :
    PySem.W.kitOne K (.ref A) (.ref S) = some b := by
  unfold PySem.W.kitOne PySem.W.kitCls
  by_cases c : A = S
  · rw [if_pos (by rw [c]; simp), h5 c]
  · rw [if_neg (by simpa using c)]
    have h2' : (PySem.W.clsIn K S).isSome = true := h2
    simp only [h2', h3, Bool.true_and, beq_self_eq_true, if_true, h4]
theorem s_isE {K : PySem.W.Frag} {a D C : Addr} {H : Hp} {Q : VK} {b : Bool} (k : PySem.W.kitOne K (.ref D) (.ref C) = some b) (q : Q (.bl b) H) : rIsE K D a [.ref a, .ref C] H Q := ⟨.ref C, .ref C, b, rfl, fun u r => r, k, q⟩
/-! isinstance(e, (C1, C2, ..)) -/
def rIsEt (K : PySem.W.Frag) (a D : Addr) : List V → Hp → VK → Prop := fun xs H Q => ExcC K D ∧ ∃ (tp : Addr) (cs : List V) (us : List Value) (b : Bool), xs = [.ref a, .ref tp] ∧ H tp = some (.tup cs) ∧ Paired ClsV cs us ∧ PySem.W.kitAny K (.ref D) us = some b ∧ Q (.bl b) H
section
variable {X : Cx} {a D : Addr} {oe : Obj}
theorem call_isHt (hp : (a, oe) ∈ X.pn) (hz : Zc (.ref D) none oe) (hf : ∃ vs, oe.data = .fields vs) : CallR X (.builtin "isinstance") (rIsEt X.K a D) := by
  intro pins s σ H xs us Q I r h
  obtain ⟨C, tp, cs, ws, b, rfl, hT, k, e, q⟩ := h
  obtain ⟨u1, u2, rfl, r1, r2⟩ := vals2 r
  cases (show u1 = Value.ref a from r1)
  cases (show u2 = Value.ref tp from r2)
  obtain ⟨hget, _⟩ := I.pin (a, oe) (List.mem_append.mpr (.inl hp))
  obtain ⟨vs, hv⟩ := hf
  have J : PySem.W.InstAt s.heap a oe D none := by
    obtain ⟨oc, od, oda, osl⟩ := oe
    obtain ⟨h1, h2⟩ := hz
    dsimp only at h1 h2 hv
    subst h1 h2 hv
    exact ⟨hget, rfl, rfl, trivial⟩
  obtain ⟨_, its, rv, o, h1, h2, n, h3⟩ := (show ObjOk X.prog X.w H s.heap tp (.tup cs) from I.hok tp _ hT)
  have e3 := ClsV.all k rv
  subst e3
  obtain ⟨oc, od, dt, sl⟩ := o
  simp only at h2 h3
  subst h2 h3
  exact PySem.W.kia_tup (PySem.W.handS_kitx_exc C.hg C.hk C.hs C.hd C.ha C.hn C.ht C.hm) I.kIn J h1 e (fun z => nomatch z) fun tk => ⟨.bl b, H, I.tok tk, rfl, q⟩
end
section
variable {P : Program} {w : World} {K : PySem.W.Frag} {mg : Str → Option Value} {base : Heap} {N : List Str} {qual : Str} {scope : Scope} {f : Addr} {cd : Value} {A : Around} {outer : List Env} {s : Shared} {H : Hp} {E : XK} {a D : Addr} {oe : Obj}
theorem call_isDt (hz : Zc (.ref D) none oe) (hf : ∃ vs, oe.data = .fields vs) : CallR (cxH (L2.CX P w) P w K mg base N qual scope f cd A outer s H E (a, oe)) (.builtin "isinstance") (rIsEt K a D) := by
  intro pins s1 σ H1 xs us Q I r h
  exact call_isHt (X := cxH (L2.CX P w) P w K mg base N qual scope f cd A outer s H E (a, oe)) (oe := oe) (List.mem_singleton.mpr rfl) hz hf pins s1 σ H1 xs us Q I r h
end
/-- classes, own ones each, as a tuple's things -/
def clsVs (cs : List Addr) : List V := cs.map V.ref
theorem clsV_all : ∀ cs : List Addr, Paired ClsV (cs.map V.ref) (cs.map Value.ref)
  | [] => .nil
  | c :: cs => .cons (.own c) (clsV_all cs)
theorem kit_cons {K : PySem.W.Frag} {t : Value} {c : Value} {cs : List Value} (h : PySem.W.kitOne K t c = some false) (hr : PySem.W.kitAny K t cs = some b) : PySem.W.kitAny K t (c :: cs) = some b := kitAny_cons h (fun _ => hr) fun z => nomatch z
theorem n_isE {K : PySem.W.Frag} {a D C : Addr} {H : Hp} {Q : VK} {b : Bool} (x : ExcC K D) (k : PySem.W.kitOne K (.ref D) (.ref C) = some b) (q : Q (.bl b) H) : rIsEh K a D [.ref a, .ref C] H Q := ⟨x, s_isE k q⟩
theorem n_isEt {K : PySem.W.Frag} {a D tp : Addr} {cs : List Addr} {H : Hp} {Q : VK} {b : Bool} {L M : List Res} (x : ExcC K D) (h : Sep L H) (p : Pick (tpl tp (cs.map V.ref)) L M) (k : PySem.W.kitAny K (.ref D) (cs.map Value.ref) = some b) (q : Q (.bl b) H) : rIsEt K a D [.ref a, .ref tp] H Q :=
  ⟨x, tp, _, _, b, rfl, h.tpl p, clsV_all cs, k, q⟩
/-! methods with a value laid down, within try -/
def tMethDS (C : Addr) (m : Str) (sp : Sp) (dv : List V) (E : L2.St → XK) (ta : TE) (t : TA) : TE := fun σ H Q => tMeth C m sp dv (E σ) ta t σ H Q
section
variable {X : Cx} {k : Nat} {C : Addr} {x m : Str} {ps : List Str} {dv : List V} {sp : Sp} {E : L2.St → XK} {p pos apos : Pos} {e o : Expr} {es : List Expr} {ta : TE} {t : TA} {σ : L2.St} {H : Hp} {Q : VK}
theorem u_methDS (h : tMeth C m sp dv (E σ) ta t σ H Q) : tMethDS C m sp dv E ta t σ H Q := h
instance iu_methDS  : US (tMethDS C m sp dv E ta t σ H Q) (tMeth C m sp dv (E σ) ta t σ H Q) := ⟨u_methDS⟩
theorem pe_mthDS {pl : Sem Bool} (F : FnM X.prog X.w X.K X.mg X.base k C m ps dv sp) (hr : Room k X.A) (hx : ∀ σ, PassesAt (L2.CX X.prog X.w) X σ (E σ)) (he : PE X o ta) (ha : PA X (e :: es) t)
    (hst : starEach (e :: es) X.env = (false, eval e X.env) :: starEach es X.env := by rfl) (hpl : (backTo pos (starEach es X.env)).any (·.1) = false := by rfl)
    (ht : eval (.Call (.Attribute o m apos) (e :: es) [] pos) X.env = (do
      let ov ← eval o X.env
      standAt apos.atName
      let (f, first) ← holding [ov] (getMethod ov m pl)
      callWith pos f first (backTo pos (starEach (e :: es) X.env)) (backToKw pos (keywordEach [] X.env))) := by rfl) :
    PE X (.Call (.Attribute o m apos) (e :: es) [] pos) (tMethDS C m sp dv E ta t) := by
  obtain ⟨f, fd, F, c, hm, _, us0, hv, hb⟩ := F.ex
  refine ⟨fun pins s σ H Q I h => ?_⟩
  refine PySem.W.methodCall_KW (pl := pl) (thn (he.run pins s σ H _ I h) fun u s1 ⟨x, H1, I1, rx, a, dx, fs, ex, ea, l, q⟩ => ?_) ht
  subst ex
  obtain rfl : u = Value.ref a := rx
  refine getmeth_ok I1 ea c hm l ?_
  refine PySem.W.callWith_K (first := [.ref a]) (h₀ := X.base) I.ok.mod.kin hm.kp (thn (ha.run pos pins s1 σ H1 _ I1 q) fun us s2 ⟨vs, H2, I2, r, q2⟩ => ⟨I2.kIn, ?_⟩) hst hpl
  exact run_fnSD (us := .ref a :: us) (vs := .ref a :: vs) F hr hb hv (hx σ) I2 (.cons rfl r) q2
end
/-! what a clause with a name wishes -/
theorem w_as {K : PySem.W.Frag} {Wout : WX} {D : Ends} {cls c : Value} {i : Nat} {ts : Addr → Value → Option Addr → TS} {d : Option Addr} {σ : L2.St} {H : Hp} (h : PySem.W.exmOne K cls c = some true)
    (k : ∀ a, H a = none → ts a cls d { nx := fun σ' H' => D.nx (σ'.set i none) H', rt := D.rt, bk := fun σ' H' => D.bk (σ'.set i none) H', ct := fun σ' H' => D.ct (σ'.set i none) H' } (σ.set i (some (.ref a))) H) : wAs K c i ts Wout D cls d σ H :=
  ⟨true, h, (fun _ => k), (fun z => nomatch z)⟩
theorem u_callE {a D : Addr} {sp : Addr → Addr → Sp} {t : TA} {σ : L2.St} {H : Hp} {Q : VK} (h : t σ H fun vs H1 => sp a D vs H1 Q fun _ _ _ => False) : tCallE a (.ref D) none sp t σ H Q := ⟨D, rfl, rfl, h⟩
instance iu_callE {a D : Addr} {sp : Addr → Addr → Sp} {t : TA} {σ : L2.St} {H : Hp} {Q : VK} : US (tCallE a (.ref D) none sp t σ H Q) (t σ H fun vs H1 => sp a D vs H1 Q fun _ _ _ => False) := ⟨u_callE⟩
theorem u_isEd {K : PySem.W.Frag} {a D C : Addr} {H : Hp} {Q : VK} {b : Bool} (x : ExcC K D) (k : PySem.W.kitOne K (.ref D) (.ref C) = some b) (q : Q (.bl b) H) : rIsEd K a (.ref D) none [.ref a, .ref C] H Q := ⟨D, rfl, rfl, x, s_isE k q⟩
end Ah
set_option Elab.async false
set_option linter.all false
set_option maxRecDepth 100000
set_option maxHeartbeats 4000000
/-! models: dicts of marks; woods that may refuse -/
namespace Ah
open PySem PySem.Spec PyProof.Rows L2 TL
/-- a dict of marks at a -/
def mks (a : Addr) (A : MarkM) (N : Nat) : Res := one a (fun G u => ∃ val ks, ks.length ≤ N ∧ (∀ H, H a = some u → TD H a val ks) ∧ MV G val A) (fun _ u h => by
  obtain ⟨val, ks, _, h, _⟩ := h
  intro zs e
  subst e
  obtain ⟨kvs, h⟩ := (h (upd (fun _ => none) a (.tup zs)) upd_same).there
  rw [upd_same] at h
  cases h) (fun G G' u h t => by
  obtain ⟨val, ks, h1, h2, h3⟩ := h
  exact ⟨val, ks, h1, h2, h3.mono t⟩)
section
variable {K : PySem.W.Frag} {H H' : Hp} {Q : VK} {σ : L2.St} {D : Ends} {a t : Addr} {L M F : List Res} {A : MarkM} {N N' : Nat} {w : Str} {m : Int × Int} {c e n : Int}
theorem ent_mks (h : N ≤ N') : Ent (mks a A N) (mks a A N') := fun G S hS => ⟨S, ⟨hS.1, by
  obtain ⟨_, u, e, val, ks, h1, h2, h3⟩ := hS
  exact ⟨u, e, val, ks, Nat.le_trans h1 h, h2, h3⟩⟩, fun _ z => z⟩
theorem mv_none : MV H (fun _ => none) (fun _ => none) := fun w => .inl ⟨rfl, rfl⟩
theorem ent_mnew : Ent (dic a (fun _ => none) N) (mks a (fun _ => none) N) := fun G S hS => ⟨S, ⟨hS.1, by
  obtain ⟨_, u, e, ks, h1, h2⟩ := hS
  exact ⟨u, e, _, ks, h1, h2, mv_none⟩⟩, fun _ z => z⟩
theorem Sep.mks (h : Sep L H) (k : Pick (Ah.mks a A N) L M) : ∃ val ks, ks.length ≤ N ∧ TD H a val ks ∧ MV H val A := by
  obtain ⟨u, e, val, ks, h1, h2, h3⟩ := h.oneAt k
  exact ⟨val, ks, h1, h2 H e, h3⟩
theorem Sep.setMks {val' : Str → Option V} {A' : MarkM} {ks : List Str} {o : HO} (h : Sep L H) (k : Chg (Ah.mks a A N) (Ah.mks a A' N') L M) (t : TD (upd H a o) a val' ks) (hl : ks.length ≤ N') (mv : MV H val' A') : Sep M (upd H a o) := by
  obtain ⟨F, k1, _⟩ := k.picks
  obtain ⟨val, ks0, _, t0, _⟩ := h.mks k1
  obtain ⟨kvs, e⟩ := t0.there
  exact h.oneSet k ⟨val', ks, hl, fun G eg => t.keep (by rw [eg, upd_same]), mv.mono (tupM_upd e (by intro zs z; cases z))⟩
theorem n_min (h : Sep L H) (k : Pick (mks a A N) L M) (q : Q (.bl (A w).isSome) H) : rDIn (.str w) (.ref a) H Q := by
  obtain ⟨val, ks, _, t, mv⟩ := h.mks k
  exact s_din t (by rw [mv.none_iff]; exact q)
theorem n_mnotin (h : Sep L H) (k : Pick (mks a A N) L M) (q : Q (.bl (!(A w).isSome)) H) : rDNotIn (.str w) (.ref a) H Q := by
  obtain ⟨val, ks, _, t, mv⟩ := h.mks k
  exact s_dnotin t (by rw [mv.none_iff]; exact q)
theorem n_mget (h : Sep L H) (k : Pick (mks a A N) L M) (e : A w = some m) (q : ∀ t, Sep (tpl t [.int m.1, .int m.2] :: L) H → Q (.ref t) H) : rDGet (.ref a) (.str w) H Q := by
  obtain ⟨val, ks, _, td, mv⟩ := h.mks k
  obtain ⟨t, e1, e2⟩ := mv.some e
  exact s_dget td e1 (q t (h.pers ⟨fun _ z => z, e2⟩))
theorem n_mput (h : Sep L H) (hv : PD H v (.tuple [.int c, .int e])) (k : Chg (mks a A N) (mks a (setm A w (c, e)) (N + 1)) L M) (hN : N < 10000000) (q : ∀ H', Sep M H' → D.nx σ H') : rDPut v D σ (.ref a) (.str w) H := by
  obtain ⟨F, k1, k2⟩ := k.picks
  obtain ⟨val, ks, l, td, mv⟩ := h.mks k1
  obtain ⟨t, zs, rfl, h1, h2⟩ := hv.ofTup
  obtain ⟨x, y, rfl, hx, hy⟩ := h2.two
  rw [hx.ofInt, hy.ofInt] at h1
  exact s_dput td (by omega) fun o t' => q _ (h.setMks k t' (Nat.le_trans (addK_len _ _) (by omega)) (mv.set (m := (c, e)) h1))
theorem n_mputO (h : Sep L H) (hv : PD H v (.tuple [.int c, .int e])) (k : Chg (mks a A N) (mks a (setm A w (c, e)) N) L M) (hN : N < 10000000) (ha : (A w).isSome = true) (q : ∀ H', Sep M H' → D.nx σ H') : rDPut v D σ (.ref a) (.str w) H := by
  obtain ⟨F, k1, k2⟩ := k.picks
  obtain ⟨val, ks, l, td, mv⟩ := h.mks k1
  obtain ⟨t, zs, rfl, h1, h2⟩ := hv.ofTup
  obtain ⟨x, y, rfl, hx, hy⟩ := h2.two
  rw [hx.ofInt, hy.ofInt] at h1
  refine s_dput td (by omega) fun o t' => q _ (h.setMks k t' ?_ (mv.set (m := (c, e)) h1))
  have : addK ks w = ks := by unfold addK; rw [if_pos (td.mem.mpr (by rw [mv.none_iff]; exact ha))]
  rw [this]; exact l
theorem n_mpop {ty : TE} (h : Sep L H) (k : Chg (mks a A N) (mks a (delm A w) N) L M) (ha : (A w).isSome = true) (k' : ∀ R : VK, R (.str w) H → ty σ H R) (q : ∀ v H', Sep M H' → Q v H') : rPop1 ty σ (.ref a) H Q := by
  obtain ⟨F, k1, k2⟩ := k.picks
  obtain ⟨val, ks, l, td, mv⟩ := h.mks k1
  cases e : val w with
  | none =>
    have := mv.none_iff (w := w)
    rw [e, ha] at this; cases this
  | some v => exact s_dpop1 td e k' fun o t' => q v _ (h.setMks k t' (Nat.le_trans (remK_len _ _) l) mv.del)
theorem n_msort (h : Sep L H) (k : Pick (mks a A N) L M) (n : Int) (q : ∀ l H', Sep (lis l ((gKeys (gOf A n)).map V.str) :: L) H' → Q (.ref l) H') : rSortDict [.ref a] H Q := by
  obtain ⟨val, ks, _, hT, hM⟩ := h.mks k
  refine s_sortD hT fun l hl => q l _ ?_
  have e : ks.mergeSort leS = gKeys (gOf A n) := keysOf_is hT.nd fun w => by
    rw [hT.mem, hM.none_iff]
    unfold gOf
    cases A w <;> rfl
  have := h.newL (xs := (gKeys (gOf A n)).map V.str) hl
  rw [← e] at this ⊢
  exact this
theorem Sep.mok (h : Sep L H) (k : Pick (Ah.mks a A N) L M) (ok : MarksOk A n) : GOk (gOf A n) N := by
  obtain ⟨val, ks, l, hT, hM⟩ := h.mks k
  refine ⟨⟨ks, hT.nd, fun w => ?_, l⟩, fun w v hv => ?_⟩
  · rw [hT.mem, hM.none_iff]
    unfold gOf
    cases A w <;> rfl
  · unfold gOf at hv
    cases hA : A w with
    | none => rw [hA] at hv; cases hv
    | some m =>
      rw [hA] at hv
      have : wn m n = v := Option.some.inj hv
      exact ⟨(ok w m hA).1, by rw [← this]; exact worth_nonneg (ok w m hA).2.1⟩
end
/-! worths by marks -/
section
variable {A : MarkM} {n t c : Int} {w : Str} {m : Int × Int}
theorem gOf_is : (gOf A n w).isSome = (A w).isSome := by unfold gOf; cases A w <;> rfl
theorem gOf_none : gOf A n w = none ↔ A w = none := by unfold gOf; cases A w <;> simp
theorem gOf_some (e : A w = some m) : gOf A n w = some (wn m n) := by unfold gOf; rw [e]; rfl
theorem gOf_set : gOf (setm A w (c, n)) n = seti (gOf A n) w c := by
  funext x
  exact (wv_set (A := A) (g := gOf A n) (n := n) (fun _ => rfl) c x).symm
theorem gOf_del : gOf (delm A w) n = deli (gOf A n) w := by
  funext x
  unfold gOf deli delm
  by_cases z : x = w
  · rw [if_pos z, if_pos z]; rfl
  · rw [if_neg z, if_neg z]
theorem gOf_later (ok : MarksOk A n) (ht : 0 ≤ t) : gOf A (n + t) = hv (gOf A n) t := by
  funext w
  unfold hv gOf
  cases hA : A w with
  | none => rfl
  | some m =>
    show some (wn m (n + t)) = some (wn m n / 2 ^ t.toNat)
    rw [wn_later (ok w m hA).2.2 (show n ≤ n + t by omega)]
    show some (worth (wn m n) n (n + t)) = _
    unfold worth
    rw [show n + t - n = t by omega]
theorem gOf_new : gOf (fun _ => none) n = fun _ => none := rfl
/-- no count is greater -/
def bdM (A : MarkM) (B : Int) : Prop := ∀ w m, A w = some m → m.1 ≤ B
theorem bdM.mono {B B' : Int} (h : bdM A B) (l : B ≤ B') : bdM A B' := fun w m e => Int.le_trans (h w m e) l
theorem bdM.set {B : Int} (h : bdM A B) (hm : m.1 ≤ B) : bdM (setm A w m) B := fun x y e => by
  unfold setm at e
  by_cases z : x = w
  · rw [if_pos z] at e; cases e; exact hm
  · rw [if_neg z] at e; exact h x y e
theorem bdM.del {B : Int} (h : bdM A B) : bdM (delm A w) B := fun x y e => by
  unfold delm at e
  by_cases z : x = w
  · rw [if_pos z] at e; cases e
  · rw [if_neg z] at e; exact h x y e
theorem bdM.wn {B : Int} (h : bdM A B) (ok : MarksOk A n) (e : A w = some m) : wn m n ≤ B := Int.le_trans (worth_le (ok w m e).2.1) (h w m e)
theorem halved_is {c e n : Int} (h0 : 0 ≤ c) (h1 : c < 2 ^ 64) (h : e ≤ n) : c / 2 ^ (min 64 (n - e)).toNat = worth c e n := by
  unfold worth
  by_cases z : n - e ≤ 64
  · rw [show min 64 (n - e) = n - e by omega]
  · have e1 : (min 64 (n - e)).toNat = 64 := by omega
    have e2 : (2 : Int) ^ 64 ≤ 2 ^ (n - e).toNat := pow2_mono (by omega)
    rw [e1, Int.ediv_eq_zero_of_lt h0 h1, Int.ediv_eq_zero_of_lt h0 (by omega)]
end
/-! the dict of a model -/
def mV (dm : Addr) (e : Int) (dh : Option Addr) : Str → Option V := fun w => if w = "marks" then some (.ref dm) else if w = "era" then some (.int e) else if w = "hidden" then dh.map V.ref else none
section
variable {dm d : Addr} {e e' : Int} {dh : Option Addr} {L M : List Res} {H : Hp} {D : Ends} {σ : L2.St} {a : Addr} {N : Nat} {Q : VK}
theorem mV_m : mV dm e dh "marks" = some (.ref dm) := if_pos rfl
theorem mV_e : mV dm e dh "era" = some (.int e) := (if_neg (by decide +kernel)).trans (if_pos rfl)
theorem mV_h : mV dm e (some d) "hidden" = some (.ref d) := (if_neg (by decide +kernel)).trans ((if_neg (by decide +kernel)).trans (if_pos rfl))
theorem mV_set : setv (mV dm e dh) "era" (.int e') = mV dm e' dh := by
  funext w
  unfold setv mV
  by_cases c : w = "era"
  · subst c
    rw [if_pos rfl, if_neg (by decide +kernel), if_pos rfl]
  · rw [if_neg c, if_neg c, if_neg c]
theorem n_setEra (h : Sep L H) (k : Chg (dic a (mV dm e dh) 3) (dic a (mV dm e' dh) 3) L M) (q : ∀ H', Sep M H' → D.nx σ H') : rDPut (.int e') D σ (.ref a) (.str "era") H := by
  have e1 : mV dm e' dh = setv (mV dm e dh) "era" (.int e') := mV_set.symm
  rw [e1] at k
  exact n_dputO (val := mV dm e dh) (N := 3) h k (by decide) (by rw [mV_e]; rfl) q
end
theorem td_put1 {p : Addr} {H : Hp} {kvs : List (Key × V)} {val : Str → Option V} {ks : List Str} (h : TD (upd H p (.dK kvs)) p val ks) (w : Str) (v : V) : TD (upd H p (.dK (putK kvs (Sum.inr w) v))) p (setv val w v) (addK ks w) := by
  obtain ⟨kvs', h1, h2, h3, h4⟩ := h.ex
  rw [upd_same] at h1
  cases h1
  refine ⟨_, upd_same, ?_, ?_, fun x => ?_⟩
  · rw [keys_put, h2]
    have e : ((Sum.inr w : Key) ∈ ks.map Sum.inr) ↔ w ∈ ks := by simp
    unfold addK
    by_cases c : w ∈ ks
    · rw [if_pos (e.mpr c), if_pos c]
    · rw [if_neg (fun z => c (e.mp z)), if_neg c, List.map_append]; rfl
  · unfold addK
    by_cases c : w ∈ ks
    · rw [if_pos c]; exact h3
    · rw [if_neg c]; exact nd_snoc h3 c
  · rw [valV_put, h4]
    unfold setv
    by_cases c : x = w
    · rw [if_pos c, if_pos (by rw [c])]
    · rw [if_neg c, if_neg (by simpa using c)]
theorem td_merge {p : Addr} {H : Hp} : ∀ (ps : List (Str × V)) {kvs : List (Key × V)} {val : Str → Option V} {ks : List Str}, TD (upd H p (.dK kvs)) p val ks →
    TD (upd H p (.dK (mergeK kvs (ps.map fun e => (Sum.inr e.1, e.2))))) p (ps.foldl (fun v e => setv v e.1 e.2) val) (ps.foldl (fun k e => addK k e.1) ks)
  | [], _, _, _, h => h
  | (w, v) :: r, kvs, val, ks, h => td_merge r (td_put1 h w v)
theorem addK_fold (ps : List (Str × V)) : ∀ ks : List Str, (ps.foldl (fun k e => addK k e.1) ks).length ≤ ks.length + ps.length := by
  induction ps with
  | nil => intro ks; exact Nat.le_refl _
  | cons a r ih =>
    intro ks
    have h1 := ih (addK ks a.1)
    have h2 := addK_len ks a.1
    rw [List.length_cons]
    exact Nat.le_trans h1 (by omega)
/-- the end of a display of a dict with texts as keys -/
def DispEnd (p : Addr) (Q : VK) (vs : List (V × V)) (H : Hp) : Prop := H p = some (.dK []) ∧ ∃ kvs : List (Key × V), vs = kvs.map (fun kv => (kV kv.1, kv.2)) ∧ kvs.length ≤ 15 ∧ Q (.ref p) (upd H p (.dK (mergeK [] kvs)))
theorem n_disp {p : Addr} {H : Hp} {L M : List Res} {Q : VK} {vs : List (V × V)} {val : Str → Option V} (ps : List (Str × V)) (h : Sep L H) (k : Chg (dic p (fun _ => none) 0) (dic p val ps.length) L M)
    (ev : vs = ps.map fun e => (V.str e.1, e.2)) (el : ps.length ≤ 15) (e : ps.foldl (fun v e => setv v e.1 e.2) (fun _ => none) = val) (q : ∀ H', Sep M H' → Q (.ref p) H') : DispEnd p Q vs H := by
  obtain ⟨F, k1, k2⟩ := k.picks
  obtain ⟨ks, t, l⟩ := h.dic k1
  obtain ⟨kvs, e1, e2, e3, e4⟩ := t.ex
  have e0 : kvs = [] := by
    have := congrArg List.length e2
    rw [List.length_map, List.length_map] at this
    exact List.eq_nil_of_length_eq_zero (by omega)
  subst e0
  refine ⟨e1, ps.map fun e => (Sum.inr e.1, e.2), ?_, by rw [List.length_map]; exact el, q _ ?_⟩
  · rw [ev, List.map_map]; rfl
  · have t0 : TD (upd H p (.dK [])) p (fun _ => none) [] := TD.new
    have t1 := td_merge ps t0
    rw [e] at t1
    exact h.setDic k t1 (by have := addK_fold ps []; simpa using this)
theorem u_disp {trs : List (TE × TE)} {σ : L2.St} {H : Hp} {Q : VK} {L : List Res} (h : Sep L H) (q : ∀ p H1, Sep (dic p (fun _ => none) 0 :: L) H1 → tPairs trs σ H1 (DispEnd p Q)) : tDisp trs σ H Q :=
  fun p hp => q p _ (h.newDic hp)
theorem u_pairs {tk tv : TE} {r : List (TE × TE)} {σ : L2.St} {H : Hp} {Q : List (V × V) → Hp → Prop} (h : tk σ H fun x H1 => tv σ H1 fun y H2 => tPairs r σ H2 fun ps H3 => Q ((x, y) :: ps) H3) : tPairs ((tk, tv) :: r) σ H Q := h
instance iu_pairs {tk tv : TE} {r : List (TE × TE)} {σ : L2.St} {H : Hp} {Q : List (V × V) → Hp → Prop} : US (tPairs ((tk, tv) :: r) σ H Q) (tk σ H fun x H1 => tv σ H1 fun y H2 => tPairs r σ H2 fun ps H3 => Q ((x, y) :: ps) H3) := ⟨u_pairs⟩
theorem u_pairs0 {σ : L2.St} {H : Hp} {Q : List (V × V) → Hp → Prop} (h : Q [] H) : tPairs [] σ H Q := h
instance iu_pairs0 {σ : L2.St} {H : Hp} {Q : List (V × V) → Hp → Prop} : US (tPairs [] σ H Q) (Q [] H) := ⟨u_pairs0⟩
theorem mV_new3 {dm dh : Addr} {e : Int} : ([("marks", .ref dm), ("era", .int e), ("hidden", .ref dh)] : List (Str × V)).foldl (fun v e => setv v e.1 e.2) (fun _ => none) = mV dm e (some dh) := by
  funext w
  show setv (setv (setv (fun _ => none) _ _) _ _) _ _ w = _
  unfold setv mV
  by_cases c1 : w = "marks"
  · subst c1
    rw [if_neg (show ¬ ("marks" : Str) = "hidden" from by decide +kernel), if_neg (show ¬ ("marks" : Str) = "era" from by decide +kernel), if_pos rfl, if_pos rfl]
  · by_cases c2 : w = "era"
    · subst c2
      rw [if_neg (show ¬ ("era" : Str) = "hidden" from by decide +kernel), if_pos rfl, if_neg c1, if_pos rfl]
    · by_cases c3 : w = "hidden"
      · subst c3
        rw [if_pos rfl, if_neg c1, if_neg c2, if_pos rfl]; rfl
      · rw [if_neg c3, if_neg c2, if_neg c1, if_neg c1, if_neg c2, if_neg c3]
theorem mV_new2 {dm : Addr} {e : Int} : ([("marks", .ref dm), ("era", .int e)] : List (Str × V)).foldl (fun v e => setv v e.1 e.2) (fun _ => none) = mV dm e none := by
  funext w
  show setv (setv (fun _ => none) _ _) _ _ w = _
  unfold setv mV
  by_cases c1 : w = "marks"
  · subst c1
    rw [if_neg (show ¬ ("marks" : Str) = "era" from by decide +kernel), if_pos rfl, if_pos rfl]
  · by_cases c2 : w = "era"
    · subst c2
      rw [if_pos rfl, if_neg c1, if_pos rfl]
    · rw [if_neg c2, if_neg c1, if_neg c1, if_neg c2]
      by_cases c3 : w = "hidden"
      · rw [if_pos c3]; rfl
      · rw [if_neg c3]
/-! deeds on woods that may be refused -/
section
variable {K : PySem.W.Frag} {C XN XT XA p : Addr} {H : Hp} {Q : VK} {E : XK} {g : WM} {n c t : Int} {N : Nat} {L F : List Res} {w : Str} {x : V}
theorem c_putR (h : Sep L H) (k : Pick (wd C p g n N) L F) (hx : AnyT K H x) (hb : N ≤ 900000 ∧ 0 ≤ c) (qN : (∀ w, x = .str w → isW w = false) → ∀ H', Sep L H' → EX XN E H')
    (qT : ∀ w, x = .str w → isW w = true → (g w).isSome = true → ∀ H', Sep L H' → EX XT E H') (q : ∀ w, x = .str w → isW w = true → g w = none → ∀ H', Sep (wd C p (seti g w c) n (N + 27) :: F) H' → Q .non H') : spPut K C XN XT [.ref p, x, .int c] H Q E := by
  obtain ⟨dm, dt, A, ks, B, W, e, f⟩ := (h.pick k).wood .here
  have hA : ∀ w, (g w).isSome = (A w).isSome := fun w => by rw [e]; cases A w <;> rfl
  refine ⟨p, dm, dt, A, ks, B, n, N, x, c, rfl, W, hb.1, hb.2, hx, fun z H' s => qN z H' (h.same s), fun w ew hw ha H' s => qT w ew hw ?_ H' (h.same s), fun w ew hw ha B' H' W' o => q w ew hw ?_ H' (f .here W' (wv_set e c) o)⟩
  · rw [hA]
    cases z : A w with
    | none => exact absurd z ha
    | some m => rfl
  · have := hA w
    rw [ha] at this
    cases z : g w with
    | none => rfl
    | some m => rw [z] at this; cases this
theorem c_useR (h : Sep L H) (k : Pick (wd C p g n N) L F) (hb : N ≤ 900000 ∧ 0 ≤ t) (qA : g w = none → EX XA E H) (q : ∀ v, g w = some v → ∀ H', Sep (wd C p (seti g w (v + t)) n (N + 27) :: F) H' → Q .non H') : spUse C XA [.ref p, .str w, .int t] H Q E := by
  obtain ⟨dm, dt, A, ks, B, W, e, f⟩ := (h.pick k).wood .here
  refine ⟨p, dm, dt, A, ks, B, n, N, w, t, rfl, W, hb.1, hb.2, fun z => qA (by rw [e, z]; rfl), fun m hm B' H' W' o => q (wn m n) (by rw [e, hm]; rfl) H' (f .here W' (wv_set e _) o)⟩
theorem c_strikeR (h : Sep L H) (k : Pick (wd C p g n N) L F) (hb : N ≤ 900000) (qA : g w = none → EX XA E H) (q : ∀ v, g w = some v → ∀ H', Sep (wd C p (deli g w) n (N + 27) :: F) H' → Q .non H') : spStrike C XA [.ref p, .str w] H Q E := by
  obtain ⟨dm, dt, A, ks, B, W, e, f⟩ := (h.pick k).wood .here
  refine ⟨p, dm, dt, A, ks, B, n, N, w, rfl, W, hb, fun z => qA (by rw [e, z]; rfl), fun m hm B' H' W' o => q (wn m n) (by rw [e, hm]; rfl) H' (f .here W' (fun x => ?_) o)⟩
  unfold deli delm
  by_cases z : x = w
  · rw [if_pos z, if_pos z]; rfl
  · rw [if_neg z, if_neg z]; exact e x
end
/-- what is no word -/
def BadX (x : V) : Prop := (∃ w, x = .str w ∧ isW w = false) ∨ (∀ w, x ≠ .str w)
section
variable {K : PySem.W.Frag} {H : Hp} {Q : VK} {L M : List Res} {p : Addr} {i a b c : Int}
theorem n_in2 (h : Sep L H) (k : Pick (dat (.ref p) (.tuple [.int a, .int b])) L M) (q : Q (.bl (decide (i = a) || decide (i = b))) H) : rIn K false (.int i) (.ref p) H Q := by
  obtain ⟨t, zs, e, h1, h2⟩ := (h.dat k).ofTup
  cases e
  obtain ⟨x, y, rfl, hx, hy⟩ := h2.two
  rw [hx.ofInt, hy.ofInt] at h1
  refine ⟨p, _, rfl, .inr (SqT.of h1), rfl, rfl, ?_⟩
  have e : inV (.int i) [.int a, .int b] = (decide (i = a) || decide (i = b)) := by
    rw [Bool.eq_iff_iff]; simp [inV, eqV]; omega
  rw [e]; exact q
theorem n_in3 (h : Sep L H) (k : Pick (dat (.ref p) (.tuple [.int a, .int b, .int c])) L M) (q : Q (.bl (decide (i = a) || (decide (i = b) || decide (i = c)))) H) : rIn K false (.int i) (.ref p) H Q := by
  obtain ⟨t, zs, e, h1, h2⟩ := (h.dat k).ofTup
  cases e
  obtain ⟨x, y, z, rfl, hx, hy, hz⟩ := h2.three
  rw [hx.ofInt, hy.ofInt, hz.ofInt] at h1
  refine ⟨p, _, rfl, .inr (SqT.of h1), rfl, rfl, ?_⟩
  have e : inV (.int i) [.int a, .int b, .int c] = (decide (i = a) || (decide (i = b) || decide (i = c))) := by
    rw [Bool.eq_iff_iff]; simp [inV, eqV]; omega
  rw [e]; exact q
end
theorem sep_un2 {L M : List Res} {H : Hp} {q : Addr} {d1 d2 : PyData} (h : Sep L H) (k : Pick (dat (.ref q) (.tuple [d1, d2])) L M) : ∃ x y, PD H x d1 ∧ PD H y d2 ∧ Sep (tpl q [x, y] :: dat x d1 :: dat y d2 :: L) H := by
  obtain ⟨t, zs, e, h1, h2⟩ := (h.dat k).ofTup
  cases e
  obtain ⟨x, y, rfl, hx, hy⟩ := h2.two
  have a1 : Sep (dat y d2 :: L) H := h.pers ⟨fun _ z => z, hy⟩
  have a2 : Sep (dat x d1 :: dat y d2 :: L) H := a1.pers ⟨fun _ z => z, hx⟩
  exact ⟨x, y, hx, hy, a2.pers ⟨fun _ z => z, h1⟩⟩
section
variable {X : Cx} {k : Nat} {ps : List Str} {sp : Sp} {E : XK} {x : Str} {p pos : Pos}
theorem pe_fn0 (F : Fn X.prog X.w X.K X.mg X.base k x ps sp) (hr : Room k X.A) (hx : Passes (L2.CX X.prog X.w) X E) (hg : Gl X x := by rfl)
    (hdb : (x == ("__debug__" : Str)) = false := by decide) :
    PE X (.Call (.Name x p) [] [] pos) (tCall sp [] E tNil) := by
  obtain ⟨f, fd, a, m, kp, b⟩ := F.ex
  exact pe_call0 a hr hg m kp b .nil hx hdb
end
end Ah
set_option Elab.async false
set_option linter.all false
set_option maxRecDepth 100000
set_option maxHeartbeats 4000000
/-! methods of an object that is of one of two classes -/
namespace Ah
open PySem PySem.Spec PyProof.Rows L2 TL
def rMeth2 (C1 C2 : Addr) (m : Str) (sp1 sp2 : Sp) (E : XK) (t : TA) (σ : L2.St) (Q : VK) : V → Hp → Prop := fun x H1 =>
  (∃ a dx fs, x = .ref a ∧ H1 a = some (.ins C1 dx fs) ∧ fs.lookup m = none ∧ t σ H1 fun vs H2 => sp1 (x :: (vs ++ [])) H2 Q E) ∨ ∃ a dx fs, x = .ref a ∧ H1 a = some (.ins C2 dx fs) ∧ fs.lookup m = none ∧ t σ H1 fun vs H2 => sp2 (x :: (vs ++ [])) H2 Q E
def tMeth2 (C1 C2 : Addr) (m : Str) (sp1 sp2 : Sp) (E : XK) (ta : TE) (t : TA) : TE := fun σ H Q => ta σ H fun x H1 => rMeth2 C1 C2 m sp1 sp2 E t σ Q x H1
section
variable {X : Cx} {k1 k2 : Nat} {C1 C2 : Addr} {x m : Str} {ps1 ps2 : List Str} {dv1 dv2 : List V} {sp1 sp2 : Sp} {E : XK} {p pos apos : Pos} {e o : Expr} {es : List Expr} {ta : TE} {t : TA} {σ : L2.St} {H : Hp} {Q : VK}
theorem u_meth2 (h : ta σ H fun x H1 => rMeth2 C1 C2 m sp1 sp2 E t σ Q x H1) : tMeth2 C1 C2 m sp1 sp2 E ta t σ H Q := h
instance iu_meth2  : US (tMeth2 C1 C2 m sp1 sp2 E ta t σ H Q) (ta σ H fun x H1 => rMeth2 C1 C2 m sp1 sp2 E t σ Q x H1) := ⟨u_meth2⟩
theorem pe_mth2 {pl : Sem Bool} (F1 : FnM X.prog X.w X.K X.mg X.base k1 C1 m ps1 dv1 sp1) (F2 : FnM X.prog X.w X.K X.mg X.base k2 C2 m ps2 dv2 sp2) (hr1 : Room k1 X.A) (hr2 : Room k2 X.A) (hx : Passes (L2.CX X.prog X.w) X E) (he : PE X o ta) (ha : PA X (e :: es) t)
    (hst : starEach (e :: es) X.env = (false, eval e X.env) :: starEach es X.env := by rfl) (hpl : (backTo pos (starEach es X.env)).any (·.1) = false := by rfl)
    (ht : eval (.Call (.Attribute o m apos) (e :: es) [] pos) X.env = (do
      let ov ← eval o X.env
      standAt apos.atName
      let (f, first) ← holding [ov] (getMethod ov m pl)
      callWith pos f first (backTo pos (starEach (e :: es) X.env)) (backToKw pos (keywordEach [] X.env))) := by rfl) :
    PE X (.Call (.Attribute o m apos) (e :: es) [] pos) (tMeth2 C1 C2 m sp1 sp2 E ta t) := by
  obtain ⟨f1, fd1, G1, c1, hm1, hb1, _⟩ := F1.ex
  obtain ⟨f2, fd2, G2, c2, hm2, hb2, _⟩ := F2.ex
  refine ⟨fun pins s σ H Q I h => ?_⟩
  refine PySem.W.methodCall_KW (pl := pl) (thn (he.run pins s σ H _ I h) fun u s1 ⟨x, H1, I1, rx, q⟩ => ?_) ht
  rcases q with ⟨a, dx, fs, ex, ea, l, q⟩ | ⟨a, dx, fs, ex, ea, l, q⟩
  · subst ex
    obtain rfl : u = Value.ref a := rx
    refine getmeth_ok I1 ea c1 hm1 l ?_
    refine PySem.W.callWith_K (first := [.ref a]) (h₀ := X.base) I.ok.mod.kin hm1.kp (thn (ha.run pos pins s1 σ H1 _ I1 q) fun us s2 ⟨vs, H2, I2, r, q2⟩ => ⟨I2.kIn, ?_⟩) hst hpl
    have q3 : sp1 (.ref a :: (vs ++ [])) H2 Q E := q2
    rw [List.append_nil] at q3
    exact run_fnS (E := fun _ => E) (us := .ref a :: us) (vs := .ref a :: vs) G1 hr1 hb1 (fun pins => hx pins σ) I2 (.cons rfl r) q3
  · subst ex
    obtain rfl : u = Value.ref a := rx
    refine getmeth_ok I1 ea c2 hm2 l ?_
    refine PySem.W.callWith_K (first := [.ref a]) (h₀ := X.base) I.ok.mod.kin hm2.kp (thn (ha.run pos pins s1 σ H1 _ I1 q) fun us s2 ⟨vs, H2, I2, r, q2⟩ => ⟨I2.kIn, ?_⟩) hst hpl
    have q3 : sp2 (.ref a :: (vs ++ [])) H2 Q E := q2
    rw [List.append_nil] at q3
    exact run_fnS (E := fun _ => E) (us := .ref a :: us) (vs := .ref a :: vs) G2 hr2 hb2 (fun pins => hx pins σ) I2 (.cons rfl r) q3
theorem pe_mth02 {pl : Sem Bool} (F1 : FnM X.prog X.w X.K X.mg X.base k1 C1 m ps1 dv1 sp1) (F2 : FnM X.prog X.w X.K X.mg X.base k2 C2 m ps2 dv2 sp2) (hr1 : Room k1 X.A) (hr2 : Room k2 X.A) (hx : Passes (L2.CX X.prog X.w) X E) (he : PE X o ta)
    (ht : eval (.Call (.Attribute o m apos) [] [] pos) X.env = (do
      let ov ← eval o X.env
      standAt apos.atName
      let (f, first) ← holding [ov] (getMethod ov m pl)
      callWith pos f first (backTo pos (starEach [] X.env)) (backToKw pos (keywordEach [] X.env))) := by rfl) :
    PE X (.Call (.Attribute o m apos) [] [] pos) (tMeth2 C1 C2 m sp1 sp2 E ta tNil) := by
  obtain ⟨f1, fd1, G1, c1, hm1, hb1, _⟩ := F1.ex
  obtain ⟨f2, fd2, G2, c2, hm2, hb2, _⟩ := F2.ex
  refine ⟨fun pins s σ H Q I h => ?_⟩
  refine PySem.W.methodCall_KW (pl := pl) (thn (he.run pins s σ H _ I h) fun u s1 ⟨x, H1, I1, rx, q⟩ => ?_) ht
  rcases q with ⟨a, dx, fs, ex, ea, l, q⟩ | ⟨a, dx, fs, ex, ea, l, q⟩
  · subst ex
    obtain rfl : u = Value.ref a := rx
    refine getmeth_ok I1 ea c1 hm1 l ?_
    have q2 : sp1 [.ref a] H1 Q E := q
    exact PySem.W.callWith_K0 (first := [.ref a]) I1.kIn hm1.kp (run_fnS (E := fun _ => E) (us := [.ref a]) (vs := [.ref a]) G1 hr1 hb1 (fun pins => hx pins σ) I1 (.cons rfl .nil) q2)
  · subst ex
    obtain rfl : u = Value.ref a := rx
    refine getmeth_ok I1 ea c2 hm2 l ?_
    have q2 : sp2 [.ref a] H1 Q E := q
    exact PySem.W.callWith_K0 (first := [.ref a]) I1.kIn hm2.kp (run_fnS (E := fun _ => E) (us := [.ref a]) (vs := [.ref a]) G2 hr2 hb2 (fun pins => hx pins σ) I1 (.cons rfl .nil) q2)
end
section
variable {C1 C2 Cx p : Addr} {m : Str} {E : XK} {t : TA} {σ : L2.St} {H : Hp} {Q : VK} {L M : List Res} {g : WM} {n : Int} {N : Nat}
theorem n_mth2 (sp : Addr → Sp) (h : Sep L H) (k : Pick (wd Cx p g n N) L M) (hc : Cx = C1 ∨ Cx = C2) (h1 : ¬ m = ("marks" : Str)) (h2 : ¬ m = ("tops" : Str)) (h3 : ¬ m = ("now" : Str)) (q : t σ H fun vs H2 => sp Cx (.ref p :: vs) H2 Q E) : rMeth2 C1 C2 m (sp C1) (sp C2) E t σ Q (.ref p) H := by
  have key : rMeth Cx m (sp Cx) [] E t σ Q (.ref p) H := n_methW h k h1 h2 h3 q
  rcases hc with rfl | rfl
  · exact .inl key
  · exact .inr key
end
theorem PDs.rev {G : Hp} : ∀ {vs : List V} {ds : List PyData}, PDs G vs ds → PDs G vs.reverse ds.reverse
  | _, _, .nil => .nil
  | _, _, .cons h t => by
    rw [List.reverse_cons, List.reverse_cons]
    exact (PDs.rev t).append (.cons h .nil)
section
variable {a : Addr} {xs : List V} {ds : List PyData} {H : Hp} {Q : VK} {L M : List Res}
theorem n_rev (h : Sep L H) (k : Chg (lisD a xs ds) (lisD a xs.reverse ds.reverse) L M) (q : ∀ H', Sep M H' → Q .non H') : rReverse (.ref a) [] H Q := by
  obtain ⟨F, k1, k2⟩ := k.picks
  exact ⟨a, xs, rfl, rfl, h.lisD k1, q _ (h.setD k (PDs.rev (h.pds k1)))⟩
theorem n_clearD (h : Sep L H) (k : Chg (lisD a xs ds) (lisD a [] []) L M) (q : ∀ H', Sep M H' → Q .non H') : rClear (.ref a) [] H Q := by
  obtain ⟨F, k1, k2⟩ := k.picks
  exact ⟨a, xs, rfl, rfl, h.lisD k1, q _ (h.setD k .nil)⟩
end
end Ah
set_option Elab.async false
set_option linter.all false
set_option maxRecDepth 100000
set_option maxHeartbeats 4000000
/-! dicts with tuples as keys: gone through, asked, stored -/
namespace Ah
open PySem PySem.Spec PyProof.Rows L2 TL
section
variable {X : Cx} {pins : List (Addr × Obj)} {σ : L2.St} {H : Hp} {s : Shared} {d : Addr} {oz : Obj} {rows : List (List Key × V)}
/-- what stands in the store where a dict with tuples as keys is locked -/
theorem locked_rows (I : L2.Inv X pins σ H s) (hl : H d = some (.frz oz (.dT rows))) :
    (d == sysModules) = false ∧ s.heap.get? d = some oz ∧ oz.ExactDict ∧ ∃ (ents : Array DictEntry) (cnt : Nat), oz.data = .dict ents cnt ∧ ents.size = rows.length ∧
      ∀ (j : Nat) (key : List Key) (val : V), rows[j]? = some (key, val) → ∃ (one : DictEntry) (b : Addr), ents[j]? = some one ∧ one.key = .ref b ∧ H b = some (.tup (key.map kV)) ∧ RelV val one.val := by
  have ok := I.hok d _ hl
  obtain ⟨at_d, _, nosys, trips, par, oy, ents, cnt, at_y, ex, dat_y, same, _⟩ := ok
  have oo : oy = oz := Option.some.inj (at_y.symm.trans at_d)
  subst oo
  refine ⟨nosys, at_d, ex, ents, cnt, dat_y, ?_, fun j key val hj => ?_⟩
  · rw [size_of_entries same, ← Paired.length par]
  · obtain ⟨tr, tr_at, t1, t2, t3⟩ := paired_get par hj
    have en := entry_at same j
    rw [tr_at] at en
    exact ⟨_, tr.2.1, en, rfl, t2, t3⟩
end
/-- the turns: an entry's key, its own tuple, and its value, in a new tuple -/
def ItP (d : Addr) (oz : Obj) (rows : List (List Key × V)) : It where
  go j H := H d = some (.frz oz (.dT rows)) ∧ j < rows.length
  yld j H x H' := ∃ (T b : Addr) (key : List Key) (val : V), rows[j]? = some (key, val) ∧ H b = some (.tup (key.map kV)) ∧ x = .ref T ∧ H T = none ∧ H' = upd H T (.tup [.ref b, val])
  stop j H := H d = some (.frz oz (.dT rows)) ∧ rows.length ≤ j
section
variable {P : Program} {w : World} {K : PySem.W.Frag} {d : Addr} {oz : Obj} {ents : Array DictEntry} {cnt : Nat} {rows : List (List Key × V)} {elts : List Expr} {kk : Nat} {tpos : Pos}
theorem turn_itemsT (it : Addr) (hoz : oz.data = .dict ents cnt) : Turn P w K (.Tuple elts kk tpos) (ItP d oz rows) [it] it (fun j hp => ∃ k1 v1, IsItemIter hp it d j rows.length cnt k1 v1) where
  mem := List.mem_singleton.mpr rfl
  obj := fun _ _ hst b hb => by
    obtain ⟨k1, v1, e⟩ := hst
    rw [List.mem_singleton.mp hb]
    exact ⟨_, e, fun _ no => nomatch no⟩
  keep := fun _ _ _ hst old => by
    obtain ⟨k1, v1, e⟩ := hst
    exact ⟨k1, v1, old it (List.mem_singleton.mpr rfl) _ e⟩
  item := by
    intro X e1 e2 e3 calm j pins s σ H E I own hst hgo
    subst e1 e2 e3
    obtain ⟨hl, lt⟩ := hgo
    obtain ⟨_, atd, exd, ents', cnt', hd', size', ask⟩ := locked_rows I hl
    have sm := hoz.symm.trans hd'
    cases sm
    obtain ⟨k1, v1, hit⟩ := hst
    have low : it < s.heap.objs.size := Heap.lt_size hit
    obtain ⟨one, b, h1, h2, h3, h4⟩ := ask j rows[j].1 rows[j].2 (List.getElem?_eq_getElem lt)
    have lt2 : j < ents.size := by omega
    have one_is : ents[j] = one := Option.some.inj ((Array.getElem?_eq_getElem lt2).symm.trans h1)
    rw [← size'] at hit
    refine DT.nextI hit ⟨oz, atd, exd, hoz⟩ lt2 fun g out made bigger olds => ⟨_, rfl, ?_⟩
    refine wpAny_letOwnedTupleGo_items (s := { s with heap := g }) out fun g2 back but => ?_
    rw [one_is, h2] at made
    have there : g2.get? s.heap.objs.size = some { cls := .type "tuple", data := .seq #[.ref b, one.val] } := (but.2 _ (Nat.ne_of_gt low)).trans made
    have fresh : H s.heap.objs.size = none := I.hok.fresh (Nat.le_refl _)
    have I2 : L2.Inv X pins σ (upd H s.heap.objs.size (.tup [.ref b, rows[j].2])) { s with heap := g2 } :=
      I.turnedNew (t' := s.toks) (ch := [it]) (fun c o nc ec => by
        have ne : c ≠ it := fun z => nc (List.mem_singleton.mpr z)
        rw [but.2 c ne]; exact olds c o ne ec) own (Nat.le_refl _) ⟨by show 2 ≤ sizeLine; decide, [.ref b, one.val], .cons rfl (.cons h4 .nil), ⟨_, there, rfl, _, rfl⟩⟩
    refine ⟨.ref s.heap.objs.size, _, I2, rfl, ⟨_, b, _, _, List.getElem?_eq_getElem lt, h3, rfl, fresh, rfl⟩, ⟨_, _, by rw [← size']; exact back⟩, fun c hc => ?_⟩
    rw [List.mem_singleton.mp hc, upd_ne (Nat.ne_of_lt low)]
    exact (own it (List.mem_singleton.mpr rfl)).1
  done := by
    intro X e1 e2 e3 calm j pins s σ H E I own hst hno
    subst e1 e2 e3
    obtain ⟨hl, ge⟩ := hno
    obtain ⟨_, atd, exd, ents', cnt', hd', size', _⟩ := locked_rows I hl
    have sm := hoz.symm.trans hd'
    cases sm
    obtain ⟨k1, v1, hit⟩ := hst
    rw [← size'] at hit
    obtain ⟨q0, q1, q2, q3, q4, q5⟩ := own it (List.mem_singleton.mpr rfl)
    refine DT.endI (I.ok.hd calm) hit ⟨oz, atd, exd, hoz⟩ (by omega) fun g but => ⟨rfl, ?_⟩
    exact I.turned (t' := s.toks) (fun c o nc ec => but c o nc ec) q0 q1 q3 q4 q5
  self := fun _ _ _ _ _ hst q => by
    obtain ⟨k1, v1, e⟩ := hst
    exact PySem.W.kcp_self e q
end
/-- d.items(), d locked, with tuples as keys -/
def iItemsT (td : TE) : TI := fun σ H R => td σ H fun x H1 => ∃ d oz rows, x = .ref d ∧ H1 d = some (.frz oz (.dT rows)) ∧ R (ItP d oz rows) H1
theorem pi_itemsT {X : Cx} {e : Expr} {td : TE} {apos cpos : Pos} {elts : List Expr} {kk : Nat} {tpos : Pos} (he : PE X e td) (ab : attributeBase e "items" X.env (eval e X.env) = eval e X.env := by rfl) (al : (apos.endLine == cpos.line) = true := by rfl) :
    PI X (.Tuple elts kk tpos) (.Call (.Attribute e "items" apos) [] [] cpos) (iItemsT td) := by
  constructor
  intro pins s σ H R I h
  refine wpAny_Call_method (T := "dict") (id := "dict.items") ab rfl al F.plainAttrs_dict F.slot_dict_items F.type_dict_items ?_
  refine thn (he.run pins s σ H _ I h) ?_
  rintro u s1 ⟨x, H1, I1, rx, d, oz, rows, rfl, hl, q⟩
  cases rx
  obtain ⟨nosys, atd, exd, ents, cnt, hoz, size, _⟩ := locked_rows I1 hl
  have raw : DT.Raw s1.heap d ents cnt := ⟨oz, atd, exd, hoz⟩
  refine ⟨raw.typeIs, fun a ea => by cases ea; exact ⟨oz, atd, exd.2.1⟩, ?_⟩
  have after : wpAny (model X.prog X.w) X.A (pyIter (.ref s1.heap.objs.size)) (PIE X pins σ (.Tuple elts kk tpos) R) X.xe { s1 with heap := s1.heap.push { cls := .type "dict_items", data := .fields #[.ref d] } } := by
    have I2 : L2.Inv X pins σ H1 { s1 with heap := s1.heap.push { cls := .type "dict_items", data := .fields #[.ref d] } } := I1.kept (t' := s1.toks) fun _ _ z => Heap.get?_push_of_some _ z
    refine DT.iterI ⟨_, Heap.get?_push_size _ rfl, rfl, rfl⟩ (raw.push _) (pi_one (tk := s1.toks) I2 _ (turn_itemsT _ hoz) ?_ q)
    rw [← size]
    exact ⟨_, _, Heap.get?_push_size _ rfl⟩
  refine method_meetsIn F.slot_dict_items F.entry_dict_items rfl (PySem.evalArgs_none ⟨rfl, raw.typeIs, F.args_dict_items_1 _, _, DT.meetsItems nosys, ⟨raw, ?_⟩⟩)
  exact after
theorem walk_itemsT {d : Addr} {oz : Obj} {rows : List (List Key × V)} : Walk (ItP d oz rows) rows.length (fun H => H d = some (.frz oz (.dT rows)))
    (fun j H x H' => ∃ (T b : Addr) (key : List Key) (val : V), rows[j]? = some (key, val) ∧ H b = some (.tup (key.map kV)) ∧ x = .ref T ∧ H T = none ∧ H' = upd H T (.tup [.ref b, val])) :=
  ⟨fun _ _ lt g => ⟨g, lt⟩, fun _ g => ⟨g, Nat.le_refl _⟩, fun _ _ _ _ _ _ y => y⟩
/-! ### marks of pairs -/
section
variable {M : PM} {k j : PK} {m : Int × Int} {G : Hp} {kvs : List (List Key × V)} {ks : List PK}
def setP (M : PM) (k : PK) (m : Int × Int) : PM := fun j => if j = k then some m else M j
def delP (M : PM) (w : Str) : PM := fun k => if k.1 = w ∨ k.2 = w then none else M k
/-- what a pair is worth at era n -/
def pwOf (M : PM) (n : Int) (k : PK) : Int := match M k with | none => 0 | some m => worth m.1 m.2 n
/-- counts from 0 to B, no mark behind era n -/
def PmOk (M : PM) (n B : Int) : Prop := ∀ k m, M k = some m → 0 ≤ m.1 ∧ m.1 ≤ B ∧ m.2 ≤ n
theorem pmOk_new {n B : Int} : PmOk (fun _ => none) n B := fun _ _ e => nomatch e
theorem PmOk.mono {n B n' B' : Int} (h : PmOk M n B) (hn : n ≤ n') (hB : B ≤ B') : PmOk M n' B' := fun k m e => by
  obtain ⟨h1, h2, h3⟩ := h k m e
  exact ⟨h1, Int.le_trans h2 hB, Int.le_trans h3 hn⟩
theorem PmOk.set {n B : Int} (h : PmOk M n B) (h1 : 0 ≤ m.1) (h2 : m.1 ≤ B) (h3 : m.2 ≤ n) : PmOk (setP M k m) n B := fun j x e => by
  unfold setP at e
  by_cases z : j = k
  · rw [if_pos z] at e; cases e; exact ⟨h1, h2, h3⟩
  · rw [if_neg z] at e; exact h j x e
theorem PmOk.del {n B : Int} {w : Str} (h : PmOk M n B) : PmOk (delP M w) n B := fun j x e => by
  unfold delP at e
  by_cases z : j.1 = w ∨ j.2 = w
  · rw [if_pos z] at e; cases e
  · rw [if_neg z] at e; exact h j x e
theorem PmOk.pw {n B : Int} (h : PmOk M n B) (hB : 0 ≤ B) : 0 ≤ pwOf M n k ∧ pwOf M n k ≤ B := by
  unfold pwOf
  cases e : M k with
  | none => exact ⟨Int.le_refl _, hB⟩
  | some m =>
    obtain ⟨h1, h2, h3⟩ := h k m e
    exact ⟨worth_nonneg h1, Int.le_trans (worth_le h1) h2⟩
theorem PDT.mem (p : PDT G kvs M ks) : k ∈ ks ↔ (M k).isSome = true := by
  have q : (valV kvs (kP k)).isSome = true ↔ kP k ∈ kvs.map (·.1) := by
    rw [← valV_any]
    simp [List.any_eq_true]
  rw [p.keys] at q
  have q2 : kP k ∈ ks.map kP ↔ k ∈ ks := by
    rw [List.mem_map]
    constructor
    · rintro ⟨j, hj, e⟩
      rw [← kP_inj e]; exact hj
    · intro hk; exact ⟨k, hk, rfl⟩
  rw [← q2, ← q]
  cases e : M k with
  | none => rw [p.no k e]; simp
  | some m =>
    obtain ⟨t, e1, _⟩ := p.yes k m e
    rw [e1]; rfl
theorem PDT.len (p : PDT G kvs M ks) : kvs.length = ks.length := by
  have := congrArg List.length p.keys
  rwa [List.length_map, List.length_map] at this
theorem PDT.set {t : Addr} (p : PDT G kvs M ks) (ht : G t = some (.tup [.int m.1, .int m.2])) : ∃ ks', ks'.length ≤ ks.length + 1 ∧ PDT G (putK kvs (kP k) (.ref t)) (setP M k m) ks' := by
  have vals : ∀ j, (setP M k m j = none → valV (putK kvs (kP k) (.ref t)) (kP j) = none) ∧ ∀ x, setP M k m j = some x → ∃ t', valV (putK kvs (kP k) (.ref t)) (kP j) = some (.ref t') ∧ G t' = some (.tup [.int x.1, .int x.2]) := by
    intro j
    rw [valV_put]
    unfold setP
    by_cases z : j = k
    · subst z
      rw [if_pos rfl, if_pos rfl]
      exact ⟨fun e => (nomatch e), fun x e => by cases e; exact ⟨t, rfl, ht⟩⟩
    · have z2 : ¬ kP j = kP k := fun e => z (kP_inj e)
      rw [if_neg z, if_neg z2]
      exact ⟨p.no j, p.yes j⟩
  cases e : valV kvs (kP k) with
  | none =>
    refine ⟨ks ++ [k], by simp, ?_, ?_, fun j => (vals j).1, fun j => (vals j).2⟩
    · rw [putK_new _ e, List.map_append, p.keys, List.map_append]; rfl
    · rw [List.nodup_append]
      refine ⟨p.nd, by simp, fun a ha b hb => ?_⟩
      have : b = k := by simpa using hb
      subst this
      intro z
      subst z
      have := (p.mem).mp ha
      cases eM : M a with
      | none => rw [eM] at this; cases this
      | some x =>
        obtain ⟨t', e1, _⟩ := p.yes a x eM
        rw [e1] at e; cases e
  | some v =>
    refine ⟨ks, by omega, ?_, p.nd, fun j => (vals j).1, fun j => (vals j).2⟩
    have an : (kvs.any fun kv => decide (kv.1 = kP k)) = true := by rw [valV_any, e]; rfl
    unfold putK
    rw [if_pos an, List.map_map, ← p.keys]
    refine List.map_congr_left fun x _ => ?_
    show (if x.1 = kP k then (x.1, V.ref t) else x).1 = x.1
    by_cases z : x.1 = kP k
    · rw [if_pos z]
    · rw [if_neg z]
end
/-- a dict of pairs gone through: locked meanwhile -/
def dctL (a : Addr) (od : Obj) (kvs : List (List Key × V)) (ks : List PK) (M : PM) : Res := one a (fun G u => u = .frz od (.dT kvs) ∧ PDT G kvs M ks) (fun _ _ h => by
  obtain ⟨rfl, _⟩ := h
  intro zs e; cases e) (fun _ _ _ h t => by
  obtain ⟨e, p⟩ := h
  exact ⟨e, p.keys, p.nd, p.no, fun k m hm => by
    obtain ⟨t', h1, h2⟩ := p.yes k m hm
    exact ⟨t', h1, t _ _ h2⟩⟩)
/-- a dict of marks of pairs, locked or not -/
def IsDct (R : Res) (a : Addr) (M : PM) : Prop := ∀ (L F : List Res) (H : Hp), Sep L H → Pick R L F → ∃ kvs ks, Rd H a (.dT kvs) ∧ PDT H kvs M ks
theorem isDct_dct {a : Addr} {M : PM} {N : Nat} : IsDct (dct a M N) a M := fun L F H h k => by
  obtain ⟨u, e, kvs, ks, rfl, _, p⟩ := h.oneAt k
  exact ⟨kvs, ks, .inl e, p⟩
theorem isDct_dctL {a : Addr} {M : PM} {od : Obj} {kvs : List (List Key × V)} {ks : List PK} : IsDct (dctL a od kvs ks M) a M := fun L F H h k => by
  obtain ⟨u, e, rfl, p⟩ := h.oneAt k
  exact ⟨kvs, ks, .inr ⟨od, e⟩, p⟩
def rIsDk (x : V) (H : Hp) (R : Addr → Prop) : Prop := ∃ a, x = .ref a ∧ IsD H a ∧ R a
def rDGet2 (a : Addr) : V → V → Hp → VK → Prop := fun y z H Q => ∃ o, DGet H a y o ∧ Q (o.getD z) H
theorem u_dget2 {td ty tx : TE} {σ : L2.St} {H : Hp} {Q : VK} (k : td σ H fun x H1 => rIsDk x H1 fun a => ty σ H1 fun y H2 => tx σ H2 fun z H3 => rDGet2 a y z H3 Q) : tDGet2 td ty tx σ H Q := k
instance iu_dget2 {td ty tx : TE} {σ : L2.St} {H : Hp} {Q : VK} : US (tDGet2 td ty tx σ H Q) (td σ H fun x H1 => rIsDk x H1 fun a => ty σ H1 fun y H2 => tx σ H2 fun z H3 => rDGet2 a y z H3 Q) := ⟨u_dget2⟩
section
variable {L F M' : List Res} {H : Hp} {Q : VK} {σ : L2.St} {D : Ends} {a b z : Addr} {M : PM} {N : Nat} {R : Res} {s1 s2 : Str} {m : Int × Int} {c e : Int} {v : V}
theorem key_raw (g : PD H (.ref b) (.tuple [.str s1, .str s2])) : H b = some (.tup ((kP (s1, s2)).map kV)) := by
  obtain ⟨t, zs, e, h1, h2⟩ := g.ofTup
  cases e
  obtain ⟨x, y, rfl, hx, hy⟩ := h2.two
  rw [hx.ofStr, hy.ofStr] at h1
  exact h1
theorem mark_raw (g : PD H (.ref b) (.tuple [.int c, .int e])) : H b = some (.tup [.int c, .int e]) := by
  obtain ⟨t, zs, e, h1, h2⟩ := g.ofTup
  cases e
  obtain ⟨x, y, rfl, hx, hy⟩ := h2.two
  rw [hx.ofInt, hy.ofInt] at h1
  exact h1
theorem key_pd (g : H b = some (.tup [.str s1, .str s2])) : PD H (.ref b) (.tuple [.str s1, .str s2]) := .tup g (.cons (.str _) (.cons (.str _) .nil))
theorem mark_pd (g : H b = some (.tup [.int c, .int e])) : PD H (.ref b) (.tuple [.int c, .int e]) := .tup g (.cons (.int _) (.cons (.int _) .nil))
theorem n_isd (hR : IsDct R a M) (h : Sep L H) (k : Pick R L F) {R' : Addr → Prop} (q : R' a) : rIsDk (.ref a) H R' := by
  obtain ⟨kvs, ks, e, p⟩ := hR L F H h k
  exact ⟨a, rfl, .inr ⟨kvs, e⟩, q⟩
theorem dct_get (hR : IsDct R a M) (h : Sep L H) (k : Pick R L F) (g : PD H (.ref b) (.tuple [.str s1, .str s2])) : ∃ o, DGet H a (.ref b) o ∧ (M (s1, s2) = none → o = none) ∧ ∀ m, M (s1, s2) = some m → ∃ t, o = some (.ref t) ∧ H t = some (.tup [.int m.1, .int m.2]) := by
  obtain ⟨kvs, ks, e, p⟩ := hR L F H h k
  refine ⟨valV kvs (kP (s1, s2)), .inr ⟨kvs, _, b, e, rfl, key_raw g, rfl⟩, fun z => p.no _ z, fun m z => ?_⟩
  obtain ⟨t, h1, h2⟩ := p.yes _ m z
  exact ⟨t, h1, h2⟩
theorem dct_some (hR : IsDct R a M) (h : Sep L H) (k : Pick R L F) (g : PD H (.ref b) (.tuple [.str s1, .str s2])) : ∃ o, DGet H a (.ref b) o ∧ o.isSome = (M (s1, s2)).isSome := by
  obtain ⟨o, d, h1, h2⟩ := dct_get hR h k g
  refine ⟨o, d, ?_⟩
  cases e : M (s1, s2) with
  | none => rw [h1 e]; rfl
  | some m =>
    obtain ⟨t, e2, _⟩ := h2 m e
    rw [e2]; rfl
theorem n_tin (hR : IsDct R a M) (h : Sep L H) (k : Pick R L F) (g : PD H (.ref b) (.tuple [.str s1, .str s2])) (q : Q (.bl (M (s1, s2)).isSome) H) : rDIn (.ref b) (.ref a) H Q := by
  obtain ⟨o, d, e⟩ := dct_some hR h k g
  exact ⟨a, o, rfl, d, by rw [e]; exact q⟩
theorem n_tnotin (hR : IsDct R a M) (h : Sep L H) (k : Pick R L F) (g : PD H (.ref b) (.tuple [.str s1, .str s2])) (q : Q (.bl (!(M (s1, s2)).isSome)) H) : rDNotIn (.ref b) (.ref a) H Q := by
  obtain ⟨o, d, e⟩ := dct_some hR h k g
  exact ⟨a, o, rfl, d, by rw [e]; exact q⟩
theorem n_tget (hR : IsDct R a M) (h : Sep L H) (k : Pick R L F) (g : PD H (.ref b) (.tuple [.str s1, .str s2])) (e : M (s1, s2) = some m) (q : ∀ t, Sep (tpl t [.int m.1, .int m.2] :: L) H → Q (.ref t) H) : rDGet (.ref a) (.ref b) H Q := by
  obtain ⟨o, d, _, h2⟩ := dct_get hR h k g
  obtain ⟨t, e1, e2⟩ := h2 m e
  subst e1
  exact ⟨a, _, rfl, d, q t (h.pers ⟨fun _ z => z, e2⟩)⟩
/-- what stands there, or another mark -/
theorem n_tget2 (hR : IsDct R a M) (h : Sep L H) (k : Pick R L F) (g : PD H (.ref b) (.tuple [.str s1, .str s2])) (g2 : PD H (.ref z) (.tuple [.int c, .int e]))
    (q : ∀ t, Sep (tpl t [.int ((M (s1, s2)).getD (c, e)).1, .int ((M (s1, s2)).getD (c, e)).2] :: L) H → Q (.ref t) H) : rDGet2 a (.ref b) (.ref z) H Q := by
  obtain ⟨o, d, h1, h2⟩ := dct_get hR h k g
  refine ⟨o, d, ?_⟩
  cases eM : M (s1, s2) with
  | none =>
    rw [h1 eM]
    rw [eM] at q
    exact q z (h.pers ⟨fun _ z => z, mark_raw g2⟩)
  | some m =>
    obtain ⟨t, e1, e2⟩ := h2 m eM
    rw [e1]
    rw [eM] at q
    exact q t (h.pers ⟨fun _ z => z, e2⟩)
theorem n_tput (h : Sep L H) (g : PD H (.ref b) (.tuple [.str s1, .str s2])) (g2 : PD H v (.tuple [.int c, .int e])) (k : Chg (dct a M N) (dct a (setP M (s1, s2) (c, e)) (N + 1)) L M') (hN : N < 10000000) (q : ∀ H', Sep M' H' → D.nx σ H') : rDPut v D σ (.ref a) (.ref b) H := by
  obtain ⟨F, k1, k2⟩ := k.picks
  obtain ⟨u, eu, kvs, ks, rfl, l, p⟩ := h.oneAt k1
  obtain ⟨t, zs, e1, h1, h2⟩ := g2.ofTup
  subst e1
  have raw := mark_raw g2
  obtain ⟨ks', l2, p2⟩ := p.set (k := (s1, s2)) (m := (c, e)) raw
  have pl := p.len
  refine ⟨a, _, rfl, DPut.t eu (key_raw g) (by rw [sizeLine_eq]; omega), q _ ?_⟩
  have up : TupM H (upd H a (.dT (putK kvs (kP (s1, s2)) (.ref t)))) := tupM_upd eu (by intro zs z; cases z)
  exact h.oneSet k ⟨_, ks', rfl, by omega, p2.keys, p2.nd, p2.no, fun k m hm => by
    obtain ⟨t', q1, q2⟩ := p2.yes k m hm
    exact ⟨t', q1, up _ _ q2⟩⟩
/-- a text in a pair of texts -/
theorem n_in2s {K : PySem.W.Frag} {x : Str} (h : Sep L H) (k : Pick (tpl b [.str s1, .str s2]) L F) (q : Q (.bl (decide (s1 = x ∨ s2 = x))) H) : rIn K false (.str x) (.ref b) H Q := by
  refine ⟨b, _, rfl, .inr (SqT.of (h.tpl k)), rfl, rfl, ?_⟩
  have e : inV (.str x) [.str s1, .str s2] = decide (s1 = x ∨ s2 = x) := by
    rw [Bool.eq_iff_iff]; simp [inV, eqV]
  rw [e]; exact q
theorem n_nin2s {K : PySem.W.Frag} {x : Str} (h : Sep L H) (k : Pick (tpl b [.str s1, .str s2]) L F) (q : Q (.bl (!decide (s1 = x ∨ s2 = x))) H) : rIn K true (.str x) (.ref b) H Q := by
  refine ⟨b, _, rfl, .inr (SqT.of (h.tpl k)), rfl, rfl, ?_⟩
  have e : inV (.str x) [.str s1, .str s2] = decide (s1 = x ∨ s2 = x) := by
    rw [Bool.eq_iff_iff]; simp [inV, eqV]
  rw [e]; exact q
end
/-! ### loops over such a dict -/
section
variable {H : Hp} {σ : L2.St} {D : Ends} {a : Addr} {L F : List Res} {M : PM} {N : Nat} {g : TG} {td : TE} {tb : TS}
theorem valV_at {κ : Type} [DecidableEq κ] : ∀ {kvs : List (κ × V)} {i : Nat} {k : κ} {v : V}, (kvs.map (·.1)).Nodup → kvs[i]? = some (k, v) → valV kvs k = some v
  | [], _, _, _, _, e => nomatch e
  | p :: r, 0, k, v, _, e => by
    cases e
    exact valV_pos rfl
  | p :: r, i + 1, k, v, nd, e => by
    rw [List.map_cons, List.nodup_cons] at nd
    have e2 : r[i]? = some (k, v) := e
    rw [valV_neg (fun z => nd.1 (List.mem_map.mpr ⟨_, List.mem_of_getElem? e2, z.symm⟩))]
    exact valV_at nd.2 e2
theorem row_at {G : Hp} {kvs : List (List Key × V)} {ks : List PK} (p : PDT G kvs M ks) {i : Nat} {key : List Key} {v : V} (e : kvs[i]? = some (key, v)) :
    ∃ k m t, ks[i]? = some k ∧ key = kP k ∧ M k = some m ∧ v = .ref t ∧ G t = some (.tup [.int m.1, .int m.2]) := by
  have h7 := congrArg (fun l => l[i]?) p.keys
  rw [List.getElem?_map, List.getElem?_map, e] at h7
  cases ek : ks[i]? with
  | none => rw [ek] at h7; cases h7
  | some k =>
    rw [ek] at h7
    have e2 : key = kP k := Option.some.inj h7
    have hm := p.mem.mp (List.mem_of_getElem? ek)
    cases eM : M k with
    | none => rw [eM] at hm; cases hm
    | some m =>
      obtain ⟨t, e3, e4⟩ := p.yes k m eM
      refine ⟨k, m, t, rfl, e2, eM, ?_, e4⟩
      have nd : (kvs.map (·.1)).Nodup := by
        rw [p.keys]
        exact List.pairwise_map.mpr (p.nd.imp fun h e => h (kP_inj e))
      have e5 : valV kvs key = some v := valV_at nd e
      rw [e2, e3] at e5
      exact (Option.some.inj e5).symm
theorem n_forI (h : Sep L H) (k : Pick (dct a M N) L F) (htd : ∀ (od : Obj) (kvs : List (List Key × V)) (ks : List PK) (G : Hp) (R : VK), Sep (dctL a od kvs ks M :: F) G → R (.ref a) G → td σ G R) (I : List PK → Nat → L2.St → List Res → Prop)
    (i0 : ∀ ks, ks.Nodup → (∀ w, w ∈ ks ↔ (M w).isSome = true) → ks.length ≤ N → I ks 0 σ F)
    (hs : ∀ (ks : List PK) (kvs : List (List Key × V)) (od : Obj), ks.Nodup → (∀ w, w ∈ ks ↔ (M w).isSome = true) → ks.length ≤ N → ∀ i w m σ M' H T b t, ks[i]? = some w → M w = some m → I ks i σ M' →
      Sep (tpl T [.ref b, .ref t] :: tpl b [.str w.1, .str w.2] :: tpl t [.int m.1, .int m.2] :: dctL a od kvs ks M :: M') H →
      g (.ref T) σ H fun σ2 H2 => tb { D with nx := LI (dctL a od kvs ks M) (I ks) (i + 1), ct := LI (dctL a od kvs ks M) (I ks) (i + 1), rt := fun v H' => H' a = some (.frz od (.dT kvs)) ∧ D.rt v (upd H' a (.dT kvs)), bk := fun σ' H' => H' a = some (.frz od (.dT kvs)) ∧ D.nx σ' (upd H' a (.dT kvs)) } σ2 H2)
    (hd : ∀ (ks : List PK) σ M' H, ks.Nodup → (∀ w, w ∈ ks ↔ (M w).isSome = true) → ks.length ≤ N → I ks ks.length σ M' → Sep (dct a M N :: M') H → D.nx σ H) : tLock (tFor (iItemsT td) g tb) D σ H := by
  have h1 := h.pick k
  obtain ⟨u, e1, kvs, ks, rfl, hl, p⟩ := h1.oneAt .here
  have hm := fun w => (p.mem (k := w))
  have up : ∀ o, TupM H (upd H a o) := fun o => tupM_upd e1 (by intro zs z; cases z)
  refine ⟨a, .dT kvs, e1, trivial, fun od => ?_⟩
  have pm : ∀ G, TupM H G → PDT G kvs M ks := fun G t => ⟨p.keys, p.nd, p.no, fun k m e => by
    obtain ⟨t', q1, q2⟩ := p.yes k m e
    exact ⟨t', q1, t _ _ q2⟩⟩
  have h2 : Sep (dctL a od kvs ks M :: F) (upd H a (.frz od (.dT kvs))) := h1.oneSet .here ⟨rfl, pm _ (up _)⟩
  refine htd od kvs ks _ _ h2 ⟨a, od, kvs, rfl, upd_same, ?_⟩
  refine for_it walk_itemsT (LI (dctL a od kvs ks M) (I ks)) ⟨F, i0 ks p.nd hm hl, h2⟩ (fun i σ H _ ⟨M', _, z⟩ => by
    obtain ⟨u, e, rfl, _⟩ := z.oneAt .here
    exact e) (fun i x σ H H' hi ⟨M', q, z⟩ y => ?_) fun σ H' ⟨M', q, z⟩ => ?_
  · obtain ⟨T, b, key, val, r1, r2, rfl, r4, rfl⟩ := y
    obtain ⟨u, e, rfl, pz⟩ := z.oneAt .here
    obtain ⟨k, m, t, s1, rfl, s3, rfl, s5⟩ := row_at pz r1
    have z2 : Sep (tpl b [.str k.1, .str k.2] :: tpl t [.int m.1, .int m.2] :: dctL a od kvs ks M :: M') H := (z.pers (A := tpl t [.int m.1, .int m.2]) ⟨fun _ z => z, s5⟩).pers ⟨fun _ z => z, r2⟩
    exact hs ks kvs od p.nd hm hl i k m σ M' _ T b t s1 s3 q (z2.newTp r4)
  · obtain ⟨u, e, rfl, pz⟩ := z.oneAt .here
    rw [p.len] at q
    refine ⟨e, hd ks σ M' _ p.nd hm hl q (z.oneSet .here ⟨kvs, ks, rfl, hl, ?_⟩)⟩
    have up2 : TupM H' (upd H' a (.dT kvs)) := tupM_upd e (by intro zs z; cases z)
    exact ⟨pz.keys, pz.nd, pz.no, fun k m e => by
      obtain ⟨t', q1, q2⟩ := pz.yes k m e
      exact ⟨t', q1, up2 _ _ q2⟩⟩
theorem n_forT (h : Sep L H) (k : Pick (dct a M N) L F) (htd : ∀ (od : Obj) (kvs : List (List Key × V)) (ks : List PK) (G : Hp) (R : VK), Sep (dctL a od kvs ks M :: F) G → R (.ref a) G → td σ G R) (I : List PK → Nat → L2.St → List Res → Prop)
    (i0 : ∀ ks, ks.Nodup → (∀ w, w ∈ ks ↔ (M w).isSome = true) → ks.length ≤ N → I ks 0 σ F)
    (hs : ∀ (ks : List PK) (kvs : List (List Key × V)) (od : Obj), ks.Nodup → (∀ w, w ∈ ks ↔ (M w).isSome = true) → ks.length ≤ N → ∀ i w m σ M' H b, ks[i]? = some w → M w = some m → I ks i σ M' →
      Sep (tpl b [.str w.1, .str w.2] :: dctL a od kvs ks M :: M') H →
      g (.ref b) σ H fun σ2 H2 => tb { D with nx := LI (dctL a od kvs ks M) (I ks) (i + 1), ct := LI (dctL a od kvs ks M) (I ks) (i + 1), rt := fun v H' => H' a = some (.frz od (.dT kvs)) ∧ D.rt v (upd H' a (.dT kvs)), bk := fun σ' H' => H' a = some (.frz od (.dT kvs)) ∧ D.nx σ' (upd H' a (.dT kvs)) } σ2 H2)
    (hd : ∀ (ks : List PK) σ M' H, ks.Nodup → (∀ w, w ∈ ks ↔ (M w).isSome = true) → ks.length ≤ N → I ks ks.length σ M' → Sep (dct a M N :: M') H → D.nx σ H) : tLock (tFor (iKeys td) g tb) D σ H := by
  have h1 := h.pick k
  obtain ⟨u, e1, kvs, ks, rfl, hl, p⟩ := h1.oneAt .here
  have hm := fun w => (p.mem (k := w))
  have up : ∀ o, TupM H (upd H a o) := fun o => tupM_upd e1 (by intro zs z; cases z)
  refine ⟨a, .dT kvs, e1, trivial, fun od => ?_⟩
  have pm : ∀ G, TupM H G → PDT G kvs M ks := fun G t => ⟨p.keys, p.nd, p.no, fun k m e => by
    obtain ⟨t', q1, q2⟩ := p.yes k m e
    exact ⟨t', q1, t _ _ q2⟩⟩
  have h2 : Sep (dctL a od kvs ks M :: F) (upd H a (.frz od (.dT kvs))) := h1.oneSet .here ⟨rfl, pm _ (up _)⟩
  refine htd od kvs ks _ _ h2 ⟨a, od, rfl, .inr ⟨kvs, upd_same, ?_⟩⟩
  refine for_it walk_keysT (LI (dctL a od kvs ks M) (I ks)) ⟨F, i0 ks p.nd hm hl, h2⟩ (fun i σ H _ ⟨M', _, z⟩ => by
    obtain ⟨u, e, rfl, _⟩ := z.oneAt .here
    exact e) (fun i x σ H H' hi ⟨M', q, z⟩ y => ?_) fun σ H' ⟨M', q, z⟩ => ?_
  · obtain ⟨rfl, key, val, b, r1, rfl, r2⟩ := y
    obtain ⟨u, e, rfl, pz⟩ := z.oneAt .here
    obtain ⟨k, m, t, s1, rfl, s3, rfl, s5⟩ := row_at pz r1
    exact hs ks kvs od p.nd hm hl i k m σ M' _ b s1 s3 q (z.pers ⟨fun _ z => z, r2⟩)
  · obtain ⟨u, e, rfl, pz⟩ := z.oneAt .here
    rw [p.len] at q
    refine ⟨e, hd ks σ M' _ p.nd hm hl q (z.oneSet .here ⟨kvs, ks, rfl, hl, ?_⟩)⟩
    have up2 : TupM H' (upd H' a (.dT kvs)) := tupM_upd e (by intro zs z; cases z)
    exact ⟨pz.keys, pz.nd, pz.no, fun k m e => by
      obtain ⟨t', q1, q2⟩ := pz.yes k m e
      exact ⟨t', q1, up2 _ _ q2⟩⟩
end
/-! ### what stays when a word is let go -/
section
variable {M : PM} {k : PK} {m : Int × Int} {w : Str} {l ks : List PK}
/-- the marks of some pairs without a word -/
def restP (M : PM) (w : Str) (l : List PK) : PM := fun k => if k ∈ l ∧ ¬(k.1 = w ∨ k.2 = w) then M k else none
theorem restP_nil : restP M w [] = fun _ => none := by
  funext k
  unfold restP
  rw [if_neg (by simp)]
theorem restP_yes {i : Nat} (e : ks[i]? = some k) (eM : M k = some m) (h : ¬(k.1 = w ∨ k.2 = w)) : restP M w (ks.take (i + 1)) = setP (restP M w (ks.take i)) k m := by
  funext j
  unfold restP setP
  rw [List.take_add_one, e]
  by_cases z : j = k
  · subst z
    rw [if_pos ⟨by simp, h⟩, if_pos rfl, eM]
  · rw [if_neg z]
    show _ = (if j ∈ ks.take i ∧ ¬(j.1 = w ∨ j.2 = w) then M j else none)
    have : j ∈ ks.take i ++ (some k).toList ↔ j ∈ ks.take i := by simp [z]
    by_cases y : j ∈ ks.take i ∧ ¬(j.1 = w ∨ j.2 = w)
    · rw [if_pos y, if_pos ⟨this.mpr y.1, y.2⟩]
    · rw [if_neg y, if_neg (fun x => y ⟨this.mp x.1, x.2⟩)]
theorem restP_no {i : Nat} (e : ks[i]? = some k) (h : k.1 = w ∨ k.2 = w) : restP M w (ks.take (i + 1)) = restP M w (ks.take i) := by
  funext j
  unfold restP
  rw [List.take_add_one, e]
  by_cases z : j = k
  · subst z
    rw [if_neg (fun x => x.2 h), if_neg (fun x => x.2 h)]
  · show _ = (if j ∈ ks.take i ∧ ¬(j.1 = w ∨ j.2 = w) then M j else none)
    have : j ∈ ks.take i ++ (some k).toList ↔ j ∈ ks.take i := by simp [z]
    by_cases y : j ∈ ks.take i ∧ ¬(j.1 = w ∨ j.2 = w)
    · rw [if_pos y, if_pos ⟨this.mpr y.1, y.2⟩]
    · rw [if_neg y, if_neg (fun x => y ⟨this.mp x.1, x.2⟩)]
theorem restP_all (hm : ∀ k, k ∈ ks ↔ (M k).isSome = true) : restP M w (ks.take ks.length) = delP M w := by
  funext j
  unfold restP delP
  rw [List.take_length]
  by_cases z : j.1 = w ∨ j.2 = w
  · rw [if_pos z, if_neg (fun x => x.2 z)]
  · rw [if_neg z]
    by_cases y : j ∈ ks
    · rw [if_pos ⟨y, z⟩]
    · rw [if_neg (fun x => y x.1)]
      cases e : M j with
      | none => rfl
      | some m => exact absurd ((hm j).mpr (by rw [e]; rfl)) y
end
section
variable {K : PySem.W.Frag} {H : Hp} {Q : VK} {L F : List Res} {M : PM} {n B c e : Int} {k : PK} {t l : Addr} {xs : List V} {E : XK} {j m : Int}
theorem PmOk.getD (ok : PmOk M n B) (hB : 0 ≤ B) (k : PK) : 0 ≤ ((M k).getD (0, n)).1 ∧ ((M k).getD (0, n)).1 ≤ B ∧ ((M k).getD (0, n)).2 ≤ n := by
  cases h : M k with
  | none => exact ⟨Int.le_refl _, hB, Int.le_refl _⟩
  | some m => exact ok k m h
theorem pwOf_getD : worth ((M k).getD (0, n)).1 ((M k).getD (0, n)).2 n = pwOf M n k := by
  unfold pwOf
  cases h : M k with
  | none => exact worth_zero n n
  | some m => rfl
/-- a mark used, by things -/
theorem c_usedT (h : Sep L H) (k : Pick (tpl t [.int c, .int e]) L F) (hc : 0 ≤ c) (q : ∀ p H', Sep (dat (.ref p) (.tuple [.int (worth c e n + m), .int n]) :: L) H' → Q (.ref p) H') : spUsed K [.ref t, .int n, .int m] H Q E :=
  ⟨t, c, e, n, m, rfl, SqT.of (h.tpl k), hc, fun p hp => q p _ (h.newT hp (.cons (.int _) (.cons (.int _) .nil)))⟩
theorem c_worthT (h : Sep L H) (k : Pick (tpl t [.int c, .int e]) L F) (hc : 0 ≤ c) (q : Q (.int (worth c e n)) H) : spWorth K [.ref t, .int n] H Q E := ⟨t, c, e, n, rfl, SqT.of (h.tpl k), hc, q⟩
/-- a list so often -/
theorem n_rep1 {v : V} (h : Sep L H) (k : Pick (lis l [v]) L F) (h0 : 0 ≤ j ∧ j ≤ 100000) (q : ∀ p H', Sep (lis p (List.replicate j.toNat v) :: L) H' → Q (.ref p) H') : rRep (.ref l) (.int j) H Q := by
  refine ⟨l, j, [v], rfl, rfl, h.lis k, by omega, by omega, (by rw [sizeLine_eq]; simp only [List.length_singleton]; omega), fun p hp => ?_⟩
  have e : (List.replicate j.toNat [v]).flatten = List.replicate j.toNat v := by
    generalize j.toNat = i
    induction i with
    | zero => rfl
    | succ i ih => rw [List.replicate_succ, List.flatten_cons, ih, List.replicate_succ]; rfl
  rw [e]
  exact q p _ (h.newL hp)
theorem PDs.nons {G : Hp} : ∀ i : Nat, PDs G (List.replicate i V.non) (List.replicate i PyData.none)
  | 0 => .nil
  | i + 1 => by rw [List.replicate_succ, List.replicate_succ]; exact .cons .non (PDs.nons i)
theorem okD_nons : ∀ i : Nat, okDs 0 (List.replicate i PyData.none) = true
  | 0 => rfl
  | i + 1 => by
    rw [List.replicate_succ]
    simp only [okDs, okD, Bool.true_and]
    exact okD_nons i
theorem n_eqNons {a b : Addr} {i : Nat} (h : Sep L H) (k : Pick (lis a (List.replicate i V.non)) L F) {F2 : List Res} (k2 : Pick (lis b (List.replicate i V.non)) L F2) (q : Q (.bl true) H) : rEqD K (.ref a) (.ref b) H Q := by
  have ok : okD 1 (.list (List.replicate i PyData.none)) = true := okD_nons i
  refine n_eqD (d := .list (List.replicate i .none)) (e := .list (List.replicate i .none)) (.lst (SqL.of (h.lis k)) (PDs.nons (G := H) i).dp) (.lst (SqL.of (h.lis k2)) (PDs.nons (G := H) i).dp) (shaped_of ok) (shaped_of ok) ?_
  rw [eqv_same ok]
  exact q
end
/-! ### what was chosen behind a word -/
section
variable {M M' : PM} {n B : Int} {b : Str} {ks ks2 : List PK} {l l2 : List RW} {ss : List Str}
def pbK (M : PM) (n : Int) (b : Str) (k : PK) : Bool := decide (k.1 = b) && decide (0 < pwOf M n k)
def pB (M : PM) (n : Int) (b : Str) (ks : List PK) : List RW := (ks.filter (pbK M n b)).map fun k => (k.2, pwOf M n k)
/-- the words chosen behind one, best first -/
def BehP (M : PM) (n : Int) (b : Str) (l : List RW) : Prop := ∃ ks : List PK, ks.Nodup ∧ (∀ k, k ∈ ks ↔ (M k).isSome = true) ∧ l = (pB M n b ks).mergeSort leR
theorem pB_nil : pB M n b [] = [] := rfl
theorem pB_s {i : Nat} {k : PK} (e : ks[i]? = some k) : pB M n b (ks.take (i + 1)) = pB M n b (ks.take i) ++ if pbK M n b k = true then [(k.2, pwOf M n k)] else [] := by
  unfold pB
  rw [List.take_add_one, e, List.filter_append, List.map_append]
  by_cases c : pbK M n b k = true
  · rw [if_pos c]
    show _ ++ List.map _ (List.filter _ [k]) = _
    rw [List.filter_cons_of_pos c]; rfl
  · rw [if_neg c]
    show _ ++ List.map _ (List.filter _ [k]) = _
    rw [List.filter_cons_of_neg c]; rfl
theorem pB_y {i : Nat} {k : PK} (e : ks[i]? = some k) (c : pbK M n b k = true) : pB M n b (ks.take (i + 1)) = pB M n b (ks.take i) ++ [(k.2, pwOf M n k)] := by rw [pB_s e, if_pos c]
theorem pB_n {i : Nat} {k : PK} (e : ks[i]? = some k) (c : ¬ pbK M n b k = true) : pB M n b (ks.take (i + 1)) = pB M n b (ks.take i) := by rw [pB_s e, if_neg c, List.append_nil]
theorem pB_len : (pB M n b ks).length ≤ ks.length := by
  unfold pB
  rw [List.length_map]
  exact List.length_filter_le _ _
theorem BehP.uni (h : BehP M n b l) (g : BehP M n b l2) : l = l2 := by
  obtain ⟨k1, nd1, m1, rfl⟩ := h
  obtain ⟨k2, nd2, m2, rfl⟩ := g
  have p : k1.Perm k2 := (List.perm_ext_iff_of_nodup nd1 nd2).mpr fun a => (m1 a).trans (m2 a).symm
  exact sort_perm ((p.filter _).map _)
theorem BehP.mem (h : BehP M n b l) {e : RW} : e ∈ l ↔ 0 < e.2 ∧ e.2 = pwOf M n (b, e.1) := by
  obtain ⟨ks, nd, m, rfl⟩ := h
  rw [List.mem_mergeSort]
  unfold pB
  rw [List.mem_map]
  constructor
  · rintro ⟨k, hk, rfl⟩
    obtain ⟨h1, h2⟩ := List.mem_filter.mp hk
    unfold pbK at h2
    rw [Bool.and_eq_true, decide_eq_true_iff, decide_eq_true_iff] at h2
    obtain ⟨rfl, h3⟩ := h2
    exact ⟨h3, rfl⟩
  · rintro ⟨h1, h2⟩
    refine ⟨(b, e.1), List.mem_filter.mpr ⟨(m _).mpr ?_, ?_⟩, ?_⟩
    · cases eM : M (b, e.1) with
      | some x => rfl
      | none =>
        have : pwOf M n (b, e.1) = 0 := by unfold pwOf; rw [eM]
        omega
    · unfold pbK
      rw [Bool.and_eq_true, decide_eq_true_iff, decide_eq_true_iff]
      exact ⟨rfl, by omega⟩
    · show (e.1, pwOf M n (b, e.1)) = e
      rw [← h2]
theorem BehP.nd (h : BehP M n b l) : (l.map Prod.fst).Nodup := by
  obtain ⟨ks, nd, m, rfl⟩ := h
  have hp : ((pB M n b ks).mergeSort leR).Perm (pB M n b ks) := List.mergeSort_perm _ _
  refine (hp.map Prod.fst).nodup_iff.mpr ?_
  unfold pB
  rw [List.map_map]
  refine List.pairwise_map.mpr (List.Pairwise.imp_of_mem (R := fun x y => x ≠ y) (fun {x y} hx hy hne => ?_) (nd.filter _))
  have hx2 := (List.mem_filter.mp hx).2
  have hy2 := (List.mem_filter.mp hy).2
  unfold pbK at hx2 hy2
  rw [Bool.and_eq_true, decide_eq_true_iff] at hx2 hy2
  exact fun z => hne (Prod.ext (hx2.1.trans hy2.1.symm) z)
theorem BehP.sorted (h : BehP M n b l) : l.Pairwise fun x y => leR x y = true := by
  obtain ⟨ks, nd, m, rfl⟩ := h
  exact List.pairwise_mergeSort leR_trans leR_total _
/-- each word chosen is one of some -/
def PmIn (M : PM) (ss : List Str) : Prop := ∀ k, (M k).isSome = true → k.2 ∈ ss
theorem pmIn_new : PmIn (fun _ => none) ss := fun _ e => nomatch e
theorem PmIn.set {k : PK} {m : Int × Int} (h : PmIn M ss) (g : k.2 ∈ ss) : PmIn (setP M k m) ss := fun j e => by
  unfold setP at e
  by_cases z : j = k
  · rw [z]; exact g
  · rw [if_neg z] at e; exact h j e
theorem PmIn.del {w : Str} (h : PmIn M ss) : PmIn (delP M w) ss := fun j e => by
  unfold delP at e
  by_cases z : j.1 = w ∨ j.2 = w
  · rw [if_pos z] at e; cases e
  · rw [if_neg z] at e; exact h j e
theorem BehP.rw (h : BehP M n b l) (ok : PmOk M n B) (hB : 0 ≤ B ∧ B < 2 ^ 62) (hi : PmIn M ss) (hw : ∀ w ∈ ss, isW w = true) : RwOk l := fun e he => by
  obtain ⟨h1, h2⟩ := h.mem.mp he
  have p := ok.pw (k := (b, e.1)) hB.1
  refine ⟨hw _ (hi (b, e.1) ?_), by omega, by omega⟩
  cases eM : M (b, e.1) with
  | some x => rfl
  | none =>
    have : pwOf M n (b, e.1) = 0 := by unfold pwOf; rw [eM]
    omega
theorem behP_new : BehP (fun _ => none) n b [] := ⟨[], List.nodup_nil, fun k => by simp, by rw [pB_nil, List.mergeSort_nil]⟩
end
/-- a model: its marks and its era -/
theorem n_dsp2 {p dm : Addr} {e : Int} {H : Hp} {L M : List Res} {Q : VK} (h : Sep L H) (k : Chg (dic p (fun _ => none) 0) (dic p (mV dm e none) 3) L M) (q : ∀ H', Sep M H' → Q (.ref p) H') :
    DispEnd p Q [(V.str "marks", V.ref dm), (V.str "era", V.int e)] H := by
  refine n_disp [("marks", .ref dm), ("era", .int e)] (M := dic p (mV dm e none) 2 :: (k.picks).choose) (h.pick (k.picks).choose_spec.1) .here rfl (by simp) mV_new2 fun H' h' => q H' ?_
  exact (h'.weaken .here (ent_dic (by decide))).put (k.picks).choose_spec.2
theorem mV_setM {dm d : Addr} {e : Int} {dh : Option Addr} : setv (mV dm e dh) "marks" (.ref d) = mV d e dh := by
  funext w
  unfold setv mV
  by_cases c : w = "marks"
  · rw [if_pos c, if_pos c]
  · rw [if_neg c, if_neg c, if_neg c]
theorem n_setMarks {dm d a : Addr} {e : Int} {dh : Option Addr} {L M : List Res} {H : Hp} {D : Ends} {σ : L2.St} (h : Sep L H) (k : Chg (dic a (mV dm e dh) 3) (dic a (mV d e dh) 3) L M) (q : ∀ H', Sep M H' → D.nx σ H') : rDPut (.ref d) D σ (.ref a) (.str "marks") H := by
  have e1 : mV d e dh = setv (mV dm e dh) "marks" (.ref d) := mV_setM.symm
  rw [e1] at k
  exact n_dputO (val := mV dm e dh) (N := 3) h k (by decide) (by rw [mV_m]; rfl) q
end Ah
set_option Elab.async false
set_option linter.all false
set_option maxRecDepth 100000
set_option maxHeartbeats 4000000
/-! sorted by a lambda: rows of a text and two numbers, by the greater first number, the greater second, the lesser text -/
namespace Ah
open PySem PySem.Spec PyProof.Rows L2 TL
/-- a row: a text, two numbers -/
abbrev RW3 := Str × Int × Int
def dW (r : RW3) : PyData := .tuple [.str r.1, .int r.2.1, .int r.2.2]
def kW (r : RW3) : PyData := .tuple [.int (0 - r.2.1), .int (0 - r.2.2), .str r.1]
def leW (a b : RW3) : Bool := PySem.W.dataLe false kW a b
section
variable {prog : Program} {w : World} {A : Around}
/-- row[n] -/
theorem raw_ix {env : Env} {s : Shared} {m : Str → Option Value} {E : Value → Shared → Prop} {Q : Value → Shared → Prop} {t : Addr} {its : Array Value} {n : Int} {j : Nat} {x : Value} {k : Nat} {p1 p2 p3 : Pos}
    (hk : env.scope.kind = .function) (hl : env.kindOf "row" = some .local) (hn : s.heap.Ns env.locals m) (hm : m "row" = some (.ref t)) (ht : IsTup s.heap t its) (hlo : -(2 ^ 63) ≤ n) (hhi : n < 2 ^ 63) (hj : seqIndex? n its.size = some j) (hx : its[j]? = some x)
    (q : ∀ tk, Q x { s with toks := tk }) : wpAny (model prog w) A (eval (.Subscript (.Name "row" p1) (.Constant (.int n) k p2) p3) env) Q E s := by
  refine Subscript_ (wpAny_Name (wpAny_loadName_local hk hl hn hm (wpAny_Constant_int ?_)))
  exact subscriptTail_builtinR (x := x) ht.typeIs slot_tuple_getitem.lookup (getItem_tuple (j := j) ht hlo hhi hj hx ⟨rfl, q _⟩)
theorem raw_sub {env : Env} {s : Shared} {m : Str → Option Value} {E : Value → Shared → Prop} {Q : Value → Shared → Prop} {t : Addr} {its : Array Value} {n : Int} {j : Nat} {i : Int} {ti : Tok} {k k2 : Nat} {p1 p2 p3 p4 p5 : Pos}
    (hk : env.scope.kind = .function) (hl : env.kindOf "row" = some .local) (hn : s.heap.Ns env.locals m) (hm : m "row" = some (.ref t)) (ht : IsTup s.heap t its) (hlo : -(2 ^ 63) ≤ n) (hhi : n < 2 ^ 63) (hj : seqIndex? n its.size = some j) (hx : its[j]? = some (.int i ti))
    (q : ∀ tk tk', Q (.int (0 - i) tk') { s with toks := tk }) : wpAny (model prog w) A (eval (.BinOp (.Constant (.int 0) k p1) .Sub (.Subscript (.Name "row" p2) (.Constant (.int n) k2 p3) p4) p5) env) Q E s := by
  refine wpAny_BinOp (wpAny_Constant_int ?_)
  exact raw_ix (s := { s with toks := s.toks + 1 }) hk hl hn hm ht hlo hhi hj hx fun tk => sub_int (q _ _)
/-- (0 - row[1], 0 - row[2], row[0]) -/
theorem raw_key {env : Env} {s : Shared} {m : Str → Option Value} {E : Value → Shared → Prop} {Q : Value → Shared → Prop} {t : Addr} {wd : Str} {i j : Int} {t1 t2 t3 : Tok} {j1 j2 j3 j4 j5 k0 : Nat} {p1 p2 p3 p4 p5 p6 p7 p8 p9 p10 p11 p12 p13 p14 : Pos}
    (hk : env.scope.kind = .function) (hl : env.kindOf "row" = some .local) (hn : s.heap.Ns env.locals m) (hm : m "row" = some (.ref t)) (ht : IsTup s.heap t #[.str wd t1, .int i t2, .int j t3])
    (q : ∀ (h' : Heap) (tk : Tok) (v : Value), (∀ b o, s.heap.get? b = some o → h'.get? b = some o) → Reads h' v (kW (wd, i, j)) [] → Q v { s with heap := h', toks := tk }) :
    wpAny (model prog w) A (eval (.Tuple [.BinOp (.Constant (.int 0) j1 p1) .Sub (.Subscript (.Name "row" p2) (.Constant (.int 1) j2 p3) p4) p5, .BinOp (.Constant (.int 0) j3 p6) .Sub (.Subscript (.Name "row" p7) (.Constant (.int 2) j4 p8) p9) p10, .Subscript (.Name "row" p11) (.Constant (.int 0) j5 p12) p13] k0 p14) env) Q E s := by
  refine wpAny_Tuple_spliced ?_
  refine Calls.spliced_cons (raw_sub hk hl hn hm ht (by decide) (by decide) (j := 1) rfl rfl fun tk1 tk1' => ?_)
  refine Calls.spliced_cons (raw_sub (s := { s with toks := tk1 }) hk hl hn hm ht (by decide) (by decide) (j := 2) rfl rfl fun tk2 tk2' => ?_)
  refine Calls.spliced_cons (raw_ix (s := { s with toks := tk2 }) hk hl hn hm ht (by decide) (by decide) (j := 0) (x := .str wd t1) rfl rfl fun tk3 => ?_)
  refine Calls.spliced_nil ⟨(by rw [sizeLine_eq]; show 3 ≤ _; decide : ([.int (0 - i) tk1', .int (0 - j) tk2', .str wd t1] : List Value).length ≤ sizeLine), ?_⟩
  refine q (s.heap.push { cls := .type "tuple", data := .seq ([.int (0 - i) tk1', .int (0 - j) tk2', .str wd t1] : List Value).toArray }) tk3 (.ref s.heap.objs.size) (fun b o e => Heap.get?_push_of_some _ e) ?_
  refine Reads.tuple (Heap.get?_push_size _ rfl) rfl rfl ?_
  exact .cons (.int _ _) (.cons (.int _ _) (.cons (.str _ _) .nil))
/-- the lambda's text: scope and parameters -/
def keyS : Scope := { kind := .function, names := [("row", .local)], isGenerator := false, isCoroutine := false, more := [] }
def keyA (p : Pos) : Arguments := { posonlyargs := [], args := [{ arg := "row", annotation := none, pos := p }], vararg := none, kwonlyargs := [], kw_defaults := [], kwarg := none, defaults := [] }
theorem raw_call {s : Shared} {f t c' : Addr} {q : Str} {pp : Pos} {pm ctv : Value} {wd : Str} {i j : Int} {t1 t2 t3 : Tok} {j1 j2 j3 j4 j5 k0 : Nat} {p1 p2 p3 p4 p5 p6 p7 p8 p9 p10 p11 p12 p13 p14 : Pos}
    (ho : s.heap.get? f = some (PySem.W.kla_obj "<lambda>" q (keyA pp) (.Tuple [.BinOp (.Constant (.int 0) j1 p1) .Sub (.Subscript (.Name "row" p2) (.Constant (.int 1) j2 p3) p4) p5, .BinOp (.Constant (.int 0) j3 p6) .Sub (.Subscript (.Name "row" p7) (.Constant (.int 2) j4 p8) p9) p10, .Subscript (.Name "row" p11) (.Constant (.int 0) j5 p12) p13] k0 p14) keyS [] pm c' ctv))
    (hcd : s.heap.CodeRec (.ref c') q) (hroom : A.depth < recursionLimit) (hlim : s.heap.NoLimit) (ht : IsTup s.heap t #[.str wd t1, .int i t2, .int j t3]) :
    wpAny (model prog w) A (call (.ref f) [.ref t]) (PySem.W.KeyPure (kW (wd, i, j)) s) (fun _ _ => False) s := by
  refine wpAny_call ?_
  refine PySem.W.kla_callFunE hroom ho rfl rfl rfl rfl hcd ?_
  refine wpAny_pure (wpAny_newFunctionEnv (binds := [("row", .ref t)]) (show ∀ x ∈ keyS.names, x.2 ≠ NameKind.cell by decide) (fun y hy => by
    rw [List.mem_singleton.mp hy]; rfl) (fun h₁ hns hsb => ⟨hlim.fresh _ hsb, ?_⟩) rfl)
  have kp : ∀ b o, s.heap.get? b = some o → h₁.get? b = some o := fun b o e => hsb.extBut b o (Nat.ne_of_lt (Heap.lt_size e)) (Heap.get?_push_of_some _ e)
  obtain ⟨o, e1, e2, e3⟩ := ht
  refine PySem.W.kla_codeExpr (raw_key rfl rfl hns rfl ⟨o, kp _ _ e1, e2, e3⟩ fun h' tk v k r => ?_)
  exact ⟨h', tk, rfl, fun b o e => k b o (kp b o e), r⟩
end
/-! ### the table of a def's code -/
/-- the table at P: each code object in it bears the name q -/
def tab (P : Addr) (q : Str) : Res where
  p G S := ∃ ps : Array Value, G P = some (.tbl ps) ∧ TriplesOk ps.toList ∧ (∀ pos cv, codeAmong pos ps.toList = some cv → ∃ c, cv = .ref c ∧ G c = some (LamX.CodeO c q) ∧ S c) ∧ S P ∧ ∀ x, S x → x = P ∨ G x = some (LamX.CodeO x q)
  stay := by
    rintro G G' S ⟨ps, h1, h2, h3, h4, h5⟩ k t
    refine ⟨ps, by rw [k P h4]; exact h1, h2, fun pos cv e => ?_, h4, fun x hx => ?_⟩
    · obtain ⟨c, e1, e2, e3⟩ := h3 pos cv e
      exact ⟨c, e1, by rw [k c e3]; exact e2, e3⟩
    · rw [k x hx]; exact h5 x hx
  here := by
    rintro G S a ⟨ps, h1, h2, h3, h4, h5⟩ ha
    rcases h5 a ha with rfl | e
    · exact ⟨_, h1, by intro zs e; cases e⟩
    · exact ⟨_, e, by intro zs e; unfold LamX.CodeO at e; cases e⟩
/-- an empty table stands -/
theorem tab_new {P : Addr} {q : Str} {H : Hp} (h : H P = some (.tbl #[])) : (tab P q).p H (fun x => x = P) := ⟨#[], h, True.intro, (fun pos cv e => by
  have z : codeAmong pos [] = some cv := e
  simp [codeAmong] at z), rfl, fun x hx => .inl hx⟩
section
variable {X : Cx} {pins : List (Addr × Obj)} {σ : L2.St} {H : Hp} {s : Shared} {L M M2 : List Res}
/-- the lambda is made: its code stands in the table from now on -/
theorem lam_made {c P : Addr} {params : Arguments} {body : Expr} {scope : Scope} {pos : Pos} {E : Value → Shared → Prop} {Q : Value → Shared → Prop} (I : Inv X pins σ H s) (hS : Sep L H) (k : Pick (tab P (X.env.qual ++ "<lambda>")) L M) (TB : LamX.TabB X.base X.mg c P) (hcode : X.env.code = .ref c)
    (hdef : defaultsOf params X.env = ([], [])) (hcl : closureFor scope X.env = pure [])
    (h : ∀ (f c' : Addr) (pm ctv : Value) (H1 : Hp) (s' : Shared), Inv X pins σ H1 s' → Sep L H1 →
      s'.heap.get? f = some (PySem.W.kla_obj "<lambda>" (X.env.qual ++ "<lambda>") params body scope [] pm c' ctv) → s'.heap.CodeRec (.ref c') (X.env.qual ++ "<lambda>") → Q (.ref f) s') :
    wpAny (model X.prog X.w) X.A (eval (.Lambda params body scope pos) X.env) Q E s := by
  obtain ⟨S, ps, hP, ht, ha, hSP, hSx⟩ := hS.of k
  have bP : s.heap.BuiltinsAt X.mg P := TB.bm.keeps I.bk
  have hP' : s.heap.get? P = some { cls := .none, data := .fields ps } := I.hok P _ hP
  have rec_of : ∀ {H2 : Hp} {s2 : Shared} {c' : Addr}, Inv X pins σ H2 s2 → H2 c' = some (LamX.CodeO c' (X.env.qual ++ "<lambda>")) → s2.heap.CodeRec (.ref c') (X.env.qual ++ "<lambda>") := fun {H2 s2 c'} J e => by
    obtain ⟨⟨oc, vs, t, e1, e2, e3⟩, _, _⟩ := J.hok c' _ e
    exact ⟨c', oc, vs, t, rfl, e1, e2, e3⟩
  refine PySem.W.kla_eval hdef ?_
  cases hc : codeAmong pos ps.toList with
  | some cv =>
    obtain ⟨c', rfl, hco, _⟩ := ha pos cv hc
    refine PySem.W.kla_makeFunctionHit (mg := X.mg) hcl I.ok.glob (I.mod.glob.keeps I.bk) hcode (TB.code.keeps I.bk) hP' ht hc bP fun ctv h' tk hx hsz => ?_
    have J := I.kept (t' := tk) (h' := h'.push (PySem.W.kla_obj "<lambda>" (X.env.qual ++ "<lambda>") params body scope [] ((X.mg "__name__").getD .none) c' ctv)) fun b o e => Heap.get?_push_of_some _ (hx b o e)
    exact h _ c' _ ctv H _ J hS (Heap.get?_push_size _ rfl) (rec_of J hco)
  | none =>
    refine PySem.W.kla_makeFunction (mg := X.mg) hcl I.ok.glob (I.mod.glob.keeps I.bk) hcode (TB.code.keeps I.bk) hP' ht hc TB.gP bP fun c' ctv h' tk hx hge hlt hrec htb => ?_
    obtain ⟨c2, oc, vs, t, e2, hoc, hd, hv⟩ := hrec
    cases e2
    have nC : H c' = none := I.hok.fresh hge
    have J := LamX.inv_table (t' := tk) (q := X.env.qual ++ "<lambda>") (more := #[rawInt pos.line, rawInt pos.col, .ref c']) (h' := h'.push (PySem.W.kla_obj "<lambda>" (X.env.qual ++ "<lambda>") params body scope [] ((X.mg "__name__").getD .none) c' ctv)) I hP
      (fun b o hb e => Heap.get?_push_of_some _ (hx b o hb e)) (Heap.get?_push_of_some _ htb) hge ⟨oc, vs, t, Heap.get?_push_of_some _ hoc, hd, hv⟩
    refine h _ c' _ ctv _ _ J ?_ (Heap.get?_push_size _ rfl) (rec_of J upd_same)
    have nP : P ≠ c' := ne_of_none hP nC
    refine ((hS.pick k).step (A' := tab P (X.env.qual ++ "<lambda>")) fun S1 hS1 => ?_).put k
    obtain ⟨ps1, g1, g2, g3, g4, g5⟩ := hS1
    rw [hP] at g1
    cases g1
    have keep : ∀ a o, ¬ S1 a → H a = some o → (upd (upd H P (.tbl (ps ++ #[rawInt pos.line, rawInt pos.col, .ref c']))) c' (LamX.CodeO c' (X.env.qual ++ "<lambda>"))) a = some o := fun a o n e => by
      rw [upd_ne (ne_of_none e nC), upd_ne (fun z => n (by rw [z]; exact g4))]
      exact e
    have keepC : ∀ a, H a = some (LamX.CodeO a (X.env.qual ++ "<lambda>")) → (upd (upd H P (.tbl (ps ++ #[rawInt pos.line, rawInt pos.col, .ref c']))) c' (LamX.CodeO c' (X.env.qual ++ "<lambda>"))) a = some (LamX.CodeO a (X.env.qual ++ "<lambda>")) := fun a e => by
      rw [upd_ne (ne_of_none e nC), upd_ne (fun z => by
        rw [z, hP] at e
        exact LamX.codeO_ne ps (Option.some.inj e).symm)]
      exact e
    refine ⟨⟨fun x => S1 x ∨ x = c', ⟨ps ++ #[rawInt pos.line, rawInt pos.col, .ref c'], by rw [upd_ne nP, upd_same], ?_, fun p' cv hcv => ?_, .inl g4, fun x hx => ?_⟩, fun a z => ?_⟩, keep⟩
    · rw [Array.toList_append]
      exact PySem.TriplesOk_snoc _ _ _ _ g2
    · rw [Array.toList_append] at hcv
      rcases LamX.among_app _ g2 hcv with z | z
      · obtain ⟨c0, e1, e2, e3⟩ := g3 p' cv z
        exact ⟨c0, e1, keepC c0 e2, .inl e3⟩
      · exact ⟨c', z, upd_same, .inr rfl⟩
    · rcases hx with hx | rfl
      · exact (g5 x hx).imp id (keepC x)
      · exact .inr upd_same
    · rcases z with z | rfl
      · exact .inl z
      · exact .inr nC
/-- rows as places and contents -/
theorem rows_of {G : Hp} : ∀ {xs : List V} {rs : List RW3}, PDs G xs (rs.map dW) → ∃ bs : List (Addr × RW3), xs = bs.map (fun b => V.ref b.1) ∧ rs = bs.map Prod.snd ∧ ∀ b ∈ bs, G b.1 = some (.tup [.str b.2.1, .int b.2.2.1, .int b.2.2.2])
  | _, [], .nil => ⟨[], rfl, rfl, fun _ h => nomatch h⟩
  | _, r :: rs, .cons h t => by
    obtain ⟨bs, e1, e2, e3⟩ := rows_of t
    obtain ⟨a, zs, rfl, h1, h2⟩ := h.ofTup
    obtain ⟨x, y, z, rfl, h3, h4, h5⟩ := h2.three
    rw [h3.ofStr, h4.ofInt, h5.ofInt] at h1
    exact ⟨(a, r) :: bs, by rw [e1]; rfl, by rw [e2]; rfl, fun b hb => by
      rcases List.mem_cons.mp hb with rfl | hb
      · exact h1
      · exact e3 b hb⟩
theorem rows_pds {G : Hp} : ∀ {bs : List (Addr × RW3)}, (∀ b ∈ bs, G b.1 = some (.tup [.str b.2.1, .int b.2.2.1, .int b.2.2.2])) → PDs G (bs.map fun b => V.ref b.1) ((bs.map Prod.snd).map dW)
  | [], _ => .nil
  | b :: bs, h => .cons (.tup (h b (by simp)) (.cons (.str _) (.cons (.int _) (.cons (.int _) .nil)))) (rows_pds fun x hx => h x (by simp [hx]))
def tSortKey (P : Addr) (q : Str) (te : TE) : TE := fun σ H Q => te σ H fun x H1 => ∃ (L M M2 : List Res) (a : Addr) (xs : List V) (rs : List RW3), x = .ref a ∧ Sep L H1 ∧ Pick (tab P q) L M ∧ Pick (lisD a xs (rs.map dW)) L M2 ∧ rs.length ≤ 100000 ∧
  ∀ (l : Addr) (ys : List V) (H2 : Hp), Sep (lisD l ys ((rs.mergeSort leW).map dW) :: L) H2 → Q (.ref l) H2
theorem u_sortKey {P : Addr} {q : Str} {te : TE} {H : Hp} {Q : VK} (k : te σ H fun x H1 => ∃ (L M M2 : List Res) (a : Addr) (xs : List V) (rs : List RW3), x = .ref a ∧ Sep L H1 ∧ Pick (tab P q) L M ∧ Pick (lisD a xs (rs.map dW)) L M2 ∧ rs.length ≤ 100000 ∧
  ∀ (l : Addr) (ys : List V) (H2 : Hp), Sep (lisD l ys ((rs.mergeSort leW).map dW) :: L) H2 → Q (.ref l) H2) : tSortKey P q te σ H Q := k
theorem each_ref : ∀ {vs : List Value} {bs : List (Addr × RW3)}, Vals (bs.map fun b => V.ref b.1) vs → PySem.W.EachIs (fun v (b : Addr × RW3) => v = Value.ref b.1) vs bs
  | _, [], .nil => .nil
  | _, b :: bs, .cons r t => .cons r (each_ref t)
theorem ref_each : ∀ {vs : List Value} {bs : List (Addr × RW3)}, PySem.W.EachIs (fun v (b : Addr × RW3) => v = Value.ref b.1) vs bs → Vals (bs.map fun b => V.ref b.1) vs
  | _, [], .nil => .nil
  | _, b :: bs, .cons r t => .cons r (ref_each t)
theorem kW_alike (bs : List (Addr × RW3)) : PySem.W.AllAlike (bs.map fun b => kW b.2) := by
  rw [show (bs.map fun b => kW b.2) = (bs.map Prod.snd).map kW by rw [List.map_map]; rfl]
  exact PySem.W.AllAlike.of fun a b => by simp [kW, PySem.W.alike, PySem.W.alikeAll]
theorem kW_sortable (bs : List (Addr × RW3)) : PySem.W.Sortable (bs.map fun b => kW b.2) := by
  rw [show (bs.map fun b => kW b.2) = (bs.map Prod.snd).map kW by rw [List.map_map]; rfl]
  exact PySem.W.Sortable.tuples fun b => ⟨_, _, rfl⟩
theorem sort_snd (bs : List (Addr × RW3)) : (bs.mergeSort (PySem.W.dataLe false fun b => kW b.2)).map Prod.snd = (bs.map Prod.snd).mergeSort leW :=
  List.map_mergeSort fun a _ b _ => rfl
theorem pe_sortKey {c P : Addr} {e : Expr} {te : TE} {p pos kpos lpos pp p1 p2 p3 p4 p5 p6 p7 p8 p9 p10 p11 p12 p13 p14 : Pos} {j1 j2 j3 j4 j5 k0 : Nat} (hg : Gl X "sorted") (hm : X.mg "sorted" = none) (he : PE X e te) (TB : LamX.TabB X.base X.mg c P) (hcode : X.env.code = .ref c) (hu : X.A.units + 64 < cLine) (hd : X.A.depth < recursionLimit)
    (hst : backTo pos (starEach [e] X.env) = (false, eval e X.env) :: backTo pos (starEach [] X.env) := by rfl) (hpl : (backTo pos (starEach [e] X.env)).any (·.1) = false := by rfl) :
    PE X (.Call (.Name "sorted" p) [e] [{ arg := some "key", value := .Lambda (keyA pp) (.Tuple [.BinOp (.Constant (.int 0) j1 p1) .Sub (.Subscript (.Name "row" p2) (.Constant (.int 1) j2 p3) p4) p5, .BinOp (.Constant (.int 0) j3 p6) .Sub (.Subscript (.Name "row" p7) (.Constant (.int 2) j4 p8) p9) p10, .Subscript (.Name "row" p11) (.Constant (.int 0) j5 p12) p13] k0 p14) keyS lpos, pos := kpos }] pos)
      (tSortKey P (X.env.qual ++ "<lambda>") te) := by
  refine ⟨fun pins s σ H Q I h => ?_⟩
  refine wpAny_Call_Name_kw (ld_blt I hg hm (by rfl) ?_)
  refine PyProof.Rows.callWith_kw ?_ hst hpl
  rw [hst]
  refine Calls.spliced_cons (thn (he.run pins s σ H _ I h) fun u s1 ⟨x, H1, I1, rx, L, M, M2, a, xs, rs, ex, hS, kT, kL, hl, q⟩ => ?_)
  refine Calls.spliced_nil ?_
  subst ex
  obtain rfl : u = Value.ref a := rx
  refine wpAny_evalAll_cons (wpAny_bind (lam_made I1 hS kT TB hcode rfl rfl fun f c' pm ctv H2 s2 I2 hS2 hf hcd => ?_))
  refine wpAny_bind (wpAny_standAt (wpAny_pure (wpAny_evalAll_nil ?_)))
  show wpAny _ _ (call (.builtin "sorted") [.ref a] [(Str.ofString "key", .ref f)]) _ _ s2
  obtain ⟨bs, rfl, rfl, hb⟩ := rows_of (hS2.pds kL)
  obtain ⟨its, rv, hlst, hz⟩ := I2.list (SqL.of (hS2.lisD kL))
  have hbl : bs.length ≤ 100000 := by rw [List.length_map] at hl; exact hl
  refine PySem.W.sorted_key_data (β := Addr × RW3) (R := fun v b => v = Value.ref b.1) (b := false) (vs := its) (bs := bs) (f := .ref f) (fun b => kW b.2) hlst.isList (each_ref rv) (kW_alike bs) (kW_sortable bs) (by rw [sizeLine_eq]; omega) (fun b _ => ?_) (PyProof.Rows.ksk_s1 _ _) (fun _ => PyProof.Rows.ksk_l1 _ _) (fun _ => rfl) (fun v b hv hbm h' tk kp => ?_) fun out cc h' tk kp fr hnew hlen he => ?_
  · have e1 : (kW b.2).depth ≤ 1 := by simp [kW, PyData.depth, PyData.depthAll]
    omega
  · subst hv
    obtain ⟨its2, r2, pl2, _⟩ := I2.tuple (SqT.of (K := X.K) (hb b hbm))
    obtain ⟨v1, v2, v3, rfl, ⟨t1, rfl⟩, ⟨t2, rfl⟩, ⟨t3, rfl⟩⟩ : ∃ v1 v2 v3, its2 = [v1, v2, v3] ∧ RelV (.str b.2.1) v1 ∧ RelV (.int b.2.2.1) v2 ∧ RelV (.int b.2.2.2) v3 := by
      cases r2 with
      | cons a1 r2 => cases r2 with
        | cons a2 r2 => cases r2 with
          | cons a3 r2 =>
            cases r2
            exact ⟨_, _, _, rfl, a1, a2, a3⟩
    obtain ⟨c2, oc, vs, t, e2, hoc, hd2, hv2⟩ := hcd
    obtain ⟨o, g1, g2, g3⟩ := pl2
    exact raw_call (s := { s2 with heap := h', toks := tk }) (kp _ _ hf) ⟨c2, oc, vs, t, e2, kp _ _ hoc, hd2, hv2⟩ hd (I2.nolimit.keeps kp) ⟨o, kp _ _ g1, g2, g3⟩
  · have hperm := List.mergeSort_perm bs (PySem.W.dataLe false fun b => kW b.2)
    have hlen2 : (bs.mergeSort (PySem.W.dataLe false fun b => kW b.2)).length = bs.length := hperm.length_eq
    refine ⟨.ref _, upd H2 (s2.heap.objs.size + 1) (.lst ((bs.mergeSort (PySem.W.dataLe false fun b => kW b.2)).map fun b => V.ref b.1)), I2.laid (t' := tk) kp (Nat.le_succ _) ⟨by rw [List.length_map, hlen2, sizeLine_eq]; omega, out, cc, ref_each he, hnew⟩, rfl, q _ ((bs.mergeSort (PySem.W.dataLe false fun b => kW b.2)).map fun b => V.ref b.1) _ ?_⟩
    rw [← sort_snd]
    exact hS2.newD (I2.hok.fresh (Nat.le_succ _)) (rows_pds fun b hb2 => hb b (hperm.mem_iff.mp hb2))
end
section
variable {K : PySem.W.Frag} {L F : List Res} {H : Hp} {Q : VK} {a : Addr} {xs : List V} {l : List RW3}
theorem n_sortW (h : Sep L H) (k : Pick (lisD a xs (l.map kW)) L F) (q : ∀ (p : Addr) (ys : List V) (H' : Hp), Sep (lisD p ys ((l.mergeSort leW).map kW) :: L) H' → Q (.ref p) H') : rSortD K [.ref a] H Q := by
  refine ⟨RW3, a, xs, l, kW, fun x e => PD H x (kW e), rfl, SqL.of (h.lisD k), pair_of_pds (h.pds k), fun _ _ z => z.dp, PySem.W.AllAlike.of fun a b => by simp [kW, PySem.W.alike, PySem.W.alikeAll], PySem.W.Sortable.tuples fun b => ⟨_, _, rfl⟩, fun b _ => by simp [kW, PyData.depth, PyData.depthAll], fun zs p hz hp => ?_⟩
  exact q p zs _ (h.newD hp (pds_of_pair hz))
theorem kW_inv {x : V} {r : RW3} (h : PD H x (kW r)) : ∃ t, x = .ref t ∧ H t = some (.tup [.int (0 - r.2.1), .int (0 - r.2.2), .str r.1]) := by
  obtain ⟨t, zs, rfl, e, p⟩ := h.ofTup
  cases p with
  | cons a p => cases p with
    | cons b p => cases p with
      | cons c p => cases p; cases a.ofInt; cases b.ofInt; cases c.ofStr; exact ⟨t, rfl, e⟩
/-- rows that can be shown -/
def Rw3Ok (l : List RW3) : Prop := ∀ r ∈ l, isW r.1 = true ∧ (0 ≤ r.2.1 ∧ r.2.1 < 2 ^ 62) ∧ 0 ≤ r.2.2 ∧ r.2.2 < 2 ^ 62
theorem dW_len {r : RW3} (h : isW r.1 = true ∧ (0 ≤ r.2.1 ∧ r.2.1 < 2 ^ 62) ∧ 0 ≤ r.2.2 ∧ r.2.2 < 2 ^ 62) : (dW r).shown.length ≤ 300 := by
  have h1 : (reprText r.1).length ≤ 10 * r.1.length + 2 := PySem.StrLaws.reprText_len _ fun c hc => by
    have := strOk_iff.mp (isW_ok h.1).2 c hc
    omega
  have h2 := (isW_len h.1).2
  have h3 : (Str.ofString (toString r.2.1)).length ≤ 19 := PyProof.Rows.toString_length_le h.2.1.1 (by decide) (by have := h.2.1.2; omega)
  have h4 : (Str.ofString (toString r.2.2)).length ≤ 19 := PyProof.Rows.toString_length_le h.2.2.1 (by decide) (by have := h.2.2.2; omega)
  have e : (dW r).shown = tupleText [reprText r.1, Str.ofString (toString r.2.1), Str.ofString (toString r.2.2)] := by
    unfold dW
    simp only [PyData.shown, PyData.shownAll]
  rw [e]
  unfold tupleText
  have h5 := join_length_add [reprText r.1, Str.ofString (toString r.2.1), Str.ofString (toString r.2.2)] (by simp)
  rw [piled_cons, piled_cons, piled_cons, piled_nil] at h5
  rw [len_app, len_app]
  have e1 : (Str.ofString "(").length = 1 := by decide +kernel
  have e2 : (Str.ofString (if ([reprText r.1, Str.ofString (toString r.2.1), Str.ofString (toString r.2.2)] : List Str).length == 1 then ",)" else ")" : String)).length ≤ 2 := by
    show (Str.ofString ")").length ≤ 2; decide +kernel
  omega
theorem dW_show {r : RW3} (h : isW r.1 = true ∧ (0 ≤ r.2.1 ∧ r.2.1 < 2 ^ 62) ∧ 0 ≤ r.2.2 ∧ r.2.2 < 2 ^ 62) : (dW r).showable = true := by
  show (PyData.showable (.str r.1) && (PyData.showable (.int r.2.1) && (PyData.showable (.int r.2.2) && true))) = true
  simp only [PyData.showable, Bool.true_and, Bool.and_true, Bool.and_eq_true]
  exact ⟨decide_eq_true (log_62 h.2.1.1 h.2.1.2), decide_eq_true (log_62 h.2.2.1 h.2.2.2)⟩
end
/-! ### a def whose code object is told; the law's end with its table -/
structure DefC (K : PySem.W.Frag) (mg : Str → Option Value) (x : Str) (st : Stmt) (c : Addr) : Prop where
  ex : ∃ (f : Addr) (fd : FuncData), Fun K x x st f fd ∧ mg x = some (.ref f) ∧ fd.code = .ref c
section
variable {P : Program} {w : World} {K : PySem.W.Frag} {mg : Str → Option Value} {base : Heap} {k : Nat} {x : Str} {ps N : List Str} {sp : Sp} {st : Stmt} {c : Addr}
theorem DefC.ok (D : DefC K mg x st c) (S : FnScope N ps (defScope st)) (B : BindOk x st ps) (len : ∀ vs H Q E, sp vs H Q E → vs.length = ps.length)
    (hbody : ∀ (f : Addr) (A : Around) (outer : List Env) (s : Shared) (H : Hp) (vs : List V) (Q : VK) (E : XK), Room k (A.deeper (envOfC x (defScope st) s.heap.objs.size f (.ref c))) → sp vs H Q E →
      ∃ t, PSs (cxOf (L2.CX P w) P w K mg base N x (defScope st) f (.ref c) A outer s H E).nox (defBody st) t ∧ t { nx := fun _ H' => Q .non H', rt := Q } (start N vs) H) : Fn P w K mg base (k + 1) x ps sp := by
  obtain ⟨f, fd, F, m, hc⟩ := D.ex
  have kp := F.kp
  have bs := F.binds B
  obtain ⟨oc, od, kV, doc, pm, an, cdv, ct, osl, rfl, lk, hcd⟩ := F.ex
  have hc' : cdv = .ref c := hc
  subst hc'
  refine ⟨f, _, fn_of lk hcd S len fun A outer s H vs Q E hr h => ?_, m, kp, bs⟩
  obtain ⟨t, h1, h2⟩ := hbody f A outer s H vs Q E hr h
  exact ⟨t, h1.nox, h2⟩
end
def spLawT (K : PySem.W.Frag) (P : Addr) (q : Str) : Sp := fun vs H Q _ => ∃ (a : Addr) (ns : List Int), vs = [.ref a] ∧ Sep [scr K a (ns.map V.int), tab P q] H ∧ ns.length ≤ 63 ∧ ∀ H', Q (.bl true) H'
section
variable {Pr : Program} {w : World} {K : PySem.W.Frag} {mg mb : Str → Option Value} {k : Nat} {fa a c P : Addr} {fd : FuncData} {x : Str} {sp : Sp} {s : Shared} {vs : List Value} {ns : List Int}
theorem law_runT {H : Hp} (KX : K.In s.heap) (hns : s.heap.Ns mainGlobals mg) (hb : s.heap.Ns builtinsNs mb) (hbb : ∀ x : Str, x ≠ "__name__" → mb x = bootBuiltins x) (hlim : s.heap.NoLimit) (hg : s.gens = #[])
    (ha : s.heap.get? a = some { cls := .type "list", data := .seq vs.toArray }) (hr : Room k callerA)
    (hP : s.heap.get? P = some { cls := .none, data := .fields #[] }) (nP : K.lookup P = none) (C : PySem.W.CodeHd s.heap c P)
    (hbm : ∃ (bm : Addr) (ob : Obj), mg "__builtins__" = some (.ref bm) ∧ bm ≠ builtinsNs ∧ s.heap.get? bm = some ob ∧ ob.cls = .type "module" ∧ ob.dict = some builtinsNs ∧ ob.data = .plain)
    (F : ∀ base : Heap, K.In base → base.Ns mainGlobals mg → LamX.TabB base mg c P → OkG Pr w K mg base k fa fd [x] sp) (hbind : ∀ (s : Shared) (u : Value), BindsTo s fd ⟨[u], []⟩ [(x, u)])
    (hsp : sp [.ref a] H (fun v _ => v = .bl true) fun _ _ _ => False) (hCX : ∀ e s', L2.CX Pr w [] H s (fun _ _ _ => False) e s' → False)
    (hH : H P = some (.tbl #[])) (hO : ∀ b, H b = none ∨ b = P ∨ ∃ o xs, H b = some (.frz o (.lst xs))) (hok : HOk Pr w H s.heap) (hA : ∀ b, H b ≠ none → b = P ∨ (b = a ∧ K.lookup a = none)) :
    codeAny (model Pr w) callerA (.call (.ref fa) ⟨[.ref a], []⟩) (fun r s' => r = .ok (.ret (.bool true)) ∧ OldK s.heap s'.heap ∧ s'.os = s.os ∧ AllBare s'.gens) s := by
  have off : ∀ b, (b = P → False) → (b = a → False) → H b = none := fun b n1 n2 => by
    cases q : H b with
    | none => rfl
    | some u => exact ((hA b (by rw [q]; simp)).elim n1 fun z => n2 z.1).elim
  have hid : ∀ {b : Addr} {o : Obj}, s.heap.get? b = some o → (∀ z n, o.data ≠ .seq z n) → o.data ≠ .fields #[] → (hidT s.heap H).get? b = some o := fun {b o} e h1 h2 =>
    hidT_get e (off b (fun z => by
      rw [z, hP] at e; cases e
      exact h2 rfl) (fun z => by
      rw [z, ha] at e; cases e
      exact h1 _ _ rfl))
  have nsK : ∀ {b : Addr} {m : Str → Option Value}, s.heap.Ns b m → (hidT s.heap H).Ns b m := fun {b m} ⟨o, es, ep, e, d, r⟩ =>
    ⟨o, es, ep, hid e (fun z n h => by rw [d] at h; cases h) (fun h => by rw [d] at h; cases h), d, r⟩
  have hKb : K.In (hidT s.heap H) := fun b o e => hidT_get (KX b o e) (by
    cases q : H b with
    | none => rfl
    | some u =>
      rcases hA b (by rw [q]; simp) with z | ⟨z, z2⟩
      · rw [z, nP] at e; cases e
      · rw [z, z2] at e; cases e)
  have gP : mainGlobals ≠ P := fun z => by
    obtain ⟨o, es, ep, e, hd, _⟩ := hns
    rw [z, hP] at e
    cases e
    cases hd
  have hM : Mod K mg (hidT s.heap H) := ⟨hKb, nsK hns, ⟨mb, nsK hb, hbb⟩, hlim.elim fun mc h => ⟨mc, nsK h.1, h.2⟩⟩
  have TB : LamX.TabB (hidT s.heap H) mg c P := by
    refine ⟨?_, ?_, gP⟩
    · obtain ⟨o, us, file, tf, flags, tg, inF, text, tt, e1, r1, r2, r3, r⟩ := C
      exact ⟨o, us, file, tf, flags, tg, inF, text, tt, hid e1 (fun z n h => by rw [r2] at h; cases h) (fun h => by
        rw [r2] at h; cases h
        simp at r3), r1, r2, r3, r⟩
    · obtain ⟨bm, ob, b1, b2, b3, b4, b5, b6⟩ := hbm
      refine ⟨bm, ob, b1, b2, fun z => ?_, fun z => ?_, hid b3 (fun z n h => by rw [b6] at h; cases h) (fun h => by rw [b6] at h; cases h), b4, b5, b6⟩
      · obtain ⟨o, es, ep, e, hd, _⟩ := hns
        rw [z, e] at b3
        cases b3
        rw [hd] at b6
        cases b6
      · rw [z, hP] at b3
        cases b3
        cases b6
  have e0 : Env0 Pr w K mg (hidT s.heap H) callerA [] s H := ⟨rfl, hM, fun b o e => of_hidT e, Nat.le_of_eq (hidT_size _ _), trivial, (fun b hb => nomatch (show b ∈ ([] : List Addr) from hb)), hok, .of_eq hg⟩
  refine codeAny_mono ((F _ hKb (nsK hns) TB).run callerA [] s H ⟨[.ref a], []⟩ [.ref a] [.ref a] _ _ rfl hr e0 (hbind s (.ref a)) (.cons rfl .nil) hsp) fun r s' h => ?_
  cases r with
  | error e => exact (hCX e s' h).elim
  | ok fl =>
    cases fl with
    | ret u =>
      obtain ⟨v, H', os, bare, un, hok', r', q⟩ := h
      obtain rfl : v = .bl true := q
      obtain rfl : u = Value.bool true := r'
      have key : ∀ b o, b ≠ P → s.heap.get? b = some o → s'.heap.get? b = some o := fun b o nb e => by
        rcases hO b with z | z | ⟨ob, zs, z⟩
        · exact un.keep b o e z (fun h => nomatch (show b ∈ ([] : List Addr) from h)) (by simp)
        · exact absurd z nb
        · have e1 := (hok b _ z).1
          have e2 := (hok' b _ (un.frzs b ob _ z)).1
          rw [e] at e1; cases e1
          exact e2
      obtain ⟨more, hm⟩ := un.tbls P #[] hH
      have hm2 : s'.heap.get? P = some { cls := .none, data := .fields more } := by
        have z := hok' P _ hm
        rw [Array.empty_append] at z
        exact z
      refine ⟨rfl, ⟨fun b o e => ?_, fun b o e => ?_⟩, os, bare⟩
      · by_cases hbP : b = P
        · rw [hbP] at e ⊢
          rw [hP] at e
          cases e
          exact .inr (.inl ⟨(C.tab hP).isCodeTable, rfl, #[], more, rfl, by rw [Array.empty_append]; exact hm2⟩)
        · exact .inl (key b o hbP e)
      · by_cases hbP : b = P
        · rw [hbP]
          exact ⟨_, hm2⟩
        · exact ⟨o, key b o hbP e⟩
    | next => exact False.elim h
    | brk => exact False.elim h
    | cont => exact False.elim h
theorem law_callT {q : Str} (KX : K.In s.heap) (hns : s.heap.Ns mainGlobals mg) (hb : s.heap.Ns builtinsNs mb) (hbb : ∀ x : Str, x ≠ "__name__" → mb x = bootBuiltins x) (hlim : s.heap.NoLimit) (hg : s.gens = #[])
    (ha : s.heap.get? a = some { cls := .type "list", data := .seq vs.toArray }) (hi : IntsAre vs ns) (hl : ns.length ≤ 63) (hr : Room k callerA)
    (hP : s.heap.get? P = some { cls := .none, data := .fields #[] }) (nP : K.lookup P = none) (C : PySem.W.CodeHd s.heap c P)
    (hbm : ∃ (bm : Addr) (ob : Obj), mg "__builtins__" = some (.ref bm) ∧ bm ≠ builtinsNs ∧ s.heap.get? bm = some ob ∧ ob.cls = .type "module" ∧ ob.dict = some builtinsNs ∧ ob.data = .plain)
    (F : ∀ base : Heap, K.In base → base.Ns mainGlobals mg → LamX.TabB base mg c P → OkG Pr w K mg base k fa fd [x] (spLawT K P q)) (hbind : ∀ (s : Shared) (u : Value), BindsTo s fd ⟨[u], []⟩ [(x, u)])
    (hCX : ∀ H e s', L2.CX Pr w [] H s (fun _ _ _ => False) e s' → False) :
    codeAny (model Pr w) callerA (.call (.ref fa) ⟨[.ref a], []⟩) (fun r s' => r = .ok (.ret (.bool true)) ∧ OldK s.heap s'.heap ∧ s'.os = s.os ∧ AllBare s'.gens) s := by
  have rv := vals_ints hi
  have hsz : ns.length ≤ sizeLine := Nat.le_trans hl (by decide)
  have aP : a ≠ P := fun z => by
    rw [z, hP] at ha
    cases ha
  cases hk : K.lookup a with
  | some o =>
    have e := KX a o hk
    rw [ha] at e
    cases e
    let H : Hp := fun b => if b = P then some (.tbl #[]) else none
    have at_P : H P = some (.tbl #[]) := if_pos rfl
    have else_ : ∀ b, b ≠ P → H b = none := fun b n => if_neg n
    have sq : ∀ G, SqL K G a (ns.map V.int) := fun G => .inr ⟨_, vs.toArray, _, hk, rfl, rfl, rfl, by rw [List.size_toArray, hi.length]; exact hsz, by simpa using rv⟩
    refine law_runT (H := H) KX hns hb hbb hlim hg ha hr hP nP C hbm F hbind ⟨a, ns, rfl, ⟨fun _ => False, .inr ⟨fun _ z => z, sq⟩, fun _ z _ => z, fun x => x = P, tab_new at_P, fun b _ z => by rcases z with z | z <;> exact z, trivial⟩, hl, fun _ => rfl⟩ (hCX _) at_P (fun b => ?_) (fun b u z => ?_) fun b z => ?_
    · by_cases h : b = P
      · exact .inr (.inl h)
      · exact .inl (else_ b h)
    · by_cases h : b = P
      · subst h
        rw [at_P] at z
        cases z
        exact hP
      · rw [else_ b h] at z; cases z
    · by_cases h : b = P
      · exact .inl h
      · exact absurd (else_ b h) z
  | none =>
    let H : Hp := fun b => if b = P then some (.tbl #[]) else if b = a then some (.frz { cls := .type "list", data := .seq vs.toArray } (.lst (ns.map V.int))) else none
    have at_P : H P = some (.tbl #[]) := if_pos rfl
    have at_a : H a = some (.frz { cls := .type "list", data := .seq vs.toArray } (.lst (ns.map V.int))) := (if_neg aP).trans (if_pos rfl)
    have else_ : ∀ b, b ≠ P → b ≠ a → H b = none := fun b n n2 => (if_neg n).trans (if_neg n2)
    refine law_runT (H := H) KX hns hb hbb hlim hg ha hr hP nP C hbm F hbind ⟨a, ns, rfl, ⟨fun x => x = a, .inl ⟨_, at_a, (by intro zs e; cases e), fun _ => Iff.rfl, .inl (.inr ⟨_, at_a⟩)⟩, fun _ _ z => z, fun x => x = P, tab_new at_P, fun b e z => by
      rcases z with z | z
      · exact z
      · exact aP (z.symm.trans e), trivial⟩, hl, fun _ => rfl⟩ (hCX _) at_P (fun b => ?_) (fun b u z => ?_) fun b z => ?_
    · by_cases h : b = P
      · exact .inr (.inl h)
      · by_cases h2 : b = a
        · rw [h2]; exact .inr (.inr ⟨_, _, at_a⟩)
        · exact .inl (else_ b h h2)
    · by_cases h : b = P
      · subst h
        rw [at_P] at z
        cases z
        exact hP
      · by_cases h2 : b = a
        · subst h2
          rw [at_a] at z
          cases z
          exact ⟨ha, by rw [List.length_map]; exact hsz, vs, _, rv, ha⟩
        · rw [else_ b h h2] at z; cases z
    · by_cases h : b = P
      · exact .inl h
      · by_cases h2 : b = a
        · exact .inr ⟨h2, hk⟩
        · exact absurd (else_ b h h2) z
end
theorem tabIn_of {K : PySem.W.Frag} {x : Str} {f c P : Addr} {oc e : Value} {od dd : Option Addr} {fd : FuncData} {sl s2 : Array (Option Value)} {vs : Array Value} (h1 : PySem.W.nsIn K mainGlobals x = some (some (.ref f))) (h2 : K.lookup f = some ⟨oc, od, .func fd, sl⟩) (h3 : fd.code = .ref c) (h4 : K.lookup c = some ⟨e, dd, .fields vs, s2⟩) (h5 : vs[11]? = some (.ref P)) : PySem.W.tabIn K x = some (c, P) := by
  unfold PySem.W.tabIn
  simp only [h1, h2, h3, h4, h5]
theorem walkGT {l : PySem.W.OpenLaw} {q : Program} {loose : List Str} {XP : (Str → Option Value) → Heap → Prop} {YP : World → Heap → Prop} {d : DefRec} {K : Params → PySem.W.Frag} {k : Nat} {x y z : Str} (hn : l.most = some 63) (hdf : d.params.defaults = []) (hr : Room k callerA) (hrec : ((recsOf q).any fun e => e.name == y) = true)
    (hY : ∀ (w : World) (h : Heap), YP w h → (K w.params).In h)
    (F : ∀ (w : World) (mg : Str → Option Value) (fa : Addr) (h : Heap), (K w.params).In h → h.Ns mainGlobals mg → mg d.name = some (.ref fa) →
      ∃ (fd : FuncData) (c P : Addr), PySem.W.tabIn (K w.params) y = some (c, P) ∧ (K w.params).lookup P = none ∧ (∀ (s : Shared) (u : Value), BindsTo s fd ⟨[u], []⟩ [(x, u)]) ∧ ∀ base : Heap, (K w.params).In base → base.Ns mainGlobals mg → LamX.TabB base mg c P → OkG l.prog w (K w.params) mg base k fa fd [x] (spLawT (K w.params) P z)) :
    PySem.W.WalkO q loose XP YP l.row.toRowW d [] (fun f vs => PySem.call f vs) := by
  refine Att.attach_call hn hdf fun w s₀ s₁ mg mb fa o pm cd doc a vs ns G Y ho hd hcd hmg hobj hints hlen hg => ?_
  have KX := hY w _ Y
  obtain ⟨fd, c, P, ht, nP, hb, hF⟩ := F w mg fa _ KX G.T.g hmg
  obtain ⟨dR, hdR⟩ : ∃ dR, (recsOf q).find? (fun e => e.name == y) = some dR := Option.isSome_iff_exists.mp (by rw [List.find?_isSome]; exact List.any_eq_true.mp hrec)
  obtain ⟨C, hP⟩ := PySem.W.tab_of G.T KX hdR ht
  exact law_callT KX G.T.g G.T.b G.T.builtins G.T.nolimit hg hobj hints hlen hr hP nP C G.T.bmain hF hb fun _ _ _ z => by
    obtain ⟨_, _, _, _, _, _, _, _, _, _, _, _, z⟩ := z
    exact z
end Ah
namespace Ah
open PySem PySem.Spec PyProof.Rows L2
def top (i : Nat) : Stmt := PySem.Challenge.pw_aheadword_k33_ranked_behind.main.body.getD i (.Pass ⟨0, 0, 0, 0⟩)
abbrev s_is_part : Stmt := top 5
theorem sc_is_part : FnScope ["text", "sign"] ["text"] (defScope s_is_part) := ⟨rfl, rfl, rfl, by decide +kernel, rfl, by decide +kernel, by decide +kernel⟩
theorem bi_is_part : BindOk "is_part" s_is_part ["text"] := fun _ _ _ _ _ _ us hl => match us, hl with | [_], _ => rfl
abbrev s_is_word : Stmt := top 6
theorem sc_is_word : FnScope ["thing", "parts", "part"] ["thing"] (defScope s_is_word) := ⟨rfl, rfl, rfl, by decide +kernel, rfl, by decide +kernel, by decide +kernel⟩
theorem bi_is_word : BindOk "is_word" s_is_word ["thing"] := fun _ _ _ _ _ _ us hl => match us, hl with | [_], _ => rfl
abbrev s_worth_at : Stmt := top 7
theorem sc_worth_at : FnScope ["mark", "era", "count", "begun"] ["mark", "era"] (defScope s_worth_at) := ⟨rfl, rfl, rfl, by decide +kernel, rfl, by decide +kernel, by decide +kernel⟩
theorem bi_worth_at : BindOk "worth_at" s_worth_at ["mark", "era"] := fun _ _ _ _ _ _ us hl => match us, hl with | [_, _], _ => rfl
abbrev s_used_mark : Stmt := top 8
theorem sc_used_mark : FnScope ["mark", "era", "times"] ["mark", "era", "times"] (defScope s_used_mark) := ⟨rfl, rfl, rfl, by decide +kernel, rfl, by decide +kernel, by decide +kernel⟩
theorem bi_used_mark : BindOk "used_mark" s_used_mark ["mark", "era", "times"] := fun _ _ _ _ _ _ us hl => match us, hl with | [_, _, _], _ => rfl
abbrev s_greatest_at : Stmt := top 9
theorem sc_greatest_at : FnScope ["marks", "era", "mark"] ["marks", "era"] (defScope s_greatest_at) := ⟨rfl, rfl, rfl, by decide +kernel, rfl, by decide +kernel, by decide +kernel⟩
theorem bi_greatest_at : BindOk "greatest_at" s_greatest_at ["marks", "era"] := fun _ _ _ _ _ _ us hl => match us, hl with | [_, _], _ => rfl
abbrev s_Pairs___init__ : Stmt := inClass (top 11) 0
theorem sc_Pairs___init__ : FnScope ["self"] ["self"] (defScope s_Pairs___init__) := ⟨rfl, rfl, rfl, by decide +kernel, rfl, by decide +kernel, by decide +kernel⟩
abbrev s_Pairs_choose : Stmt := inClass (top 11) 1
theorem sc_Pairs_choose : FnScope ["self", "before", "word", "mark"] ["self", "before", "word"] (defScope s_Pairs_choose) := ⟨rfl, rfl, rfl, by decide +kernel, rfl, by decide +kernel, by decide +kernel⟩
abbrev s_Pairs_fade : Stmt := inClass (top 11) 2
theorem sc_Pairs_fade : FnScope ["self", "times"] ["self", "times"] (defScope s_Pairs_fade) := ⟨rfl, rfl, rfl, by decide +kernel, rfl, by decide +kernel, by decide +kernel⟩
abbrev s_Pairs_let_go : Stmt := inClass (top 11) 3
theorem sc_Pairs_let_go : FnScope ["self", "word", "kept", "pair", "mark"] ["self", "word"] (defScope s_Pairs_let_go) := ⟨rfl, rfl, rfl, by decide +kernel, rfl, by decide +kernel, by decide +kernel⟩
abbrev s_Pairs_worth_of : Stmt := inClass (top 11) 4
theorem sc_Pairs_worth_of : FnScope ["self", "before", "word"] ["self", "before", "word"] (defScope s_Pairs_worth_of) := ⟨rfl, rfl, rfl, by decide +kernel, rfl, by decide +kernel, by decide +kernel⟩
abbrev s_ranked : Stmt := top 12
theorem sc_ranked : FnScope ["wood", "pairs", "before", "beginning", "many", "rows", "word", "worth"] ["wood", "pairs", "before", "beginning", "many"] (defScope s_ranked) := ⟨rfl, rfl, rfl, by decide +kernel, rfl, by decide +kernel, by decide +kernel⟩
theorem bi_ranked : BindOk "ranked" s_ranked ["wood", "pairs", "before", "beginning", "many"] := fun _ _ _ _ _ _ us hl => match us, hl with | [_, _, _, _, _], _ => rfl
abbrev s_Wood___init__ : Stmt := inClass (top 20) 0
theorem sc_Wood___init__ : FnScope ["self"] ["self"] (defScope s_Wood___init__) := ⟨rfl, rfl, rfl, by decide +kernel, rfl, by decide +kernel, by decide +kernel⟩
abbrev s_Wood_put : Stmt := inClass (top 20) 1
theorem sc_Wood_put : FnScope ["self", "word", "count"] ["self", "word", "count"] (defScope s_Wood_put) := ⟨rfl, rfl, rfl, by decide +kernel, rfl, by decide +kernel, by decide +kernel⟩
abbrev s_Wood_use : Stmt := inClass (top 20) 2
theorem sc_Wood_use : FnScope ["self", "word", "times"] ["self", "word", "times"] (defScope s_Wood_use) := ⟨rfl, rfl, rfl, by decide +kernel, rfl, by decide +kernel, by decide +kernel⟩
abbrev s_Wood_strike : Stmt := inClass (top 20) 3
theorem sc_Wood_strike : FnScope ["self", "word"] ["self", "word"] (defScope s_Wood_strike) := ⟨rfl, rfl, rfl, by decide +kernel, rfl, by decide +kernel, by decide +kernel⟩
abbrev s_Wood_fade : Stmt := inClass (top 20) 4
theorem sc_Wood_fade : FnScope ["self", "times"] ["self", "times"] (defScope s_Wood_fade) := ⟨rfl, rfl, rfl, by decide +kernel, rfl, by decide +kernel, by decide +kernel⟩
abbrev s_Wood_words : Stmt := inClass (top 20) 8
theorem sc_Wood_words : FnScope ["self", "word"] ["self"] (defScope s_Wood_words) := ⟨rfl, rfl, rfl, by decide +kernel, rfl, by decide +kernel, by decide +kernel⟩
abbrev s_Wood_ask_there : Stmt := inClass (top 20) 12
theorem sc_Wood_ask_there : FnScope ["self", "word"] ["self", "word"] (defScope s_Wood_ask_there) := ⟨rfl, rfl, rfl, by decide +kernel, rfl, by decide +kernel, by decide +kernel⟩
abbrev s_Wood_longer_by_one : Stmt := inClass (top 20) 13
theorem sc_Wood_longer_by_one : FnScope ["self", "text", "sign"] ["self", "text"] (defScope s_Wood_longer_by_one) := ⟨rfl, rfl, rfl, by decide +kernel, rfl, by decide +kernel, by decide +kernel⟩
abbrev s_Wood_renew_tops : Stmt := inClass (top 20) 14
theorem sc_Wood_renew_tops : FnScope ["self", "word", "size", "text", "behind", "other"] ["self", "word"] (defScope s_Wood_renew_tops) := ⟨rfl, rfl, rfl, by decide +kernel, rfl, by decide +kernel, by decide +kernel⟩
abbrev s_law_feed : Stmt := top 26
theorem sc_law_feed : FnScope ["_law_script", "_law_cells"] ["_law_script"] (defScope s_law_feed) := ⟨rfl, rfl, rfl, by decide +kernel, rfl, by decide +kernel, by decide +kernel⟩
theorem bi_law_feed : BindOk "_law_feed" s_law_feed ["_law_script"] := fun _ _ _ _ _ _ us hl => match us, hl with | [_], _ => rfl
abbrev s_law_draw : Stmt := top 27
theorem sc_law_draw : FnScope ["_law_feed_here", "_law_many", "_law_cells", "_law_found", "_law_at", "_law_number"] ["_law_feed_here", "_law_many"] (defScope s_law_draw) := ⟨rfl, rfl, rfl, by decide +kernel, rfl, by decide +kernel, by decide +kernel⟩
theorem bi_law_draw : BindOk "_law_draw" s_law_draw ["_law_feed_here", "_law_many"] := fun _ _ _ _ _ _ us hl => match us, hl with | [_, _], _ => rfl
abbrev s_law_part : Stmt := top 28
theorem sc_law_part : FnScope ["_law_feed_here", "_law_letters", "_law_size", "_law_k"] ["_law_feed_here", "_law_letters"] (defScope s_law_part) := ⟨rfl, rfl, rfl, by decide +kernel, rfl, by decide +kernel, by decide +kernel⟩
theorem bi_law_part : BindOk "_law_part" s_law_part ["_law_feed_here", "_law_letters"] := fun _ _ _ _ _ _ us hl => match us, hl with | [_, _], _ => rfl
abbrev s_law_is_fit : Stmt := top 29
theorem sc_law_is_fit : FnScope ["_law_text", "_law_parts", "_law_part_here"] ["_law_text"] (defScope s_law_is_fit) := ⟨rfl, rfl, rfl, by decide +kernel, rfl, by decide +kernel, by decide +kernel⟩
theorem bi_law_is_fit : BindOk "_law_is_fit" s_law_is_fit ["_law_text"] := fun _ _ _ _ _ _ us hl => match us, hl with | [_], _ => rfl
abbrev s_law_word : Stmt := top 30
theorem sc_law_word : FnScope ["_law_feed_here", "_law_words_here", "_law_letters", "_law_more", "_law_longer", "_law_parts", "_law_k"] ["_law_feed_here", "_law_words_here", "_law_letters"] (defScope s_law_word) := ⟨rfl, rfl, rfl, by decide +kernel, rfl, by decide +kernel, by decide +kernel⟩
theorem bi_law_word : BindOk "_law_word" s_law_word ["_law_feed_here", "_law_words_here", "_law_letters"] := fun _ _ _ _ _ _ us hl => match us, hl with | [_, _, _], _ => rfl
abbrev s_law_words : Stmt := top 31
theorem sc_law_words : FnScope ["_law_feed_here", "_law_many", "_law_first", "_law_some", "_law_letters", "_law_words_here", "_law_k", "_law_word_here"] ["_law_feed_here", "_law_many"] (defScope s_law_words) := ⟨rfl, rfl, rfl, by decide +kernel, rfl, by decide +kernel, by decide +kernel⟩
theorem bi_law_words : BindOk "_law_words" s_law_words ["_law_feed_here", "_law_many"] := fun _ _ _ _ _ _ us hl => match us, hl with | [_, _], _ => rfl
abbrev s_law_beginning : Stmt := top 32
theorem sc_law_beginning : FnScope ["_law_feed_here", "_law_words_here", "_law_word_here", "_law_parts", "_law_tail", "_law_text"] ["_law_feed_here", "_law_words_here"] (defScope s_law_beginning) := ⟨rfl, rfl, rfl, by decide +kernel, rfl, by decide +kernel, by decide +kernel⟩
theorem bi_law_beginning : BindOk "_law_beginning" s_law_beginning ["_law_feed_here", "_law_words_here"] := fun _ _ _ _ _ _ us hl => match us, hl with | [_, _], _ => rfl
abbrev s_law_count : Stmt := top 33
theorem sc_law_count : FnScope ["_law_feed_here"] ["_law_feed_here"] (defScope s_law_count) := ⟨rfl, rfl, rfl, by decide +kernel, rfl, by decide +kernel, by decide +kernel⟩
theorem bi_law_count : BindOk "_law_count" s_law_count ["_law_feed_here"] := fun _ _ _ _ _ _ us hl => match us, hl with | [_], _ => rfl
abbrev s_law_halved : Stmt := top 34
theorem sc_law_halved : FnScope ["_law_count_here", "_law_times", "_law_k"] ["_law_count_here", "_law_times"] (defScope s_law_halved) := ⟨rfl, rfl, rfl, by decide +kernel, rfl, by decide +kernel, by decide +kernel⟩
theorem bi_law_halved : BindOk "_law_halved" s_law_halved ["_law_count_here", "_law_times"] := fun _ _ _ _ _ _ us hl => match us, hl with | [_, _], _ => rfl
abbrev s_law_is_told : Stmt := top 35
theorem sc_law_is_told : FnScope ["_law_found", "_law_due_here"] ["_law_found", "_law_due_here"] (defScope s_law_is_told) := ⟨rfl, rfl, rfl, by decide +kernel, rfl, by decide +kernel, by decide +kernel⟩
theorem bi_law_is_told : BindOk "_law_is_told" s_law_is_told ["_law_found", "_law_due_here"] := fun _ _ _ _ _ _ us hl => match us, hl with | [_, _], _ => rfl
abbrev s_law_pair_worth : Stmt := top 36
theorem sc_law_pair_worth : FnScope ["_law_marks", "_law_era", "_law_pair", "_law_count_here", "_law_at"] ["_law_marks", "_law_era", "_law_pair"] (defScope s_law_pair_worth) := ⟨rfl, rfl, rfl, by decide +kernel, rfl, by decide +kernel, by decide +kernel⟩
theorem bi_law_pair_worth : BindOk "_law_pair_worth" s_law_pair_worth ["_law_marks", "_law_era", "_law_pair"] := fun _ _ _ _ _ _ us hl => match us, hl with | [_, _, _], _ => rfl
abbrev s_law_deed : Stmt := top 37
theorem sc_law_deed : FnScope ["_law_feed_here", "_law_pairs", "_law_model", "_law_words_here", "_law_kind", "_law_before", "_law_word_here", "_law_era", "_law_told", "_law_times", "_law_k", "_law_left", "_law_pair", "_law_mark"] ["_law_feed_here", "_law_pairs", "_law_model", "_law_words_here"] (defScope s_law_deed) := ⟨rfl, rfl, rfl, by decide +kernel, rfl, by decide +kernel, by decide +kernel⟩
theorem bi_law_deed : BindOk "_law_deed" s_law_deed ["_law_feed_here", "_law_pairs", "_law_model", "_law_words_here"] := fun _ _ _ _ _ _ us hl => match us, hl with | [_, _, _, _], _ => rfl
abbrev s_law_wood_deed : Stmt := top 38
theorem sc_law_wood_deed : FnScope ["_law_feed_here", "_law_wood", "_law_model", "_law_words_here", "_law_word_here", "_law_kind", "_law_marks", "_law_era", "_law_times", "_law_count_here"] ["_law_feed_here", "_law_wood", "_law_model", "_law_words_here"] (defScope s_law_wood_deed) := ⟨rfl, rfl, rfl, by decide +kernel, rfl, by decide +kernel, by decide +kernel⟩
theorem bi_law_wood_deed : BindOk "_law_wood_deed" s_law_wood_deed ["_law_feed_here", "_law_wood", "_law_model", "_law_words_here"] := fun _ _ _ _ _ _ us hl => match us, hl with | [_, _, _, _], _ => rfl
abbrev s_law_rated : Stmt := top 39
theorem sc_law_rated : FnScope ["_law_model", "_law_marks", "_law_word_here"] ["_law_model"] (defScope s_law_rated) := ⟨rfl, rfl, rfl, by decide +kernel, rfl, by decide +kernel, by decide +kernel⟩
theorem bi_law_rated : BindOk "_law_rated" s_law_rated ["_law_model"] := fun _ _ _ _ _ _ us hl => match us, hl with | [_], _ => rfl
abbrev s_law_due : Stmt := top 40
theorem sc_law_due : FnScope ["_law_rated_here", "_law_model", "_law_before", "_law_text", "_law_rows", "_law_word_here", "_law_worth", "_law_row"] ["_law_rated_here", "_law_model", "_law_before", "_law_text"] (defScope s_law_due) := ⟨rfl, rfl, rfl, by decide +kernel, rfl, by decide +kernel, by decide +kernel⟩
theorem bi_law_due : BindOk "_law_due" s_law_due ["_law_rated_here", "_law_model", "_law_before", "_law_text"] := fun _ _ _ _ _ _ us hl => match us, hl with | [_, _, _, _], _ => rfl
abbrev s_law : Stmt := top 41
theorem sc_law : FnScope ["_law_script", "_law_feed_here", "_law_words_here", "_law_wood", "_law_pairs", "_law_models", "_law_k", "_law_before", "_law_text", "_law_many", "_law_some", "_law_due_here", "_law_found"] ["_law_script"] (defScope s_law) := ⟨rfl, rfl, rfl, by decide +kernel, rfl, by decide +kernel, by decide +kernel⟩
theorem bi_law : BindOk "law" s_law ["_law_script"] := fun _ _ _ _ _ _ us hl => match us, hl with | [_], _ => rfl
abbrev s_PartWood___init__ : Stmt := inClass (top 20) 0
theorem sc_PartWood___init__ : FnScope ["self"] ["self"] (defScope s_PartWood___init__) := ⟨rfl, rfl, rfl, by decide +kernel, rfl, by decide +kernel, by decide +kernel⟩
abbrev s_PartWood_put : Stmt := inClass (top 20) 1
theorem sc_PartWood_put : FnScope ["self", "word", "count"] ["self", "word", "count"] (defScope s_PartWood_put) := ⟨rfl, rfl, rfl, by decide +kernel, rfl, by decide +kernel, by decide +kernel⟩
abbrev s_PartWood_use : Stmt := inClass (top 20) 2
theorem sc_PartWood_use : FnScope ["self", "word", "times"] ["self", "word", "times"] (defScope s_PartWood_use) := ⟨rfl, rfl, rfl, by decide +kernel, rfl, by decide +kernel, by decide +kernel⟩
abbrev s_PartWood_strike : Stmt := inClass (top 20) 3
theorem sc_PartWood_strike : FnScope ["self", "word"] ["self", "word"] (defScope s_PartWood_strike) := ⟨rfl, rfl, rfl, by decide +kernel, rfl, by decide +kernel, by decide +kernel⟩
abbrev s_PartWood_fade : Stmt := inClass (top 20) 4
theorem sc_PartWood_fade : FnScope ["self", "times"] ["self", "times"] (defScope s_PartWood_fade) := ⟨rfl, rfl, rfl, by decide +kernel, rfl, by decide +kernel, by decide +kernel⟩
abbrev s_PartWood_words : Stmt := inClass (top 20) 8
theorem sc_PartWood_words : FnScope ["self", "word"] ["self"] (defScope s_PartWood_words) := ⟨rfl, rfl, rfl, by decide +kernel, rfl, by decide +kernel, by decide +kernel⟩
abbrev s_PartWood_ask_there : Stmt := inClass (top 20) 12
theorem sc_PartWood_ask_there : FnScope ["self", "word"] ["self", "word"] (defScope s_PartWood_ask_there) := ⟨rfl, rfl, rfl, by decide +kernel, rfl, by decide +kernel, by decide +kernel⟩
abbrev s_PartWood_longer_by_one : Stmt := inClass (top 20) 13
theorem sc_PartWood_longer_by_one : FnScope ["self", "text", "sign"] ["self", "text"] (defScope s_PartWood_longer_by_one) := ⟨rfl, rfl, rfl, by decide +kernel, rfl, by decide +kernel, by decide +kernel⟩
abbrev s_PartWood_renew_tops : Stmt := inClass (top 20) 14
theorem sc_PartWood_renew_tops : FnScope ["self", "word", "size", "text", "behind", "other"] ["self", "word"] (defScope s_PartWood_renew_tops) := ⟨rfl, rfl, rfl, by decide +kernel, rfl, by decide +kernel, by decide +kernel⟩
structure Top (K : PySem.W.Frag) (mg : Str → Option Value) (C_Pairs C_Wood C_PartWood X_Absent X_NoWord X_Twice cT PT : Addr) : Prop where
  cl_Pairs : Cls K C_Pairs
  na_Pairs_pair_marks : NoAttr K C_Pairs "pair_marks"
  na_Pairs_pair_era : NoAttr K C_Pairs "pair_era"
  cl_Wood : Cls K C_Wood
  na_Wood_marks : NoAttr K C_Wood "marks"
  na_Wood_tops : NoAttr K C_Wood "tops"
  na_Wood_now : NoAttr K C_Wood "now"
  cl_PartWood : Cls K C_PartWood
  na_PartWood_marks : NoAttr K C_PartWood "marks"
  na_PartWood_tops : NoAttr K C_PartWood "tops"
  na_PartWood_now : NoAttr K C_PartWood "now"
  x_Absent : ExcAt K mg "Absent" X_Absent
  x_NoWord : ExcAt K mg "NoWord" X_NoWord
  x_Twice : ExcAt K mg "Twice" X_Twice
  in_Pairs : InitAt K mg C_Pairs "Pairs" "Pairs.__init__" s_Pairs___init__ ["self"]
  me_Pairs_choose : MethAt K C_Pairs "choose" "Pairs.choose" s_Pairs_choose ["self", "before", "word"] []
  me_Pairs_fade : MethAt K C_Pairs "fade" "Pairs.fade" s_Pairs_fade ["self", "times"] [V.int 1]
  me_Pairs_let_go : MethAt K C_Pairs "let_go" "Pairs.let_go" s_Pairs_let_go ["self", "word"] []
  me_Pairs_worth_of : MethAt K C_Pairs "worth_of" "Pairs.worth_of" s_Pairs_worth_of ["self", "before", "word"] []
  in_Wood : InitAt K mg C_Wood "Wood" "Wood.__init__" s_Wood___init__ ["self"]
  me_Wood_put : MethAt K C_Wood "put" "Wood.put" s_Wood_put ["self", "word", "count"] []
  me_Wood_use : MethAt K C_Wood "use" "Wood.use" s_Wood_use ["self", "word", "times"] [V.int 1]
  me_Wood_strike : MethAt K C_Wood "strike" "Wood.strike" s_Wood_strike ["self", "word"] []
  me_Wood_fade : MethAt K C_Wood "fade" "Wood.fade" s_Wood_fade ["self", "times"] [V.int 1]
  me_Wood_words : MethAt K C_Wood "words" "Wood.words" s_Wood_words ["self"] []
  me_Wood_ask_there : MethAt K C_Wood "ask_there" "Wood.ask_there" s_Wood_ask_there ["self", "word"] []
  me_Wood_longer_by_one : MethAt K C_Wood "longer_by_one" "Wood.longer_by_one" s_Wood_longer_by_one ["self", "text"] []
  me_Wood_renew_tops : MethAt K C_Wood "renew_tops" "Wood.renew_tops" s_Wood_renew_tops ["self", "word"] []
  in_PartWood : InitAt K mg C_PartWood "PartWood" "Wood.__init__" s_PartWood___init__ ["self"]
  me_PartWood_put : MethAt K C_PartWood "put" "Wood.put" s_PartWood_put ["self", "word", "count"] []
  me_PartWood_use : MethAt K C_PartWood "use" "Wood.use" s_PartWood_use ["self", "word", "times"] [V.int 1]
  me_PartWood_strike : MethAt K C_PartWood "strike" "Wood.strike" s_PartWood_strike ["self", "word"] []
  me_PartWood_fade : MethAt K C_PartWood "fade" "Wood.fade" s_PartWood_fade ["self", "times"] [V.int 1]
  me_PartWood_words : MethAt K C_PartWood "words" "Wood.words" s_PartWood_words ["self"] []
  me_PartWood_ask_there : MethAt K C_PartWood "ask_there" "Wood.ask_there" s_PartWood_ask_there ["self", "word"] []
  me_PartWood_longer_by_one : MethAt K C_PartWood "longer_by_one" "Wood.longer_by_one" s_PartWood_longer_by_one ["self", "text"] []
  me_PartWood_renew_tops : MethAt K C_PartWood "renew_tops" "Wood.renew_tops" s_PartWood_renew_tops ["self", "word"] []
  n_int : mg "int" = none
  n_isinstance : mg "isinstance" = none
  n_len : mg "len" = none
  n_list : mg "list" = none
  n_max : mg "max" = none
  n_min : mg "min" = none
  n_range : mg "range" = none
  n_repr : mg "repr" = none
  n_sorted : mg "sorted" = none
  n_str : mg "str" = none
  c_LETTERS : ∃ t, mg "LETTERS" = some (.str "abcdefghijklmnopqrstuvwxyz" t)
  c_SIGNS : ∃ t, mg "SIGNS" = some (.str " abcdefghijklmnopqrstuvwxyz" t)
  d_is_part : DefAt K mg "is_part" s_is_part
  d_is_word : DefAt K mg "is_word" s_is_word
  d_worth_at : DefAt K mg "worth_at" s_worth_at
  d_used_mark : DefAt K mg "used_mark" s_used_mark
  d_greatest_at : DefAt K mg "greatest_at" s_greatest_at
  d_ranked : DefC K mg "ranked" s_ranked cT
  d_law_feed : DefAt K mg "_law_feed" s_law_feed
  d_law_draw : DefAt K mg "_law_draw" s_law_draw
  d_law_part : DefAt K mg "_law_part" s_law_part
  d_law_is_fit : DefAt K mg "_law_is_fit" s_law_is_fit
  d_law_word : DefAt K mg "_law_word" s_law_word
  d_law_words : DefAt K mg "_law_words" s_law_words
  d_law_beginning : DefAt K mg "_law_beginning" s_law_beginning
  d_law_count : DefAt K mg "_law_count" s_law_count
  d_law_halved : DefAt K mg "_law_halved" s_law_halved
  d_law_is_told : DefAt K mg "_law_is_told" s_law_is_told
  d_law_pair_worth : DefAt K mg "_law_pair_worth" s_law_pair_worth
  d_law_deed : DefAt K mg "_law_deed" s_law_deed
  d_law_wood_deed : DefAt K mg "_law_wood_deed" s_law_wood_deed
  d_law_rated : DefAt K mg "_law_rated" s_law_rated
  d_law_due : DefAt K mg "_law_due" s_law_due
/-! ### short steps -/
local macro_rules | `(tactic| walk_at "ne") => `(tactic| first | assumption | (apply Ne.symm; assumption) | (exact ne_of_none (by assumption) (by assumption)) | (exact (ne_of_none (by assumption) (by assumption)).symm))
local macro_rules | `(tactic| walk_at "hp") => `(tactic| first | assumption | exact upd_same | (refine' (upd_ne ?n).trans ?h; (case n => walk_at "ne"); (case h => walk_at "hp")))
local macro_rules | `(tactic| walk_at "sq") => `(tactic| first | assumption | (refine' SqL.of ?h; (case h => walk_at "hp")))
local macro_rules | `(tactic| walk_at "st") => `(tactic| first | assumption | (refine' SqT.of ?h; (case h => walk_at "hp")))
local macro_rules | `(tactic| walk_at "sd") => `(tactic| first | assumption | decide | (constructor <;> decide) | omega | (constructor <;> omega) | (refine Or.inr ?_; constructor <;> decide) | (refine Or.inr ?_; constructor <;> omega))
local macro_rules | `(tactic| walk_at "kb") => `(tactic| first | exact kb_int_int | exact kb_int_bool | exact kb_int_str | exact kb_int_list | exact kb_int_tuple | exact kb_bool_int | exact kb_bool_bool | exact kb_bool_str | exact kb_bool_list | exact kb_bool_tuple | exact kb_str_int | exact kb_str_bool | exact kb_str_str | exact kb_str_list | exact kb_str_tuple | exact kb_NoneType_int | exact kb_NoneType_bool | exact kb_NoneType_str | exact kb_NoneType_list | exact kb_NoneType_tuple | exact kb_list_int | exact kb_list_bool | exact kb_list_str | exact kb_list_list | exact kb_list_tuple | exact kb_tuple_int | exact kb_tuple_bool | exact kb_tuple_str | exact kb_tuple_list | exact kb_tuple_tuple | exact kb_dict_int | exact kb_dict_bool | exact kb_dict_str | exact kb_dict_list | exact kb_dict_tuple)
local macro_rules | `(tactic| walk_at "ty") => `(tactic| first | exact .base (.int _) | exact .base (.bl _) | exact .base (.str _) | exact .base .non | (refine' .base (.tup ?h); (case h => walk_at "hp")) | (refine' .base (.lst ?h); (case h => walk_at "hp")))
local macro_rules | `(tactic| walk_at "u") => `(tactic| with_reducible first
  | refine u_seq ?_
  | refine u_asg ?_
  | refine u_drop ?_
  | refine u_ret ?_
  | refine u_retN ?_
  | refine u_next ?_
  | refine u_brk ?_
  | refine u_cont ?_
  | refine u_ifS ?_
  | refine u_op ?_
  | refine u_un ?_
  | refine u_c ?_
  | refine u_and ?_
  | refine u_or ?_
  | refine u_not ?_
  | refine u_andV ?_
  | refine u_orV ?_
  | refine u_notV ?_
  | refine u_if ?_
  | refine u_test ?_
  | refine u_B ?_
  | refine u_chain ?_
  | refine u_name ?_
  | refine u_sub ?_
  | refine u_nil ?_
  | refine u_cons ?_
  | refine u_call ?_
  | refine u_CB ?_
  | refine u_tup ?_
  | refine u_lst ?_
  | refine u_for ?_
  | refine u_iList ?_
  | refine u_iTup ?_
  | refine u_iRng1 ?_
  | refine u_iRng2 ?_
  | refine u_sl ?_
  | refine u_part ?_
  | refine u_nopart ?_
  | refine u_lc ?_
  | refine u_iStr ?_
  | refine u_M0 ?_
  | refine u_M1 ?_
  | refine u_bm ?_
  | refine u_bm0 ?_
  | refine u_yes ?_
  | refine u_gcons ?_
  | refine u_gnil ?_)
local macro_rules | `(tactic| walk_at "s") => `(tactic| first
  | ((with_reducible refine' s_var ?h ?q); (case h => rfl))
  | with_reducible refine s_ii ?_
  | ((with_reducible refine' s_eq ?h ?q); (case h => rfl))
  | ((with_reducible refine' s_ne ?h ?q); (case h => rfl))
  | with_reducible refine iteF ?_
  | with_reducible refine iteT ?_
  | with_reducible refine ntT ?_
  | with_reducible refine ntF ?_
  | (with_reducible refine Exists.intro _ (And.intro (show V.bl _ = V.bl _ from rfl) ?_))
  | (with_reducible refine s_isStr ?_)
  | (with_reducible refine Exists.intro _ (And.intro (show V.str _ = V.str _ from rfl) ?_))
  | (with_reducible refine Exists.intro _ (And.intro (show V.int _ = V.int _ from rfl) ?_))
  | (with_reducible refine Exists.intro _ (And.intro (show [V.int _] = [V.int _] from rfl) ?_))
  | (with_reducible refine Exists.intro _ (And.intro (show V.ref _ = V.ref _ from rfl) ?_))
  | with_reducible refine s_un ?_
  | ((with_reducible refine' s_ixL ?h ?a ?q); (case h => walk_at "sq"); (case a => rfl))
  | ((with_reducible refine' s_ixT ?h ?a ?q); (case h => walk_at "st"); (case a => rfl))
  | ((with_reducible refine' s_setL ?h ?a ?k); (case h => walk_at "hp"); (case a => rfl))
  | ((with_reducible refine' s_tyL ?h ?k); (case h => walk_at "sq"))
  | ((with_reducible refine' s_slL ?h ?q); (case h => walk_at "sq"))
  | ((with_reducible refine' s_isi ?t ?k ?q); (case t => walk_at "ty"); (case k => walk_at "kb"))
  | ((with_reducible refine' s_gtup ?h ?l ?k); (case h => walk_at "st"); (case l => rfl))
  | ((refine' ⟨_, _, rfl, Or.inl ?h, ?q⟩); (case h => walk_at "sq"))
  | ((refine' ⟨_, _, rfl, Or.inr ?h, ?q⟩); (case h => walk_at "st"))
  | ((with_reducible refine' s_iiC ?c ?q); (case c => walk_at "sd")))
local macro_rules | `(tactic| walk_at "go") => `(tactic| repeat first | walk_at "u" | walk_at "s")
/-! ### steps of objects -/
local macro_rules | `(tactic| walk_at "lk") => `(tactic| assumption)
local macro_rules | `(tactic| walk_at "no") => `(tactic| assumption)
local macro_rules | `(tactic| walk_at "wl") => `(tactic| assumption)
local macro_rules | `(tactic| walk_at "u") => `(tactic| with_reducible first
  | refine u_fld ?_
  | refine u_sfld ?_
  | refine u_meth ?_
  | refine u_make ?_)
local macro_rules | `(tactic| walk_at "s") => `(tactic| first
  | ((with_reducible refine' s_fld ?h ?c ?n ?l ?q); (case h => walk_at "hp"); (case c => assumption); (case n => assumption); (case l => walk_at "lk"))
  | ((with_reducible refine' s_sfld ?h ?c ?n ?l ?q); (case h => walk_at "hp"); (case c => assumption); (case n => assumption); (case l => walk_at "wl"))
  | ((with_reducible refine' s_meth ?h ?l ?q); (case h => walk_at "hp"); (case l => walk_at "no"))
  | ((with_reducible refine' s_methD ?h ?l ?q); (case h => walk_at "hp"); (case l => walk_at "no")))
/-! ### steps of dicts -/
local macro_rules | `(tactic| walk_at "u") => `(tactic| with_reducible first
  | refine u_din ?_
  | refine u_dnotin ?_
  | refine u_dget ?_
  | refine u_dput ?_
  | refine u_dpop1 ?_
  | refine u_dpop2 ?_
  | refine u_dnew ?_)
local macro_rules | `(tactic| walk_at "s") => `(tactic| first
  | ((with_reducible refine' s_din ?h ?q); (case h => assumption))
  | ((with_reducible refine' s_dnotin ?h ?q); (case h => assumption)))
/-! ### a wood's fields -/
local macro_rules | `(tactic| walk_at "lk") => `(tactic| first | exact wf_marks | exact wf_tops | exact wf_now)
local macro_rules | `(tactic| walk_at "no") => `(tactic| exact wf_no (by decide +kernel) (by decide +kernel) (by decide +kernel))
local macro_rules | `(tactic| walk_at "wl") => `(tactic| exact wf_len)
local macro_rules | `(tactic| walk_at "u") => `(tactic| with_reducible refine u_iRng3 ?_)
section
variable {P : Program} {w : World} {K : PySem.W.Frag} {mg : Str → Option Value} {base : Heap} {C_Pairs C_Wood C_PartWood X_Absent X_NoWord X_Twice cT PT : Addr}
theorem ok_law_feed (T : Top K mg C_Pairs C_Wood C_PartWood X_Absent X_NoWord X_Twice cT PT)  : Fn P w K mg base 1 "_law_feed" ["_law_script"] (spFeed K) := by
  refine T.d_law_feed.ok sc_law_feed bi_law_feed (fun vs H Q E h => ?_) (fun f cdv A outer s H vs Q E hr h => ?_)
  · obtain ⟨a, ns, rfl, hS, hl, k⟩ := h; rfl
  · obtain ⟨a, ns, rfl, hS, hl, k⟩ := h
    have cl_Pairs := T.cl_Pairs
    have na_Pairs_pair_marks := T.na_Pairs_pair_marks
    have na_Pairs_pair_era := T.na_Pairs_pair_era
    have cl_Wood := T.cl_Wood
    have na_Wood_marks := T.na_Wood_marks
    have na_Wood_tops := T.na_Wood_tops
    have na_Wood_now := T.na_Wood_now
    have cl_PartWood := T.cl_PartWood
    have na_PartWood_marks := T.na_PartWood_marks
    have na_PartWood_tops := T.na_PartWood_tops
    have na_PartWood_now := T.na_PartWood_now
    refine ⟨_, (pss_cons (ps_set (i := 1) sc_law_feed.nd rfl (Or.inl rfl) (pe_op op_cat (pe_slice sl_list (pv 0) po_none (po_some (pe_int))) (pe_lst (pa_cons (pe_int) pa_nil))))
    (pss_one (ps_ret (pe_lst (pa_cons (pv 1) (pa_cons (pe_int) (pa_cons (pe_op op_mul (pe_op op_fdiv (pe_ix ix_list (pv 1) (pe_int) (fun _ _ => rfl)) (pe_int)) (pe_op op_mod (pe_ix ix_list (pv 1) (pe_int) (fun _ _ => rfl)) (pe_int))) (pa_cons (pe_int) pa_nil)))))))), ?_⟩
    walk_at "go"
    intro q hq
    obtain ⟨ms, em, lm⟩ := cutV_ints ns none (some 63)
    rw [em]
    have s1 : Same H (upd H q (.lst (ms.map V.int))) := Same.new (Same.refl _) hq
    walk_at "go"
    refine ⟨sz (by simp), fun q2 hq2 => ?_⟩
    have c1 := keepN (u := .lst [.int 0]) (upd_same : upd H q (.lst (ms.map V.int)) q = _) hq2
    have s2 := Same.new (o := .lst [.int 0]) s1 hq2
    walk_at "go"
    refine ⟨q, q2, _, _, rfl, rfl, c1, upd_same, sz (by simp; omega), fun c hc => ?_⟩
    obtain ⟨n0, nr, en, hnr⟩ : ∃ (n0 : Int) (nr : List Int), (ms.map V.int ++ [V.int 0]) = .int n0 :: nr.map V.int ∧ nr.length ≤ 100 := by
      cases ms with
      | nil => exact ⟨0, [], rfl, by simp⟩
      | cons m ms => exact ⟨m, ms ++ [0], by simp, by simp at lm ⊢; omega⟩
    rw [en]
    have c3 : upd (upd (upd H q (.lst (ms.map V.int))) q2 (.lst [.int 0])) c (.lst (.int n0 :: nr.map V.int)) c = _ := upd_same
    have s3 := Same.new (o := .lst (.int n0 :: nr.map V.int)) s2 hc
    have hcH := s2.free hc
    generalize upd (upd (upd H q (.lst (ms.map V.int))) q2 (.lst [.int 0])) c (.lst (.int n0 :: nr.map V.int)) = G at c3 s3 ⊢
    walk_at "go"
    refine s_ixL (SqL.of c3) (atI_nat (j := 0) rfl) ?_
    walk_at "go"
    refine s_ixL (SqL.of c3) (atI_nat (j := 0) rfl) ?_
    walk_at "go"
    refine ⟨sz (by simp), fun p hp => ?_⟩
    exact k p _ (Same.new s3 hp) (s3.free hp) (fun c' _ _ _ e => by rw [upd_same] at e; cases e; exact hcH) ⟨c, n0, nr, _, _, _, upd_same, keepN c3 hp, by omega, by omega, by omega, by omega⟩
theorem ok_law_draw (T : Top K mg C_Pairs C_Wood C_PartWood X_Absent X_NoWord X_Twice cT PT)  : Fn P w K mg base 1 "_law_draw" ["_law_feed_here", "_law_many"] spDraw := by
  refine T.d_law_draw.ok sc_law_draw bi_law_draw (fun vs H Q E h => ?_) (fun f cdv A outer s H vs Q E hr h => ?_)
  · obtain ⟨b, m, d, rfl, ⟨c, n0, nr, x1, x2, x3, hb, hc, hn, h1, h3, h4⟩, hd, hm, hl, k⟩ := h; rfl
  · obtain ⟨b, m, d, rfl, ⟨c, n0, nr, x1, x2, x3, hb, hc, hn, h1, h3, h4⟩, hd, hm, hl, k⟩ := h
    have cl_Pairs := T.cl_Pairs
    have na_Pairs_pair_marks := T.na_Pairs_pair_marks
    have na_Pairs_pair_era := T.na_Pairs_pair_era
    have cl_Wood := T.cl_Wood
    have na_Wood_marks := T.na_Wood_marks
    have na_Wood_tops := T.na_Wood_tops
    have na_Wood_now := T.na_Wood_now
    have cl_PartWood := T.cl_PartWood
    have na_PartWood_marks := T.na_PartWood_marks
    have na_PartWood_tops := T.na_PartWood_tops
    have na_PartWood_now := T.na_PartWood_now
    refine ⟨_, (pss_cons (ps_set (i := 2) sc_law_draw.nd rfl (Or.inl rfl) (pe_ix ix_list (pv 0) (pe_int) (fun _ _ => rfl)))
    (pss_cons (ps_asg (pe_op op_add (pe_ix ix_list (pv 0) (pe_int) (fun _ _ => rfl)) (pe_int)) (pg_sub (pv 0) (pe_int) set_list))
    (Evl.pss_cut (ps_while PassesOwn.never (PW.pt (pw_and (pt_cmpR op_eq (pe_op op_mod (pe_ix ix_list (pv 2) (pe_int) (fun _ _ => rfl)) (pe_int)) (pe_int) (nomark _)) (pw_and (pt_cmpR op_in_seq (pe_ix ix_list (pv 0) (pe_int) (fun _ _ => rfl)) (pe_tup (pa_cons (pe_int) (pa_cons (pe_un un_neg (pe_int)) pa_nil))) rfl) (pw_and1 (pt_cmpR op_lt (pe_op op_add (pe_ix ix_list (pv 0) (pe_int) (fun _ _ => rfl)) (pe_int)) (pe_callB call_len_seq rfl T.n_len (by decide +kernel) (pa_cons (pv 2) pa_nil)) (nomark _)))))) (pss_cons (ps_asg (pe_op op_add (pe_ix ix_list (pv 0) (pe_int) (fun _ _ => rfl)) (pe_int)) (pg_sub (pv 0) (pe_int) set_list))
    (pss_one (ps_asg (pe_ix ix_list (pv 2) (pe_ix ix_list (pv 0) (pe_int) (fun _ _ => rfl)) (fun _ _ => rfl)) (pg_sub (pv 0) (pe_int) set_list)))))
    (pss_cons (ps_if (pt_cmpR op_notIn_seq (pe_ix ix_list (pv 0) (pe_int) (fun _ _ => rfl)) (pe_tup (pa_cons (pe_int) (pa_cons (pe_un un_neg (pe_int)) pa_nil))) rfl) (pss_cons (ps_set (i := 3) sc_law_draw.nd rfl (Or.inl rfl) (pe_op op_mod (pe_ix ix_list (pv 0) (pe_int) (fun _ _ => rfl)) (pv 1)))
    (pss_cons (ps_asg (pe_op op_fdivW (pe_ix ix_list (pv 0) (pe_int) (fun _ _ => rfl)) (pv 1)) (pg_sub (pv 0) (pe_int) set_list))
    (pss_one (ps_ret (pv 3))))) pss_nil)
    (pss_cons (ps_set (i := 4) sc_law_draw.nd rfl (Or.inl rfl) (pe_ix ix_list (pv 0) (pe_int) (fun _ _ => rfl)))
    (pss_cons (ps_set (i := 5) sc_law_draw.nd rfl (Or.inl rfl) (pe_op op_mod (pe_op op_add (pe_op op_add (pe_op op_mul (pe_op op_mod (pe_ix ix_list (pv 2) (pe_op op_mod (pv 4) (pe_callB call_len_seq rfl T.n_len (by decide +kernel) (pa_cons (pv 2) pa_nil))) (fun _ _ => rfl)) (pe_op op_pow (pe_int) (pe_int))) (pe_int)) (pe_op op_mul (pe_op op_mul (pe_int) (pv 4)) (pv 4))) (pe_int)) (pe_int)))
    (pss_one (ps_ret (pe_op op_mod (pe_op op_mod (pe_op op_mod (pe_op op_mul (pe_op op_mod (pe_op op_add (pe_op op_mul (pv 5) (pe_int)) (pv 4)) (pe_int)) (pe_int)) (pe_int)) (pe_int)) (pv 1)))))))))), ?_⟩
    have hbc : c ≠ b := by
      rintro rfl
      rw [hb] at hc; simp at hc
    walk_at "go"
    have hb1 : upd H b (.lst [.ref c, .int x1, .int x2, .int (x3 + 1)]) b = _ := upd_same
    have f1 : But b H (upd H b (.lst [.ref c, .int x1, .int x2, .int (x3 + 1)])) := But.refl.upd
    show Evl.tCut _ _ _ _ (upd H b (.lst [.ref c, .int x1, .int x2, .int (x3 + 1)]))
    generalize upd H b (.lst [.ref c, .int x1, .int x2, .int (x3 + 1)]) = H1 at hb1 f1 ⊢
    refine u_cut (M := fun σ' H' => σ' = [some (.ref b), some (.int m), some (.ref c), none, none, none] ∧ But b H H' ∧ ∃ y1 y2, H' b = some (.lst [.ref c, .int y1, .int y2, .int (x3 + 1)]) ∧ 0 ≤ y1) ?_ ?_
    · refine w_while (fun j σ' H' => σ' = [some (.ref b), some (.int m), some (.ref c), none, none, none] ∧ But b H H' ∧ ∃ y1 y2, H' b = some (.lst [.ref c, .int y1, .int y2, .int (x3 + 1)]) ∧ 0 ≤ y1 ∧ j = (nr.length + 1 - y1).toNat) (nr.length + 1 - x1).toNat ⟨rfl, f1, x1, x2, hb1, h1, rfl⟩ ?_
      rintro j σ' H' ⟨rfl, f2, y1, y2, hb2, hy, hj⟩
      have hc2 := f2 _ _ hbc hc
      walk_at "go"
      refine s_ixL (SqL.of hc2) (atI_nat (j := 0) rfl) ?_
      walk_at "go"
      refine bT (fun g1 => ?_) (fun g1 => ?_)
      · walk_at "go"
        refine ⟨sz (by simp), fun p hp => ?_⟩
        have hb3 := keepN (u := .tup [.int 0, .int (-1)]) hb2 hp
        have hc3 := keepN (u := .tup [.int 0, .int (-1)]) hc2 hp
        have f3 := f2.new (o := .tup [.int 0, .int (-1)]) hp
        have hp3 : upd H' p (.tup [.int 0, .int (-1)]) p = _ := upd_same
        generalize upd H' p (.tup [.int 0, .int (-1)]) = H3 at hb3 hc3 f3 hp3 ⊢
        walk_at "go"
        refine ⟨rfl, rfl, ?_⟩
        walk_at "go"
        refine bT (fun g2 => ?_) (fun g2 => ?_)
        · walk_at "go"
          refine dT (fun g3 => ?_) (fun g3 => ?_)
          · refine w_turn ?_
            simp only [List.length_cons, List.length_map] at g3
            walk_at "go"
            obtain ⟨v, hv⟩ : ∃ v, nr[y1.toNat]? = some v := ⟨nr[y1.toNat]'(by omega), by simp⟩
            refine s_ixL (SqL.of (by rw [upd_ne hbc]; exact hc3)) (v := .int v) (by
              rw [show y1 + 1 = ((y1.toNat + 1 : Nat) : Int) by omega]
              exact atI_nat (by simp [hv])) ?_
            walk_at "go"
            exact ⟨_, by omega, rfl, (f3.upd).upd, _, _, upd_same, by omega, rfl⟩
          · walk_at "go"
            exact ⟨rfl, f3, _, _, hb3, hy⟩
        · walk_at "go"
          exact ⟨rfl, f3, _, _, hb3, hy⟩
      · walk_at "go"
        exact ⟨rfl, f2, _, _, hb2, hy⟩
    · rintro σ' H' ⟨rfl, f2, y1, y2, hb2, hy⟩
      have hc2 := f2 _ _ hbc hc
      walk_at "go"
      refine ⟨sz (by simp), fun p hp => ?_⟩
      have hb3 := keepN (u := .tup [.int 0, .int (-1)]) hb2 hp
      have hc3 := keepN (u := .tup [.int 0, .int (-1)]) hc2 hp
      have f3 := f2.new (o := .tup [.int 0, .int (-1)]) hp
      have hp3 : upd H' p (.tup [.int 0, .int (-1)]) p = _ := upd_same
      generalize upd H' p (.tup [.int 0, .int (-1)]) = H3 at hb3 hc3 f3 hp3 ⊢
      walk_at "go"
      refine ⟨rfl, rfl, ?_⟩
      walk_at "go"
      have hdv : CDivW y2 m := divW hm hl
      refine bT (fun g2 => ?_) (fun g2 => ?_)
      · walk_at "go"
        exact k _ _ (Int.emod_nonneg _ (by omega)) (Int.emod_lt_of_pos _ hm) ⟨c, n0, nr, _, _, _, upd_same, by rw [upd_ne hbc]; exact hc3, hn, hy, by omega, by omega⟩ (ButF.at f3.upd hb upd_same)
      · walk_at "go"
        simp only [List.length_cons, List.length_map]
        refine s_iiC (by omega) ?_
        obtain ⟨v, hv, hvm⟩ := atI_get' (l := V.int n0 :: nr.map V.int) (i := (x3 + 1) % ((nr.length + 1 : Nat) : Int)) (Int.emod_nonneg _ (by omega)) (by
          simp only [List.length_cons, List.length_map]
          exact Int.emod_lt_of_pos _ (by omega))
        obtain ⟨v, rfl⟩ : ∃ i : Int, v = .int i := by
          rcases List.mem_cons.mp hvm with e | e
          · exact ⟨_, e⟩
          · obtain ⟨i, _, e⟩ := List.mem_map.mp e
            exact ⟨i, e.symm⟩
        walk_at "go"
        refine s_ixL (SqL.of hc3) hv ?_
        walk_at "go"
        exact k _ _ (Int.emod_nonneg _ (by omega)) (Int.emod_lt_of_pos _ hm) ⟨c, n0, nr, _, _, _, hb3, hc3, hn, hy, by omega, by omega⟩ (ButF.at f3 hb hb3)
theorem ok_law_is_fit (T : Top K mg C_Pairs C_Wood C_PartWood X_Absent X_NoWord X_Twice cT PT)  : Fn P w K mg base 1 "_law_is_fit" ["_law_text"] spFit := by
  refine T.d_law_is_fit.ok sc_law_is_fit bi_law_is_fit (fun vs H Q E h => ?_) (fun f cdv A outer s H vs Q E hr h => ?_)
  · obtain ⟨s, rfl, hs, k⟩ := h; rfl
  · obtain ⟨s, rfl, hs, k⟩ := h
    have cl_Pairs := T.cl_Pairs
    have na_Pairs_pair_marks := T.na_Pairs_pair_marks
    have na_Pairs_pair_era := T.na_Pairs_pair_era
    have cl_Wood := T.cl_Wood
    have na_Wood_marks := T.na_Wood_marks
    have na_Wood_tops := T.na_Wood_tops
    have na_Wood_now := T.na_Wood_now
    have cl_PartWood := T.cl_PartWood
    have na_PartWood_marks := T.na_PartWood_marks
    have na_PartWood_tops := T.na_PartWood_tops
    have na_PartWood_now := T.na_PartWood_now
    refine ⟨_, (pss_cons (ps_set (i := 1) sc_law_is_fit.nd rfl (Or.inl rfl) (pe_split (pv 0) (pe_str)))
    (pss_one (ps_ret ((pe_and (pe_cmpR op_le (pe_callB call_len_str rfl T.n_len (by decide +kernel) (pa_cons (pv 0) pa_nil)) (pe_int) (nomark _)) (pe_and (pe_cmpR op_le (pe_callB call_len_seq rfl T.n_len (by decide +kernel) (pa_cons (pv 1) pa_nil)) (pe_int) (nomark _)) (pe_one (pe_cmpR op_le (pe_callB (cr_max rfl) rfl T.n_max (by decide +kernel) (pa_cons (pe_lc (own := [("_law_part_here", 2)]) (by rfl) sc_law_is_fit.nd (pi_list (pv 1)) (blkOk_by (own := [("_law_part_here", 2)]) (N := ["_law_text", "_law_parts", "_law_part_here"]) (sc := defScope s_law_is_fit) (by decide +kernel)) (fun _ _ _ _ _ => (pg_name (i := 2) sc_law_is_fit.nd rfl (Or.inl rfl))) (fun _ _ _ _ _ => pts_nil) (fun _ _ _ _ _ => (pe_callB call_len_str rfl T.n_len (by decide +kernel) (pa_cons (pv 2) pa_nil)))) pa_nil)) (pe_int) (nomark _))))))))), ?_⟩
    have hz : s.length ≤ sizeLine := sz hs
    walk_at "go"
    refine ⟨s, _, rfl, rfl, by decide +kernel, by rw [sizeLine_eq]; omega, fun p hp => ?_⟩
    walk_at "go"
    generalize hys : Txt.split s (Str.ofString " ") = ys
    have e := split_blank s
    rw [hys] at e
    have hL : (upd H p (.lst (ys.map V.str))) p = some (.lst (ys.map V.str)) := upd_same
    have sq : Same H (upd H p (.lst (ys.map V.str))) := Same.new (Same.refl H) hp
    generalize (upd H p (.lst (ys.map V.str))) = G at hL sq ⊢
    have hf : fitL (TL.tl s) = (decide (s.length ≤ 24) && (decide (ys.length ≤ 4) && ys.all fun y => decide (y.length ≤ 12))) := by
      unfold fitL
      rw [← e, List.length_map, List.all_map, TL.len_tl]
      congr 2
    have hmem : ∀ y ∈ ys, y.length ≤ sizeLine := fun y hy => by
      obtain ⟨a, b⟩ := split_mem (s := s) (by rw [hys]; exact hy)
      rw [← TL.len_tl, ← TL.len_tl] at a
      omega
    have hne : ys ≠ [] := by
      rintro rfl
      exact spA_ne _ _ e.symm
    refine ⟨s, rfl, hz, ?_⟩
    walk_at "go"
    rw [show decide ((s.length : Int) ≤ 24) = decide (s.length ≤ 24) from decide_eq_decide.mpr (by omega)]
    refine bT (fun h1 => ?_) (fun h1 => ?_)
    · rw [h1, Bool.true_and] at hf
      walk_at "go"
      rw [List.length_map, show decide ((ys.length : Int) ≤ 4) = decide (ys.length ≤ 4) from decide_eq_decide.mpr (by omega)]
      refine bT (fun h2 => ?_) (fun h2 => ?_)
      · rw [h2, Bool.true_and] at hf
        have h2' := of_decide_eq_true h2
        walk_at "go"
        refine ⟨⟨_, SqL.of hL⟩, fun D hD => ?_⟩
        refine lc_list (xs := ys.map V.str) (PvV (resM ys fun y => .int y.length) _ D) (lc_begin hD resM_0) (fun i H' _ p => p.1.seq (SqL.of hL)) ?_ ?_
        · intro i x H' hi pv
          obtain ⟨y, hy, rfl⟩ := map_get hi
          have hm := hmem y (List.mem_of_getElem? hy)
          walk_at "go"
          refine ⟨rfl, ?_⟩
          walk_at "go"
          refine ⟨y, rfl, hm, ?_⟩
          exact lc_put pv hD (Same.refl _) (resM_s hy) (resM_len (by omega))
        · intro H' pv
          rw [List.length_map] at pv
          have hF : H' D = some (.lst ((ys.map fun y => (y.length : Int)).map V.int)) := by rw [pv.2, resM_all rfl, List.map_map]; rfl
          walk_at "go"
          refine ⟨D, _, rfl, SqL.of hF, by
            rw [List.length_map]
            exact List.length_pos_iff.mpr hne, fun m hm hle => ?_⟩
          walk_at "go"
          have : decide (m ≤ 12) = ys.all fun y => decide (y.length ≤ 12) := by
            rw [Bool.eq_iff_iff, decide_eq_true_eq, List.all_eq_true]
            constructor
            · intro h y hy
              have := hle _ (List.mem_map.mpr ⟨y, hy, rfl⟩)
              rw [decide_eq_true_eq]; omega
            · intro h
              obtain ⟨y, hy, e2⟩ := List.mem_map.mp hm
              have := h y hy
              rw [decide_eq_true_eq] at this
              omega
          rw [this, ← hf]
          exact k _ (sq.trans pv.1)
      · rw [h2, Bool.false_and] at hf
        walk_at "go"
        rw [← hf]
        exact k _ sq
    · rw [h1, Bool.false_and] at hf
      walk_at "go"
      rw [← hf]
      exact k _ sq
theorem ok_law_part (T : Top K mg C_Pairs C_Wood C_PartWood X_Absent X_NoWord X_Twice cT PT) (F_law_draw : Fn P w K mg base 1 "_law_draw" ["_law_feed_here", "_law_many"] spDraw) : Fn P w K mg base 2 "_law_part" ["_law_feed_here", "_law_letters"] spPartF := by
  refine T.d_law_part.ok sc_law_part bi_law_part (fun vs H Q E h => ?_) (fun f cdv A outer s H vs Q E hr h => ?_)
  · obtain ⟨b, z, d, rfl, hb, hd, hz, k⟩ := h; rfl
  · obtain ⟨b, z, d, rfl, hb, hd, hz, k⟩ := h
    have cl_Pairs := T.cl_Pairs
    have na_Pairs_pair_marks := T.na_Pairs_pair_marks
    have na_Pairs_pair_era := T.na_Pairs_pair_era
    have cl_Wood := T.cl_Wood
    have na_Wood_marks := T.na_Wood_marks
    have na_Wood_tops := T.na_Wood_tops
    have na_Wood_now := T.na_Wood_now
    have cl_PartWood := T.cl_PartWood
    have na_PartWood_marks := T.na_PartWood_marks
    have na_PartWood_tops := T.na_PartWood_tops
    have na_PartWood_now := T.na_PartWood_now
    refine ⟨_, (pss_cons (ps_set (i := 2) sc_law_part.nd rfl (Or.inl rfl) (pe_ix ix_list (pe_lst (pa_cons (pe_int) (pa_cons (pe_int) (pa_cons (pe_int) (pa_cons (pe_int) (pa_cons (pe_int) (pa_cons (pe_int) pa_nil))))))) (pe_fn F_law_draw (hr.mono (by decide)) passL (pa_cons (pv 0) (pa_cons (pe_int) pa_nil))) (fun _ _ => rfl)))
    (pss_one (ps_ret (pe_join (pe_str) (pe_lc (own := [("_law_k", 3)]) (by rfl) sc_law_part.nd (pi_range1 rfl T.n_range (pa_cons (pv 2) pa_nil)) (blkOk_by (own := [("_law_k", 3)]) (N := ["_law_feed_here", "_law_letters", "_law_size", "_law_k"]) (sc := defScope s_law_part) (by decide +kernel)) (fun _ _ _ _ _ => (pg_name (i := 3) sc_law_part.nd rfl (Or.inl rfl))) (fun _ _ _ _ _ => pts_nil) (fun _ _ _ _ _ => (pe_ix ix_str (pv 1) (pe_fn F_law_draw (hr.mono (by decide)) passL (pa_cons (pv 0) (pa_cons (pe_int) pa_nil))) (fun _ _ => rfl)))))))), ?_⟩
    have hzl : z.length ≤ sizeLine := sz (by rw [TL.len_tl, hz.len]; omega)
    walk_at "go"
    refine ⟨sz (by simp), fun p hp => ?_⟩
    walk_at "go"
    refine use_draw (hb.new hp) (by omega) (by decide) (by decide) fun r1 H1 r10 r11 b1 s1 => ?_
    have hp1 := s1 _ _ (hb.ne hp).symm upd_same
    obtain ⟨n, hn, n0, n1⟩ : ∃ n : Int, atI [V.int 1, V.int 1, V.int 2, V.int 2, V.int 3, V.int 12] r1 = some (.int n) ∧ 1 ≤ n ∧ n ≤ 12 := by
      have : r1 = 0 ∨ r1 = 1 ∨ r1 = 2 ∨ r1 = 3 ∨ r1 = 4 ∨ r1 = 5 := by omega
      rcases this with rfl | rfl | rfl | rfl | rfl | rfl <;> exact ⟨_, rfl, by decide, by decide⟩
    refine s_ixL (SqL.of hp1) hn ?_
    have f1 : ButF b H H1 := (ButF.refl.new hp).trans s1
    walk_at "go"
    refine ⟨by omega, by omega, fun D hD => ?_⟩
    have nDb := (b1.ne hD).symm
    refine lc_range (lo := 0) (n := n.toNat) (fun j H5 => ∃ cs : List Nat, H5 D = some (.lst ((cs.map sgn).map V.str)) ∧ cs.length = j ∧ (∀ c ∈ cs, low c = true) ∧ FeedAt (d + 1 + j) H5 b ∧ ButF b H1 H5) ⟨[], upd_same, rfl, (fun _ h => nomatch h), by simpa using b1.new hD, ButF.refl.new hD⟩ ?_ ?_
    · rintro j H5 hj ⟨cs, e1, e2, e3, e4, e5⟩
      walk_at "go"
      refine ⟨rfl, ?_⟩
      walk_at "go"
      refine use_draw e4 (by omega) (by decide) (by decide) fun r H6 r0 r1 e6 e7 => ?_
      obtain ⟨c, hc, hcm⟩ := atI_get' (l := TL.tl z) r0 (by rw [hz.len]; exact r1)
      refine s_ixS hzl hc ?_
      have e8 := e7 _ _ nDb e1
      refine ⟨_, e8, by rw [List.length_map, List.length_map, sizeLine_eq]; omega, cs ++ [c], by rw [upd_same]; simp [sgn], by simp [e2], ?_, ?_, ?_⟩
      · intro x hx
        rcases List.mem_append.mp hx with hx | hx
        · exact e3 x hx
        · have : x = c := by simpa using hx
          subst this; exact hz.low _ hcm
      · have := e6.upd (o := .lst ((cs.map sgn).map V.str ++ [.str (sgn c)])) (ss := cs.map sgn) e8
        exact this.mono (by omega)
      · exact (e5.trans e7).mut hD
    · rintro H5 ⟨cs, e1, e2, e3, e4, e5⟩
      walk_at "go"
      have hjl : ((cs.map sgn).map (·.length)).sum ≤ (cs.map sgn).length * 1 := sum_len_le fun y hy => by
        obtain ⟨c, _, rfl⟩ := List.mem_map.mp hy
        exact Nat.le_refl _
      rw [List.length_map] at hjl
      refine ⟨_, D, cs.map sgn, rfl, rfl, .inl (SqL.of e1), by rw [TL.len_tl (Str.ofString ""), tl_empty]; simp only [List.length_nil, Nat.mul_zero]; omega, ?_⟩
      exact k _ _ (by rw [tl_join_nil]; exact partL_of e3 (by omega) (by omega)) (e4.mono (by omega)) (f1.trans e5)
theorem ok_law_word (T : Top K mg C_Pairs C_Wood C_PartWood X_Absent X_NoWord X_Twice cT PT) (F_law_draw : Fn P w K mg base 1 "_law_draw" ["_law_feed_here", "_law_many"] spDraw) (F_law_is_fit : Fn P w K mg base 1 "_law_is_fit" ["_law_text"] spFit) (F_law_part : Fn P w K mg base 2 "_law_part" ["_law_feed_here", "_law_letters"] spPartF) : Fn P w K mg base 3 "_law_word" ["_law_feed_here", "_law_words_here", "_law_letters"] (spWordF K) := by
  refine T.d_law_word.ok sc_law_word bi_law_word (fun vs H Q E h => ?_) (fun f cdv A outer s H vs Q E hr h => ?_)
  · obtain ⟨b, a, ss, z, d, rfl, hb, hd, ha, hl, hw, hz, k⟩ := h; rfl
  · obtain ⟨b, a, ss, z, d, rfl, hb, hd, ha, hl, hw, hz, k⟩ := h
    have cl_Pairs := T.cl_Pairs
    have na_Pairs_pair_marks := T.na_Pairs_pair_marks
    have na_Pairs_pair_era := T.na_Pairs_pair_era
    have cl_Wood := T.cl_Wood
    have na_Wood_marks := T.na_Wood_marks
    have na_Wood_tops := T.na_Wood_tops
    have na_Wood_now := T.na_Wood_now
    have cl_PartWood := T.cl_PartWood
    have na_PartWood_marks := T.na_PartWood_marks
    have na_PartWood_tops := T.na_PartWood_tops
    have na_PartWood_now := T.na_PartWood_now
    refine ⟨_, (Evl.pss_cut (ps_if (PW.pt (pw_and (pt_cmpR op_gt (pe_callB call_len_seq rfl T.n_len (by decide +kernel) (pa_cons (pv 1) pa_nil)) (pe_int) (nomark _)) (pw_and1 (pt_cmpR op_eq (pe_fn F_law_draw (hr.mono (by decide)) passL (pa_cons (pv 0) (pa_cons (pe_int) pa_nil))) (pe_int) (nomark _))))) (pss_cons (ps_set (i := 3) sc_law_word.nd rfl (Or.inl rfl) (pe_ix ix_list (pe_lst (pa_cons (pe_ix ix_str (pv 2) (pe_int) (fun _ _ => rfl)) (pa_cons (pe_ix ix_str (pv 2) (pe_int) (fun _ _ => rfl)) (pa_cons (pe_op op_add_str (pe_str) (pe_ix ix_str (pv 2) (pe_int) (fun _ _ => rfl))) pa_nil)))) (pe_fn F_law_draw (hr.mono (by decide)) passL (pa_cons (pv 0) (pa_cons (pe_int) pa_nil))) (fun _ _ => rfl)))
    (pss_cons (ps_set (i := 4) sc_law_word.nd rfl (Or.inl rfl) (pe_op op_add_str (pe_ix ix_list (pv 1) (pe_fn F_law_draw (hr.mono (by decide)) passL (pa_cons (pv 0) (pa_cons (pe_callB call_len_seq rfl T.n_len (by decide +kernel) (pa_cons (pv 1) pa_nil)) pa_nil))) (fun _ _ => rfl)) (pv 3)))
    (pss_one (ps_if (pt_val (pe_fn F_law_is_fit (hr.mono (by decide)) passL (pa_cons (pv 4) pa_nil))) (pss_one (ps_ret (pv 4))) pss_nil)))) pss_nil)
    (pss_cons (ps_setLc (i := 5) (own := [("_law_k", 6)]) (by rfl) sc_law_word.nd rfl rfl (sw_true rfl rfl rfl (by decide +kernel)) (pi_range1 rfl T.n_range (pa_cons (pe_ix ix_list (pe_lst (pa_cons (pe_int) (pa_cons (pe_int) (pa_cons (pe_int) (pa_cons (pe_int) (pa_cons (pe_int) pa_nil)))))) (pe_fn F_law_draw (hr.mono (by decide)) passL (pa_cons (pv 0) (pa_cons (pe_int) pa_nil))) (fun _ _ => rfl)) pa_nil)) (blkOk_by (own := [("_law_k", 6)]) (N := ["_law_feed_here", "_law_words_here", "_law_letters", "_law_more", "_law_longer", "_law_parts", "_law_k"]) (sc := defScope s_law_word) (by decide +kernel)) (fun _ _ _ _ _ => (pg_name (i := 6) sc_law_word.nd rfl (Or.inl rfl))) (fun _ _ _ _ _ => pts_nil) (fun _ _ _ _ _ => (pe_fn F_law_part (hr.mono (by decide)) passL (pa_cons (pv 0) (pa_cons (pv 2) pa_nil)))))
    (Evl.pss_cut (ps_while PassesOwn.never (pt_cmpR op_gt (pe_callB call_len_str rfl T.n_len (by decide +kernel) (pa_cons (pe_join (pe_str) (pv 5)) pa_nil)) (pe_int) (nomark _)) (pss_one (ps_expr (pe_bm0 PySem.F.plainAttrs_list PySem.F.slot_list_pop PySem.F.type_list_pop mt_pop (pv 5)))))
    (pss_one (ps_ret (pe_join (pe_str) (pv 5))))))), ?_⟩
    have hzl : z.length ≤ sizeLine := sz (by rw [TL.len_tl, hz.len]; omega)
    have hab : a ≠ b := hb.nes ha
    walk_at "go"
    refine u_cut (M := fun σ' H' => ∃ v3 v4, σ' = [some (.ref b), some (.ref a), some (.str z), v3, v4, none, none] ∧ FeedAt (d + 10) H' b ∧ ButF b H H') ?_ ?_
    · walk_at "go"
      rw [List.length_map]
      refine dT (fun h0 => ?_) (fun h0 => ?_)
      · walk_at "go"
        refine use_draw hb (by omega) (by decide) (by decide) fun r1 H1 r10 r11 b1 s1 => ?_
        walk_at "go"
        refine bT (fun h1 => ?_) (fun h1 => ?_)
        · walk_at "go"
          obtain ⟨c0, c1, c2, c3, ez⟩ : ∃ c0 c1 c2 c3, TL.tl z = [c0, c1, c2, c3] := by
            have := hz.len
            match hh : TL.tl z, this with
            | [c0, c1, c2, c3], _ => exact ⟨_, _, _, _, rfl⟩
          have ez' : z.cps.toList = [c0, c1, c2, c3] := ez
          have lw : ∀ c ∈ [c0, c1, c2, c3], low c = true := by rw [← ez]; exact hz.low
          refine s_ixS (c := c0) hzl (by rw [ez']; rfl) ?_
          walk_at "go"
          refine s_ixS (c := c2) hzl (by rw [ez']; rfl) ?_
          walk_at "go"
          refine s_ixS (c := c0) hzl (by rw [ez']; rfl) ?_
          walk_at "go"
          refine ⟨_, _, rfl, rfl, sz (by
            show (Str.ofString " ").length + 1 ≤ 1000
            decide +kernel), ?_⟩
          walk_at "go"
          refine ⟨sz (by simp), fun p hp => ?_⟩
          walk_at "go"
          refine use_draw (b1.new hp) (by omega) (by decide) (by decide) fun r2 H2 r20 r21 b2 s2 => ?_
          have hp2 := s2 _ _ (b1.ne hp).symm upd_same
          obtain ⟨m, hm, c, hc, hcm⟩ : ∃ m : Str, atI [V.str ⟨#[c0]⟩, V.str ⟨#[c2]⟩, V.str (Str.ofString " " ++ ⟨#[c0]⟩)] r2 = some (.str m) ∧ ∃ c, low c = true ∧ (TL.tl m = [c] ∨ TL.tl m = [32, c]) := by
            have : r2 = 0 ∨ r2 = 1 ∨ r2 = 2 := by omega
            rcases this with rfl | rfl | rfl
            · exact ⟨_, rfl, c0, lw _ (by simp), .inl rfl⟩
            · exact ⟨_, rfl, c2, lw _ (by simp), .inl rfl⟩
            · exact ⟨_, rfl, c0, lw _ (by simp), .inr (by rw [TL.tl_append, tl_blank]; rfl)⟩
          refine s_ixL (SqL.of hp2) hm ?_
          have f2 : ButF b H H2 := (s1.new hp).trans s2
          have ha2 := f2 _ _ hab ha
          walk_at "go"
          rw [List.length_map]
          refine use_draw b2 (by omega) (by omega) (by omega) fun r3 H3 r30 r31 b3 s3 => ?_
          have ha3 := s3 _ _ hab ha2
          obtain ⟨j, rfl⟩ := Int.eq_ofNat_of_zero_le r30
          have hj : j < ss.length := by omega
          have hone : isW ss[j] = true := hw _ (List.getElem_mem hj)
          refine s_ixL (SqL.of ha3) (atI_nat (j := j) (v := .str ss[j]) (by simp [hj])) ?_
          generalize ss[j] = y at hone ⊢
          have hyl := isW_len hone
          have hml : m.length ≤ 2 := by
            rw [TL.len_tl]
            rcases hcm with e | e <;> rw [e] <;> simp
          walk_at "go"
          refine ⟨_, _, rfl, rfl, sz (by omega), ?_⟩
          walk_at "go"
          refine ⟨_, rfl, by rw [TL.len_tl, TL.tl_append, List.length_append, ← TL.len_tl, ← TL.len_tl]; omega, fun H4 s4 => ?_⟩
          refine ⟨_, rfl, ?_⟩
          have f4 : ButF b H H4 := (f2.trans s3).trans (ButF.of s4)
          have b4 := (b3.same s4).mono (k' := d + 10) (by omega)
          refine bT (fun hf => ?_) (fun hf => ?_)
          · walk_at "go"
            refine k _ H4 ?_ (b4.mono (by omega)) f4
            unfold isW
            rw [TL.tl_append] at hf ⊢
            rcases hcm with e | e
            · rw [e] at hf ⊢; exact longer_word hone hc hf
            · rw [e] at hf ⊢; exact longer_word2 hone hc hf
          · walk_at "go"
            exact ⟨_, _, rfl, b4, f4⟩
        · walk_at "go"
          exact ⟨_, _, rfl, b1.mono (by omega), s1⟩
      · walk_at "go"
        exact ⟨_, _, rfl, hb.mono (by omega), ButF.refl⟩
    · rintro σ' H1 ⟨v3, v4, rfl, b1, s1⟩
      walk_at "go"
      refine ⟨sz (by simp), fun p hp => ?_⟩
      walk_at "go"
      refine use_draw (b1.new hp) (by omega) (by decide) (by decide) fun r2 H2 r20 r21 b2 s2 => ?_
      have hp2 := s2 _ _ (b1.ne hp).symm upd_same
      obtain ⟨n, hn, n0, n1⟩ : ∃ n : Int, atI [V.int 1, V.int 1, V.int 2, V.int 3, V.int 4] r2 = some (.int n) ∧ 1 ≤ n ∧ n ≤ 4 := by
        have : r2 = 0 ∨ r2 = 1 ∨ r2 = 2 ∨ r2 = 3 ∨ r2 = 4 := by omega
        rcases this with rfl | rfl | rfl | rfl | rfl <;> exact ⟨_, rfl, by decide, by decide⟩
      refine s_ixL (SqL.of hp2) hn ?_
      have f2 : ButF b H H2 := (s1.new hp).trans s2
      walk_at "go"
      refine ⟨by omega, by omega, fun D hD => ?_⟩
      have nDb := (b2.ne hD).symm
      have hDH := ButF.free' f2 b2 hD
      refine lc_range (lo := 0) (n := n.toNat) (fun j H5 => ∃ ps : List Str, H5 D = some (.lst (ps.map V.str)) ∧ ps.length = j ∧ (∀ p ∈ ps, partL (TL.tl p) = true) ∧ FeedAt (d + 11 + 20 * j) H5 b ∧ ButF b H2 H5) ⟨[], upd_same, rfl, (fun _ h => nomatch h), (b2.new hD).mono (by omega), ButF.refl.new hD⟩ ?_ ?_
      · rintro j H5 hj ⟨ps, e1, e2, e3, e4, e5⟩
        walk_at "go"
        refine ⟨rfl, ?_⟩
        walk_at "go"
        refine ⟨b, z, _, rfl, e4, by omega, hz, fun s H6 hs e6 e7 => ?_⟩
        have e8 := e7 _ _ nDb e1
        refine ⟨_, e8, by rw [List.length_map, sizeLine_eq]; omega, ps ++ [s], by rw [upd_same]; simp, by simp [e2], ?_, ?_, ?_⟩
        · intro x hx
          rcases List.mem_append.mp hx with hx | hx
          · exact e3 x hx
          · have : x = s := by simpa using hx
            subst this; exact hs
        · have := e6.upd (o := .lst (ps.map V.str ++ [.str s])) (ss := ps) e8
          exact this.mono (by omega)
        · exact (e5.trans e7).mut hD
      · rintro H5 ⟨ps, e1, e2, e3, e4, e5⟩
        walk_at "go"
        have f5 := f2.trans e5
        have b5 : FeedAt (d + 100) H5 b := e4.mono (by omega)
        have jl : ∀ ps : List Str, ps.length ≤ 4 → (∀ p ∈ ps, partL (TL.tl p) = true) → (ps.map (·.length)).sum + ps.length * (Str.ofString " ").length ≤ 16777216 ∧ (Txt.join (Str.ofString " ") ps).length ≤ sizeLine := fun ps h4 hpl => by
          have hps : ∀ p ∈ ps, p.length ≤ 12 := fun p hp => by
            have := hpl p hp
            unfold partL at this
            simp only [Bool.and_eq_true, decide_eq_true_eq] at this
            rw [TL.len_tl]; exact this.1.2
          have hjl : (ps.map (·.length)).sum ≤ ps.length * 12 := sum_len_le hps
          have hj := PySem.StrLaws.join_length_le (Str.ofString " ") ps
          rw [← TL.join_eq, TL.len_tl (Str.ofString " "), tl_blank] at hj
          rw [TL.len_tl (Str.ofString " "), tl_blank]
          simp only [List.length_singleton] at hj ⊢
          exact ⟨by omega, sz (by omega)⟩
        refine u_cut (M := fun σ' H' => ∃ ps : List Str, ∃ v6, σ' = [some (.ref b), some (.ref a), some (.str z), v3, v4, some (.ref D), v6] ∧ H' D = some (.lst (ps.map V.str)) ∧ ps ≠ [] ∧ ps.length ≤ 4 ∧ (∀ p ∈ ps, partL (TL.tl p) = true) ∧ FeedAt (d + 100) H' b ∧ ButF b H H' ∧ (Txt.join (Str.ofString " ") ps).length ≤ 24) ?_ ?_
        · refine w_while (fun m σ' H' => ∃ ps : List Str, ∃ v6, σ' = [some (.ref b), some (.ref a), some (.str z), v3, v4, some (.ref D), v6] ∧ H' D = some (.lst (ps.map V.str)) ∧ ps ≠ [] ∧ ps.length ≤ 4 ∧ (∀ p ∈ ps, partL (TL.tl p) = true) ∧ FeedAt (d + 100) H' b ∧ ButF b H H' ∧ m = ps.length) ps.length ⟨ps, _, rfl, e1, (by rintro rfl; simp at e2; omega), by omega, e3, b5, f5, rfl⟩ ?_
          rintro m σ' H' ⟨qs, v6, rfl, g1, g2, g3, g4, g5, g6, g7⟩
          obtain ⟨j1, j2⟩ := jl qs g3 g4
          walk_at "go"
          refine ⟨_, D, qs, rfl, rfl, .inl (SqL.of g1), j1, ?_⟩
          walk_at "go"
          refine ⟨_, rfl, j2, ?_⟩
          walk_at "go"
          refine dT (fun h => ?_) (fun h => ?_)
          · refine w_turn ?_
            walk_at "go"
            have h2 : 2 ≤ qs.length := by
              match qs, g2, h with
              | [q], _, h =>
                exfalso
                have := g4 q (by simp)
                unfold partL at this
                simp only [Bool.and_eq_true, decide_eq_true_eq] at this
                rw [TL.len_tl, tl_join_blank] at h
                simp only [List.map_cons, List.map_nil, TL.joinL] at h
                omega
              | _ :: _ :: _, _, _ => simp
            obtain ⟨y, hy⟩ : ∃ y, (qs.map V.str)[(qs.map V.str).length - 1]? = some y := ⟨(qs.map V.str)[(qs.map V.str).length - 1]'(by rw [List.length_map]; omega), by simp⟩
            refine ⟨D, _, y, rfl, rfl, g1, hy, ?_⟩
            walk_at "go"
            refine ⟨_, ?_, qs.dropLast, _, rfl, by rw [upd_same, List.map_dropLast], ?_, by simp; omega, fun p hp => g4 p (List.dropLast_subset _ hp), g5.upd g1, g6.mut hDH, rfl⟩
            · rw [g7]; simp; omega
            · intro e
              have := congrArg List.length e
              simp at this; omega
          · walk_at "go"
            exact ⟨qs, _, rfl, g1, g2, g3, g4, g5, g6, by omega⟩
        · rintro σ' H' ⟨qs, v6, rfl, g1, g2, g3, g4, g5, g6, g7⟩
          obtain ⟨j1, j2⟩ := jl qs g3 g4
          walk_at "go"
          refine ⟨_, D, qs, rfl, rfl, .inl (SqL.of g1), j1, ?_⟩
          refine k _ H' ?_ g5 g6
          refine wordL_iff.mpr ⟨qs.map TL.tl, by simpa using g2, by simpa using g3, fun p hp => ?_, tl_join_blank qs, by rw [← TL.len_tl]; exact g7⟩
          obtain ⟨q, hq, rfl⟩ := List.mem_map.mp hp
          exact g4 q hq
theorem ok_law_words (T : Top K mg C_Pairs C_Wood C_PartWood X_Absent X_NoWord X_Twice cT PT) (F_law_draw : Fn P w K mg base 1 "_law_draw" ["_law_feed_here", "_law_many"] spDraw) (F_law_word : Fn P w K mg base 3 "_law_word" ["_law_feed_here", "_law_words_here", "_law_letters"] (spWordF K)) : Fn P w K mg base 4 "_law_words" ["_law_feed_here", "_law_many"] (spWordsF K) := by
  refine T.d_law_words.ok sc_law_words bi_law_words (fun vs H Q E h => ?_) (fun f cdv A outer s H vs Q E hr h => ?_)
  · obtain ⟨b, m, d, rfl, hb, hd, h0, h1, k⟩ := h; rfl
  · obtain ⟨b, m, d, rfl, hb, hd, h0, h1, k⟩ := h
    have cl_Pairs := T.cl_Pairs
    have na_Pairs_pair_marks := T.na_Pairs_pair_marks
    have na_Pairs_pair_era := T.na_Pairs_pair_era
    have cl_Wood := T.cl_Wood
    have na_Wood_marks := T.na_Wood_marks
    have na_Wood_tops := T.na_Wood_tops
    have na_Wood_now := T.na_Wood_now
    have cl_PartWood := T.cl_PartWood
    have na_PartWood_marks := T.na_PartWood_marks
    have na_PartWood_tops := T.na_PartWood_tops
    have na_PartWood_now := T.na_PartWood_now
    refine ⟨_, (pss_cons (ps_set (i := 2) sc_law_words.nd rfl (Or.inl rfl) (pe_fn F_law_draw (hr.mono (by decide)) passL (pa_cons (pv 0) (pa_cons (pe_int) pa_nil))))
    (pss_cons (ps_set (i := 3) sc_law_words.nd rfl (Or.inl rfl) (pe_slice sl_str (pe_str) (po_some (pv 2)) (po_some (pe_op op_add (pv 2) (pe_int)))))
    (pss_cons (ps_set (i := 4) sc_law_words.nd rfl (Or.inl rfl) (pe_op op_add_str (pe_op op_add_str (pe_op op_add_str (pe_ix ix_str (pv 3) (pe_int) (fun _ _ => rfl)) (pe_ix ix_str (pv 3) (pe_int) (fun _ _ => rfl))) (pe_ix ix_str (pv 3) (pe_int) (fun _ _ => rfl))) (pe_ix ix_str (pv 3) (pe_int) (fun _ _ => rfl))))
    (pss_cons (ps_set (i := 5) sc_law_words.nd rfl (Or.inl rfl) (pe_lst pa_nil))
    (pss_cons (ps_for PassesOwn.never rfl (pi_range1 rfl T.n_range (pa_cons (pv 1) pa_nil)) (pg_name (i := 6) sc_law_words.nd rfl (Or.inl rfl)) (pss_cons (ps_set (i := 7) sc_law_words.nd rfl (Or.inl rfl) (pe_fn F_law_word (hr.mono (by decide)) passL (pa_cons (pv 0) (pa_cons (pv 5) (pa_cons (pv 4) pa_nil)))))
    (pss_one (ps_if (pt_cmpR op_notIn_seq (pv 7) (pv 5) rfl) (pss_one (ps_expr (pe_bm PySem.F.plainAttrs_list PySem.F.slot_list_insert PySem.F.type_list_insert mt_insert (pv 5) (pa_cons (pe_fn F_law_draw (hr.mono (by decide)) passL (pa_cons (pv 0) (pa_cons (pe_op op_add (pe_callB call_len_seq rfl T.n_len (by decide +kernel) (pa_cons (pv 5) pa_nil)) (pe_int)) pa_nil))) (pa_cons (pv 7) pa_nil))))) pss_nil))))
    (pss_one (ps_ret (pv 5)))))))), ?_⟩
    walk_at "go"
    refine use_draw hb (by omega) (by decide) (by decide) fun r H1 r0 r1 b1 s1 => ?_
    obtain ⟨i, rfl⟩ := Int.eq_ofNat_of_zero_le r0
    have el : (TL.tl (Str.ofString "zabcdefghijklmnopqrstuvwxyza")).length = 28 := by decide +kernel
    have lw : ∀ c ∈ TL.tl (Str.ofString "zabcdefghijklmnopqrstuvwxyza"), low c = true := by decide +kernel
    walk_at "go"
    refine s_slS (sz (by rw [TL.len_tl, el]; omega)) ?_
    rw [show ((i : Int) + 3) = ((i + 3 : Nat) : Int) by omega]
    have et := tl_cut_mid (z := Str.ofString "zabcdefghijklmnopqrstuvwxyza") (i := i) (j := i + 3) (by omega) (by rw [el]; omega)
    generalize cutS (Str.ofString "zabcdefghijklmnopqrstuvwxyza") (some (i : Int)) (some ((i + 3 : Nat) : Int)) = y at et ⊢
    have ly : (TL.tl y).length = 3 := by
      rw [et, List.length_take, List.length_drop, el]; omega
    have lwy : ∀ c ∈ TL.tl y, low c = true := fun c hc => by
      rw [et] at hc
      exact lw c (List.mem_of_mem_drop (List.mem_of_mem_take hc))
    obtain ⟨c0, c1, c2, ez⟩ : ∃ c0 c1 c2, TL.tl y = [c0, c1, c2] := by
      match hh : TL.tl y, ly with
      | [c0, c1, c2], _ => exact ⟨_, _, _, rfl⟩
    have hyl : y.length ≤ sizeLine := sz (by rw [TL.len_tl, ly]; omega)
    have ez' : y.cps.toList = [c0, c1, c2] := ez
    rw [ez] at lwy
    walk_at "go"
    refine s_ixS (c := c1) hyl (by rw [ez']; rfl) ?_
    walk_at "go"
    refine s_ixS (c := c1) hyl (by rw [ez']; rfl) ?_
    walk_at "go"
    refine ⟨_, _, rfl, rfl, sz (by simp [TL.len_tl, TL.tl]), ?_⟩
    walk_at "go"
    refine s_ixS (c := c2) hyl (by rw [ez']; rfl) ?_
    walk_at "go"
    refine ⟨_, _, rfl, rfl, sz (by simp [TL.len_tl, TL.tl_append, TL.tl]), ?_⟩
    walk_at "go"
    refine s_ixS (c := c0) hyl (by rw [ez']; rfl) ?_
    walk_at "go"
    refine ⟨_, _, rfl, rfl, sz (by simp [TL.len_tl, TL.tl_append, TL.tl]), ?_⟩
    have hz : L4 ((⟨#[c1]⟩ : Str) ++ ⟨#[c1]⟩ ++ ⟨#[c2]⟩ ++ ⟨#[c0]⟩) := by
      have e : TL.tl ((⟨#[c1]⟩ : Str) ++ ⟨#[c1]⟩ ++ ⟨#[c2]⟩ ++ ⟨#[c0]⟩) = [c1, c1, c2, c0] := by
        rw [TL.tl_append, TL.tl_append, TL.tl_append]; rfl
      refine ⟨by rw [e]; rfl, fun c hc => lwy c ?_⟩
      rw [e] at hc
      simp at hc ⊢
      omega
    generalize ((⟨#[c1]⟩ : Str) ++ ⟨#[c1]⟩ ++ ⟨#[c2]⟩ ++ ⟨#[c0]⟩) = z at hz ⊢
    walk_at "go"
    refine ⟨sz (by simp), fun q hq => ?_⟩
    have hqH := ButF.free' s1 b1 hq
    walk_at "go"
    refine ⟨by omega, by omega, for_range (lo := 0) (n := m.toNat) (fun j σ' H' => ∃ (v1 v2 : Option V) (ss : List Str), σ' = [some (.ref b), some (.int m), some (.int (i : Int)), some (.str y), some (.str z), some (.ref q), v1, v2] ∧ H' q = some (.lst (ss.map V.str)) ∧ ss.Nodup ∧ (0 < j → ss ≠ []) ∧ ss.length ≤ j ∧ (∀ s ∈ ss, isW s = true) ∧ FeedAt (d + 1 + 200 * j) H' b ∧ ButF b H H')
      ⟨none, none, [], rfl, upd_same, .nil, fun h => absurd h (by omega), by simp, (fun _ h => nomatch h), by simpa using b1.new hq, s1.new hq⟩ ?_ ?_⟩
    · rintro j σ' H' hj ⟨v1, v2, ss, rfl, hS, hnd, hne, hl, hw, bx, fr⟩
      walk_at "go"
      refine ⟨b, q, ss, z, _, rfl, bx, by omega, hS, by omega, hw, hz, fun s H2 hs b2 s2 => ?_⟩
      have nq := bx.nes hS
      have hS2 := s2 _ _ nq hS
      have fr2 := fr.trans s2
      walk_at "go"
      refine ⟨rfl, flat_strs ss, ?_⟩
      rw [inV_strs]
      walk_at "go"
      refine dF (fun hc => ?_) (fun hc => ?_)
      · walk_at "go"
        rw [List.length_map]
        refine use_draw b2 (by omega) (by omega) (by omega) fun at0 H3 a0 a1 b3 s3 => ?_
        have hS3 := s3 _ _ nq hS2
        have fr3 := fr2.trans s3
        walk_at "go"
        refine ⟨q, _, _, _, rfl, rfl, hS3, by rw [List.length_map, sizeLine_eq]; omega, a0, by omega, ?_⟩
        obtain ⟨a, rfl⟩ := Int.eq_ofNat_of_zero_le a0
        walk_at "go"
        refine ⟨_, _, ss.take a ++ s :: ss.drop a, rfl, by rw [upd_same]; simp, ?_, fun _ => by simp, ?_, ?_, (b3.upd hS3).mono (by omega), fr3.mut hqH⟩
        · have pm : (ss.take a ++ s :: ss.drop a).Perm (s :: ss) := by
            have := List.perm_middle (a := s) (l₁ := ss.take a) (l₂ := ss.drop a)
            rwa [List.take_append_drop] at this
          exact pm.nodup_iff.mpr (List.nodup_cons.mpr ⟨hc, hnd⟩)
        · simp; omega
        · intro x hx
          rcases List.mem_append.mp hx with hx | hx
          · exact hw _ (List.mem_of_mem_take hx)
          · rcases List.mem_cons.mp hx with rfl | hx
            · exact hs
            · exact hw _ (List.mem_of_mem_drop hx)
      · walk_at "go"
        exact ⟨_, _, ss, rfl, hS2, hnd, fun _ => (by rintro rfl; simp at hc), by omega, hw, b2.mono (by omega), fr2⟩
    · rintro σ' H' ⟨v1, v2, ss, rfl, hS, hnd, hne, hl, hw, bx, fr⟩
      walk_at "go"
      exact k q ss H' hS hqH hnd (hne (by omega)) (by omega) hw (bx.mono (by omega)) fr
theorem ok_Wood___init__ (T : Top K mg C_Pairs C_Wood C_PartWood X_Absent X_NoWord X_Twice cT PT)  : FnI P w K mg base 1 C_Wood "Wood" ["self"] (spWInit C_Wood) := by
  refine T.in_Wood.ok sc_Wood___init__ (fun vs H Q E h => ?_) (fun f cdv A outer s H vs Q E hr h => ?_)
  · obtain ⟨p, dx, rfl, hp, k⟩ := h; rfl
  · obtain ⟨p, dx, rfl, hp, k⟩ := h
    have cl_Pairs := T.cl_Pairs
    have na_Pairs_pair_marks := T.na_Pairs_pair_marks
    have na_Pairs_pair_era := T.na_Pairs_pair_era
    have cl_Wood := T.cl_Wood
    have na_Wood_marks := T.na_Wood_marks
    have na_Wood_tops := T.na_Wood_tops
    have na_Wood_now := T.na_Wood_now
    have cl_PartWood := T.cl_PartWood
    have na_PartWood_marks := T.na_PartWood_marks
    have na_PartWood_tops := T.na_PartWood_tops
    have na_PartWood_now := T.na_PartWood_now
    refine ⟨_, (pss_cons (ps_fld (pv 0) (pe_dnewK) rfl)
    (pss_cons (ps_fld (pv 0) (pe_dnewK) rfl)
    (pss_one (ps_fld (pv 0) (pe_int) rfl)))), ?_⟩
    walk_at "go"
    intro dm hdm
    walk_at "go"
    refine s_sfld (keepN hp hdm) cl_Wood na_Wood_marks (by decide) ?_
    walk_at "go"
    intro dt hdt
    walk_at "go"
    have n1 : p ≠ dt := ne_of_none (upd_same : upd (upd H dm (.dK [])) p _ p = _) hdt
    have n0 : p ≠ dm := ne_of_none hp hdm
    have nn : dm ≠ dt := ne_of_none (show upd (upd H dm (.dK [])) p _ dm = some (.dK []) by rw [upd_ne n0.symm, upd_same]) hdt
    refine s_sfld (keepN upd_same hdt) cl_Wood na_Wood_tops (by show 1 < 1000; decide) ?_
    walk_at "go"
    refine s_sfld upd_same cl_Wood na_Wood_now (by
      have := length_putF "tops" (V.ref dt) (putF "marks" (V.ref dm) [])
      have := length_putF "marks" (V.ref dm) []
      simp at *
      omega) ?_
    have hdt0 : H dt = none := by
      have := hdt
      rw [upd_ne n1.symm, upd_ne nn.symm] at this
      exact this
    refine k dm dt _ ⟨⟨⟨dx, upd_same⟩, ⟨_, TD.keep (TD.new (H := H) (p := dm)) ?_, fun _ => .inl ⟨rfl, rfl⟩⟩, ⟨_, [], TD.keep (TD.new (H := H) (p := dt)) ?_, Nat.le_refl _, fun _ => .inl ⟨rfl, rfl⟩⟩, Nat.le_refl _, nn, fun w m e => nomatch e⟩, fun x => .inl ⟨rfl, fun w hw => absurd rfl hw⟩⟩ hdm hdt0 ?_
    · rw [upd_ne n0.symm, upd_ne n0.symm, upd_ne nn, upd_ne n0.symm, upd_same]
    · rw [upd_ne n1.symm, upd_ne n1.symm, upd_same, upd_same]
    · intro b o nb e
      rw [upd_ne nb, upd_ne nb, upd_ne (ne_of_none e hdt0), upd_ne nb, upd_ne (ne_of_none e hdm)]
      exact e
theorem ok_PartWood___init__ (T : Top K mg C_Pairs C_Wood C_PartWood X_Absent X_NoWord X_Twice cT PT)  : FnI P w K mg base 1 C_PartWood "PartWood" ["self"] (spWInit C_PartWood) := by
  refine T.in_PartWood.ok sc_PartWood___init__ (fun vs H Q E h => ?_) (fun f cdv A outer s H vs Q E hr h => ?_)
  · obtain ⟨p, dx, rfl, hp, k⟩ := h; rfl
  · obtain ⟨p, dx, rfl, hp, k⟩ := h
    have cl_Pairs := T.cl_Pairs
    have na_Pairs_pair_marks := T.na_Pairs_pair_marks
    have na_Pairs_pair_era := T.na_Pairs_pair_era
    have cl_Wood := T.cl_Wood
    have na_Wood_marks := T.na_Wood_marks
    have na_Wood_tops := T.na_Wood_tops
    have na_Wood_now := T.na_Wood_now
    have cl_PartWood := T.cl_PartWood
    have na_PartWood_marks := T.na_PartWood_marks
    have na_PartWood_tops := T.na_PartWood_tops
    have na_PartWood_now := T.na_PartWood_now
    refine ⟨_, (pss_cons (ps_fld (pv 0) (pe_dnewK) rfl)
    (pss_cons (ps_fld (pv 0) (pe_dnewK) rfl)
    (pss_one (ps_fld (pv 0) (pe_int) rfl)))), ?_⟩
    walk_at "go"
    intro dm hdm
    walk_at "go"
    refine s_sfld (keepN hp hdm) cl_PartWood na_PartWood_marks (by decide) ?_
    walk_at "go"
    intro dt hdt
    walk_at "go"
    have n1 : p ≠ dt := ne_of_none (upd_same : upd (upd H dm (.dK [])) p _ p = _) hdt
    have n0 : p ≠ dm := ne_of_none hp hdm
    have nn : dm ≠ dt := ne_of_none (show upd (upd H dm (.dK [])) p _ dm = some (.dK []) by rw [upd_ne n0.symm, upd_same]) hdt
    refine s_sfld (keepN upd_same hdt) cl_PartWood na_PartWood_tops (by show 1 < 1000; decide) ?_
    walk_at "go"
    refine s_sfld upd_same cl_PartWood na_PartWood_now (by
      have := length_putF "tops" (V.ref dt) (putF "marks" (V.ref dm) [])
      have := length_putF "marks" (V.ref dm) []
      simp at *
      omega) ?_
    have hdt0 : H dt = none := by
      have := hdt
      rw [upd_ne n1.symm, upd_ne nn.symm] at this
      exact this
    refine k dm dt _ ⟨⟨⟨dx, upd_same⟩, ⟨_, TD.keep (TD.new (H := H) (p := dm)) ?_, fun _ => .inl ⟨rfl, rfl⟩⟩, ⟨_, [], TD.keep (TD.new (H := H) (p := dt)) ?_, Nat.le_refl _, fun _ => .inl ⟨rfl, rfl⟩⟩, Nat.le_refl _, nn, fun w m e => nomatch e⟩, fun x => .inl ⟨rfl, fun w hw => absurd rfl hw⟩⟩ hdm hdt0 ?_
    · rw [upd_ne n0.symm, upd_ne n0.symm, upd_ne nn, upd_ne n0.symm, upd_same]
    · rw [upd_ne n1.symm, upd_ne n1.symm, upd_same, upd_same]
    · intro b o nb e
      rw [upd_ne nb, upd_ne nb, upd_ne (ne_of_none e hdt0), upd_ne nb, upd_ne (ne_of_none e hdm)]
      exact e
theorem ok_Wood_longer_by_one (T : Top K mg C_Pairs C_Wood C_PartWood X_Absent X_NoWord X_Twice cT PT)  : FnM P w K mg base 1 C_Wood "longer_by_one" ["self", "text"] [] (spLonger C_Wood) := by
  refine T.me_Wood_longer_by_one.ok sc_Wood_longer_by_one (fun vs H Q E h => ?_) (fun f cdv A outer s H vs Q E hr h => ?_)
  · obtain ⟨p, dm, dt, A, ks, B, n, N, x, rfl, W, hx, k⟩ := h; rfl
  · obtain ⟨p, dm, dt, A, ks, B, n, N, x, rfl, W, hx, k⟩ := h
    have cl_Pairs := T.cl_Pairs
    have na_Pairs_pair_marks := T.na_Pairs_pair_marks
    have na_Pairs_pair_era := T.na_Pairs_pair_era
    have cl_Wood := T.cl_Wood
    have na_Wood_marks := T.na_Wood_marks
    have na_Wood_tops := T.na_Wood_tops
    have na_Wood_now := T.na_Wood_now
    have cl_PartWood := T.cl_PartWood
    have na_PartWood_marks := T.na_PartWood_marks
    have na_PartWood_tops := T.na_PartWood_tops
    have na_PartWood_now := T.na_PartWood_now
    refine ⟨_, (pss_one (ps_ret (pe_lc (own := [("sign", 2)]) (by rfl) sc_Wood_longer_by_one.nd (pi_str (pe_gstr T.c_SIGNS)) (blkOk_by (own := [("sign", 2)]) (N := ["self", "text", "sign"]) (sc := defScope s_Wood_longer_by_one) (by decide +kernel)) (fun _ _ _ _ _ => (pg_name (i := 2) sc_Wood_longer_by_one.nd rfl (Or.inl rfl))) (fun _ _ _ _ _ => (pts_one (pt_cmp (pc_din (hu_of hr) (pe_op op_add_str (pv 1) (pv 2)) (pe_fldK (K := K) rfl (pv 0) rfl))))) (fun _ _ _ _ _ => (pe_op op_add_str (pv 1) (pv 2)))))), ?_⟩
    obtain ⟨dx, hp⟩ := W.ob
    obtain ⟨val, ks', hT, hk, hM⟩ := W.tp
    have hxc : ∀ c, x.length + (sgn c).length ≤ sizeLine := fun c => by
      show x.length + 1 ≤ sizeLine
      rw [sizeLine_eq]; omega
    walk_at "go"
    intro D hD
    refine lc_it walk_str (PvV (resF signsL (fun c => (B (x ++ sgn c)).isSome) fun c => .str (x ++ sgn c)) H D) (lc_begin hD resF_0) (fun _ _ _ _ => trivial) ?_ ?_
    · rintro i v H' H2 hi pv ⟨rfl, c, hc, rfl⟩
      have hc2 : signsL[i]? = some c := by rw [← signs_text, Array.getElem?_toList]; exact hc
      have hT' := hT.same pv.1
      have hp' := pv.1 _ _ hp
      walk_at "go"
      refine ⟨rfl, ?_⟩
      walk_at "go"
      refine ⟨x, sgn c, rfl, rfl, hxc c, ?_⟩
      walk_at "go"
      rw [hM.none_iff]
      refine bT (fun hb => ?_) (fun hb => ?_)
      · walk_at "go"
        refine ⟨x, sgn c, rfl, rfl, hxc c, ?_⟩
        exact lc_put pv hD (Same.refl _) (resF_y (p := fun c => (B (x ++ sgn c)).isSome) hc2 hb) (resF_len (by decide))
      · exact lc_skip pv (Same.refl _) (resF_n (p := fun c => (B (x ++ sgn c)).isSome) hc2 hb)
    · intro H' pv
      rw [signs_size] at pv
      walk_at "go"
      refine k D H' ?_ hD pv.1
      rw [pv.2, resF_all (by decide)]
      unfold longer
      rw [List.map_map]; rfl
theorem ok_PartWood_longer_by_one (T : Top K mg C_Pairs C_Wood C_PartWood X_Absent X_NoWord X_Twice cT PT)  : FnM P w K mg base 1 C_PartWood "longer_by_one" ["self", "text"] [] (spLonger C_PartWood) := by
  refine T.me_PartWood_longer_by_one.ok sc_PartWood_longer_by_one (fun vs H Q E h => ?_) (fun f cdv A outer s H vs Q E hr h => ?_)
  · obtain ⟨p, dm, dt, A, ks, B, n, N, x, rfl, W, hx, k⟩ := h; rfl
  · obtain ⟨p, dm, dt, A, ks, B, n, N, x, rfl, W, hx, k⟩ := h
    have cl_Pairs := T.cl_Pairs
    have na_Pairs_pair_marks := T.na_Pairs_pair_marks
    have na_Pairs_pair_era := T.na_Pairs_pair_era
    have cl_Wood := T.cl_Wood
    have na_Wood_marks := T.na_Wood_marks
    have na_Wood_tops := T.na_Wood_tops
    have na_Wood_now := T.na_Wood_now
    have cl_PartWood := T.cl_PartWood
    have na_PartWood_marks := T.na_PartWood_marks
    have na_PartWood_tops := T.na_PartWood_tops
    have na_PartWood_now := T.na_PartWood_now
    refine ⟨_, (pss_one (ps_ret (pe_lc (own := [("sign", 2)]) (by rfl) sc_PartWood_longer_by_one.nd (pi_str (pe_gstr T.c_SIGNS)) (blkOk_by (own := [("sign", 2)]) (N := ["self", "text", "sign"]) (sc := defScope s_PartWood_longer_by_one) (by decide +kernel)) (fun _ _ _ _ _ => (pg_name (i := 2) sc_PartWood_longer_by_one.nd rfl (Or.inl rfl))) (fun _ _ _ _ _ => (pts_one (pt_cmp (pc_din (hu_of hr) (pe_op op_add_str (pv 1) (pv 2)) (pe_fldK (K := K) rfl (pv 0) rfl))))) (fun _ _ _ _ _ => (pe_op op_add_str (pv 1) (pv 2)))))), ?_⟩
    obtain ⟨dx, hp⟩ := W.ob
    obtain ⟨val, ks', hT, hk, hM⟩ := W.tp
    have hxc : ∀ c, x.length + (sgn c).length ≤ sizeLine := fun c => by
      show x.length + 1 ≤ sizeLine
      rw [sizeLine_eq]; omega
    walk_at "go"
    intro D hD
    refine lc_it walk_str (PvV (resF signsL (fun c => (B (x ++ sgn c)).isSome) fun c => .str (x ++ sgn c)) H D) (lc_begin hD resF_0) (fun _ _ _ _ => trivial) ?_ ?_
    · rintro i v H' H2 hi pv ⟨rfl, c, hc, rfl⟩
      have hc2 : signsL[i]? = some c := by rw [← signs_text, Array.getElem?_toList]; exact hc
      have hT' := hT.same pv.1
      have hp' := pv.1 _ _ hp
      walk_at "go"
      refine ⟨rfl, ?_⟩
      walk_at "go"
      refine ⟨x, sgn c, rfl, rfl, hxc c, ?_⟩
      walk_at "go"
      rw [hM.none_iff]
      refine bT (fun hb => ?_) (fun hb => ?_)
      · walk_at "go"
        refine ⟨x, sgn c, rfl, rfl, hxc c, ?_⟩
        exact lc_put pv hD (Same.refl _) (resF_y (p := fun c => (B (x ++ sgn c)).isSome) hc2 hb) (resF_len (by decide))
      · exact lc_skip pv (Same.refl _) (resF_n (p := fun c => (B (x ++ sgn c)).isSome) hc2 hb)
    · intro H' pv
      rw [signs_size] at pv
      walk_at "go"
      refine k D H' ?_ hD pv.1
      rw [pv.2, resF_all (by decide)]
      unfold longer
      rw [List.map_map]; rfl
theorem ok_worth_at (T : Top K mg C_Pairs C_Wood C_PartWood X_Absent X_NoWord X_Twice cT PT)  : Fn P w K mg base 1 "worth_at" ["mark", "era"] (spWorth K) := by
  refine T.d_worth_at.ok sc_worth_at bi_worth_at (fun vs H Q E h => ?_) (fun f cdv A outer s H vs Q E hr h => ?_)
  · obtain ⟨t, c, e, n, rfl, ht, h0, k⟩ := h; rfl
  · obtain ⟨t, c, e, n, rfl, ht, h0, k⟩ := h
    have cl_Pairs := T.cl_Pairs
    have na_Pairs_pair_marks := T.na_Pairs_pair_marks
    have na_Pairs_pair_era := T.na_Pairs_pair_era
    have cl_Wood := T.cl_Wood
    have na_Wood_marks := T.na_Wood_marks
    have na_Wood_tops := T.na_Wood_tops
    have na_Wood_now := T.na_Wood_now
    have cl_PartWood := T.cl_PartWood
    have na_PartWood_marks := T.na_PartWood_marks
    have na_PartWood_tops := T.na_PartWood_tops
    have na_PartWood_now := T.na_PartWood_now
    refine ⟨_, (pss_cons (ps_asg (pv 0) (pg_tup rfl (pgs_cons (pg_name (i := 2) sc_worth_at.nd rfl (Or.inl rfl)) (pgs_cons (pg_name (i := 3) sc_worth_at.nd rfl (Or.inl rfl)) pgs_nil))))
    (pss_cons (ps_while PassesOwn.never (PW.pt (pw_and (pt_cmpR op_lt (pv 3) (pv 1) (nomark _)) (pw_and1 (pt_cmpR op_gt (pv 2) (pe_int) (nomark _))))) (pss_cons (ps_set (i := 2) sc_worth_at.nd rfl (Or.inl rfl) (pe_op op_fdiv (pv 2) (pe_int)))
    (pss_one (ps_set (i := 3) sc_worth_at.nd rfl (Or.inl rfl) (pe_op op_add (pv 3) (pe_int))))))
    (pss_one (ps_ret (pv 2))))), ?_⟩
    walk_at "go"
    refine w_while (W := fun m σ' H' => ∃ c' e' : Int, σ' = [some (.ref t), some (.int n), some (.int c'), some (.int e')] ∧ H' = H ∧ 0 ≤ c' ∧ worth c e n = worth c' e' n ∧ m = (n - e').toNat) (n - e).toNat ⟨c, e, rfl, rfl, h0, rfl, rfl⟩ ?_
    rintro m σ' H' ⟨c', e', rfl, rfl, h1, h2, rfl⟩
    walk_at "go"
    refine dT (fun hc => ?_) (fun hc => ?_)
    · walk_at "go"
      refine dT (fun hd => ?_) (fun hd => ?_)
      · walk_at "go"
        refine w_turn ?_
        walk_at "go"
        exact ⟨_, by omega, _, _, rfl, rfl, by omega, by rw [h2, worth_step hc], rfl⟩
      · walk_at "go"
        have : c' = 0 := by omega
        subst this
        rw [worth_zero] at h2
        rw [h2] at k; exact k
    · walk_at "go"
      rw [worth_at_begin (show n ≤ e' by omega)] at h2
      rw [h2] at k; exact k
theorem ok_greatest_at (T : Top K mg C_Pairs C_Wood C_PartWood X_Absent X_NoWord X_Twice cT PT) (F_worth_at : Fn P w K mg base 1 "worth_at" ["mark", "era"] (spWorth K)) : Fn P w K mg base 2 "greatest_at" ["marks", "era"] (spGreat K) := by
  refine T.d_greatest_at.ok sc_greatest_at bi_greatest_at (fun vs H Q E h => ?_) (fun f cdv A outer s H vs Q E hr h => ?_)
  · obtain ⟨p, ms, n, rfl, hM, hl, k0, k1⟩ := h; rfl
  · obtain ⟨p, ms, n, rfl, hM, hl, k0, k1⟩ := h
    have cl_Pairs := T.cl_Pairs
    have na_Pairs_pair_marks := T.na_Pairs_pair_marks
    have na_Pairs_pair_era := T.na_Pairs_pair_era
    have cl_Wood := T.cl_Wood
    have na_Wood_marks := T.na_Wood_marks
    have na_Wood_tops := T.na_Wood_tops
    have na_Wood_now := T.na_Wood_now
    have cl_PartWood := T.cl_PartWood
    have na_PartWood_marks := T.na_PartWood_marks
    have na_PartWood_tops := T.na_PartWood_tops
    have na_PartWood_now := T.na_PartWood_now
    refine ⟨_, (pss_cons (ps_if (pt_cmpR (op_eqD hr.units) (pv 0) (pe_lst pa_nil) (nomark _)) (pss_one (ps_ret (pe_non))) pss_nil)
    (pss_one (ps_ret (pe_callB (cr_max rfl) rfl T.n_max (by decide +kernel) (pa_cons (pe_lc (own := [("mark", 2)]) (by rfl) sc_greatest_at.nd (pi_list (pv 0)) (blkOk_by (own := [("mark", 2)]) (N := ["marks", "era", "mark"]) (sc := defScope s_greatest_at) (by decide +kernel)) (fun _ _ _ _ _ => (pg_name (i := 2) sc_greatest_at.nd rfl (Or.inl rfl))) (fun _ _ _ _ _ => pts_nil) (fun _ _ _ _ _ => (pe_fn F_worth_at (hr.mono (by decide)) passL (pa_cons (pv 2) (pa_cons (pv 1) pa_nil))))) pa_nil))))), ?_⟩
    walk_at "go"
    refine ⟨sz (by simp), fun p0 hp0 => ?_⟩
    have s0 : Same H (upd H p0 (.lst [])) := Same.new (Same.refl H) hp0
    have hM2 := hM.same s0
    refine s_eqD hM2.data (.lst (SqL.of upd_same) .nil) (shaped_of (ok_marks ms)) rfl ?_
    walk_at "go"
    refine bT (fun hc => ?_) (fun hc => ?_)
    · have e : ms = [] := by
        cases ms with
        | nil => rfl
        | cons m ms => simp [dMarks, PyData.eqv, PyData.eqvAll] at hc
      walk_at "go"
      exact k0 e _ s0
    · have e : ms ≠ [] := by
        rintro rfl
        simp [dMarks, PyData.eqv, PyData.eqvAll] at hc
      walk_at "go"
      refine ⟨⟨_, hM2.seq⟩, fun D hD => ?_⟩
      refine lc_list (xs := ms.map mref) (PvV (resM ms fun m => .int (worth m.2.1 m.2.2 n)) _ D) (lc_begin hD resM_0) (fun i H' _ p => p.1.seq hM2.seq) ?_ ?_
      · intro i x H' hi pv
        obtain ⟨m, hm, rfl⟩ := map_get hi
        obtain ⟨ht, h0⟩ := (hM2.same pv.1).tup m (List.mem_of_getElem? hm)
        walk_at "go"
        refine ⟨rfl, ?_⟩
        walk_at "go"
        refine ⟨m.1, m.2.1, m.2.2, n, rfl, ht, h0, ?_⟩
        exact lc_put pv hD (Same.refl _) (resM_s hm) (resM_len (by omega))
      · intro H' pv
        rw [List.length_map] at pv
        walk_at "go"
        have hl2 : H' D = some (.lst ((ms.map fun m => worth m.2.1 m.2.2 n).map V.int)) := by
          rw [pv.2, resM_all rfl, List.map_map]; rfl
        refine ⟨D, ms.map fun m => worth m.2.1 m.2.2 n, rfl, SqL.of hl2, ?_, fun g hg hge => ?_⟩
        · cases ms with
          | nil => exact absurd rfl e
          | cons _ _ => simp
        · obtain ⟨m, hm, rfl⟩ := List.mem_map.mp hg
          exact k1 _ _ (s0.trans pv.1) ⟨m, hm, rfl⟩ fun m' hm' => hge _ (List.mem_map.mpr ⟨m', hm', rfl⟩)
theorem ok_Wood_renew_tops (T : Top K mg C_Pairs C_Wood C_PartWood X_Absent X_NoWord X_Twice cT PT) (F_Wood_longer_by_one : FnM P w K mg base 1 C_Wood "longer_by_one" ["self", "text"] [] (spLonger C_Wood)) (F_greatest_at : Fn P w K mg base 2 "greatest_at" ["marks", "era"] (spGreat K)) : FnM P w K mg base 3 C_Wood "renew_tops" ["self", "word"] [] (spRenew C_Wood) := by
  refine T.me_Wood_renew_tops.ok sc_Wood_renew_tops (fun vs H Q E h => ?_) (fun f cdv A outer s H vs Q E hr h => ?_)
  · obtain ⟨p, dm, dt, A, ks, B, n, N, w, rfl, W, hN, hw, hB, k⟩ := h; rfl
  · obtain ⟨p, dm, dt, A, ks, B, n, N, w, rfl, W, hN, hw, hB, k⟩ := h
    have cl_Pairs := T.cl_Pairs
    have na_Pairs_pair_marks := T.na_Pairs_pair_marks
    have na_Pairs_pair_era := T.na_Pairs_pair_era
    have cl_Wood := T.cl_Wood
    have na_Wood_marks := T.na_Wood_marks
    have na_Wood_tops := T.na_Wood_tops
    have na_Wood_now := T.na_Wood_now
    have cl_PartWood := T.cl_PartWood
    have na_PartWood_marks := T.na_PartWood_marks
    have na_PartWood_tops := T.na_PartWood_tops
    have na_PartWood_now := T.na_PartWood_now
    refine ⟨_, (pss_one (ps_for PassesOwn.never rfl (pi_range3 rfl T.n_range (pa_cons (pe_callB call_len_str rfl T.n_len (by decide +kernel) (pa_cons (pv 1) pa_nil)) (pa_cons (pe_un un_neg (pe_int)) (pa_cons (pe_un un_neg (pe_int)) pa_nil)))) (pg_name (i := 2) sc_Wood_renew_tops.nd rfl (Or.inl rfl)) (pss_cons (ps_set (i := 3) sc_Wood_renew_tops.nd rfl (Or.inl rfl) (pe_slice sl_str (pv 1) po_none (po_some (pv 2))))
    (pss_cons (ps_setLc (i := 4) (own := [("other", 5)]) (by rfl) sc_Wood_renew_tops.nd rfl rfl (sw_true rfl rfl rfl (by decide +kernel)) (pi_list (pe_mth F_Wood_longer_by_one (hr.mono (by decide)) passL (pv 0) (pa_cons (pv 3) pa_nil))) (blkOk_by (own := [("other", 5)]) (N := ["self", "word", "size", "text", "behind", "other"]) (sc := defScope s_Wood_renew_tops) (by decide +kernel)) (fun _ _ _ _ _ => (pg_name (i := 5) sc_Wood_renew_tops.nd rfl (Or.inl rfl))) (fun _ _ _ _ _ => pts_nil) (fun _ _ _ _ _ => (pe_dget (hu_of hr) (pe_fldK (K := K) rfl (pv 0) rfl) (pv 5) (fun _ _ => rfl))))
    (Evl.pss_cut (ps_if (pt_cmp (pc_din (hu_of hr) (pv 3) (pe_fld (pv 0) rfl))) (pss_one (ps_expr (pe_bm PySem.F.plainAttrs_list PySem.F.slot_list_append PySem.F.type_list_append mt_append (pv 4) (pa_cons (pe_dget (hu_of hr) (pe_fld (pv 0) rfl) (pv 3) (fun _ _ => rfl)) pa_nil)))) pss_nil)
    (pss_one (ps_if (pt_cmpR (op_eqD hr.units) (pv 4) (pe_lst pa_nil) (nomark _)) (pss_one (ps_expr (pe_dpop2 (pe_fld (pv 0) rfl) (pv 3) (pe_non) ⟨rfl, rfl, rfl, rfl⟩))) (pss_one (ps_dput (hu_of hr) (pe_fld (pv 0) rfl) (pv 3) (pe_tup (pa_cons (pe_fn F_greatest_at (hr.mono (by decide)) passL (pa_cons (pv 4) (pa_cons (pe_fld (pv 0) rfl) pa_nil))) (pa_cons (pe_fld (pv 0) rfl) pa_nil))) rfl))))))))), ?_⟩
    have hlen := isW_len hw
    have hwl : w.length ≤ sizeLine := sz (by omega)
    have hw1000 : (TL.tl w).length ≤ 24 := by rw [← TL.len_tl]; omega
    walk_at "go"
    refine ⟨w, rfl, hwl, ?_⟩
    walk_at "go"
    refine ⟨_, _, _, _, rfl, RgC.neg (by omega) (by omega) (by decide) (by decide), for_rangeC (fun i σ' H' => ∃ (v2 v3 v4 v5 : Option V) (B' : MarkM), σ' = [some (.ref p), some (.str w), v2, v3, v4, v5] ∧ WoodP C_Wood H' p dm dt A ks B' n (N + i) ∧ Off p dm dt H H' ∧ ∀ y, (TL.tl y <+: TL.tl w → (TL.tl w).length < (TL.tl y).length + i) → TopAt A B' n y)
      ⟨none, none, none, none, B, rfl, W, fun _ _ _ _ _ e => e, fun y hy => hB y fun pf => by have := hy pf; have := pf.length_le; omega⟩ ?_ ?_⟩
    · rintro i σ' H1 hi ⟨v2, v3, v4, v5, B1, rfl, W1, f1, hB1⟩
      rw [TL.len_tl] at hi
      have hi2 : i ≤ (TL.tl w).length := by omega
      obtain ⟨dx, hp⟩ := W1.ob
      walk_at "go"
      refine s_slS hwl ?_
      have hx : TL.tl (cutS w none (some ((w.length : Int) + (i : Int) * -1))) = (TL.tl w).take ((TL.tl w).length - i) := by
        rw [tl_cut_to (by rw [TL.len_tl]; omega)]
        congr 1
        rw [TL.len_tl]; omega
      generalize cutS w none (some ((w.length : Int) + (i : Int) * -1)) = x at hx ⊢
      have hxl : x.length ≤ 1000 := by rw [TL.len_tl, hx, List.length_take]; omega
      walk_at "go"
      refine ⟨p, dm, dt, A, ks, B1, n, N + i, x, rfl, W1, hxl, fun q H2 hq hqn s2 => ?_⟩
      have W2 := W1.same s2
      have hp2 := s2 _ _ hp
      obtain ⟨val, ks', hT, hk, hM⟩ := W2.tp
      walk_at "go"
      refine ⟨⟨_, SqL.of hq⟩, fun D hD => ?_⟩
      refine lc_list (xs := (longer B1 x).map V.str) (PvV (resM (longer B1 x) fun y => (val y).getD .non) H2 D) (lc_begin hD resM_0) (fun i H' _ p => p.1.seq (SqL.of hq)) ?_ ?_
      · intro j v H' hj pv
        obtain ⟨y, hy, rfl⟩ := map_get hj
        have hT' := hT.same pv.1
        have hp' := pv.1 _ _ hp2
        obtain ⟨c, _, hs, rfl⟩ := mem_longer.mp (List.mem_of_getElem? hy)
        obtain ⟨m, hm⟩ := Option.isSome_iff_exists.mp hs
        obtain ⟨t, e1, e2⟩ := hM.some hm
        walk_at "go"
        refine ⟨rfl, ?_⟩
        walk_at "go"
        refine s_dget hT' e1 ?_
        exact lc_put pv hD (Same.refl _) (by rw [resM_s hy, e1]; rfl) (resM_len (Nat.le_trans longer_len (by decide)))
      intro H3 pv
      rw [List.length_map] at pv
      obtain ⟨bs0, hb1, hb2, hb3, hb4⟩ := behind_list (x := x) hM
      have hD3 : H3 D = some (.lst (bs0.map mref)) := by rw [pv.2, resM_all rfl, hb1]
      have s3 := pv.1
      clear pv
      have W3 := W2.same s3
      have hp3 := s3 _ _ hp2
      have hb2' : ∀ b ∈ bs0, H3 b.1 = some (.tup [.int b.2.1, .int b.2.2]) := fun b hb => s3 _ _ (hb2 b hb)
      obtain ⟨valm, hTm, hMm⟩ := W3.ma
      walk_at "go"
      refine u_cut (M := fun σ' H' => ∃ bs : List (Addr × Int × Int), σ' = [some (.ref p), some (.str w), some (.int ((w.length : Int) + (i : Int) * -1)), some (.str x), some (.ref D), v5] ∧ Same H2 H' ∧ H' D = some (.lst (bs.map mref)) ∧ bs.length ≤ 28 ∧
          (∀ b ∈ bs, H' b.1 = some (.tup [.int b.2.1, .int b.2.2])) ∧ ∀ m, m ∈ bs.map (·.2) ↔ ((∃ c ∈ signsL, B1 (x ++ sgn c) = some m) ∨ A x = some m)) ?_ ?_
      · walk_at "go"
        rw [hMm.none_iff]
        cases hA : A x with
        | none =>
          rw [show (none : Option (Int × Int)).isSome = false from rfl]
          walk_at "go"
          exact ⟨bs0, rfl, s3, hD3, by omega, hb2', fun m => by rw [hb3]; simp⟩
        | some m =>
          obtain ⟨t, e1, e2⟩ := hMm.some hA
          rw [show (some m : Option (Int × Int)).isSome = true from rfl]
          walk_at "go"
          refine s_dget hTm e1 ?_
          walk_at "go"
          refine s_app hD3 (by rw [List.length_map, sizeLine_eq]; omega) ?_
          walk_at "go"
          have kt : ∀ t zs, H3 t = some (.tup zs) → upd H3 D (.lst (bs0.map mref ++ [.ref t])) t = some (.tup zs) := fun t zs e => by
            rw [upd_ne (by rintro rfl; rw [hD3] at e; cases e)]; exact e
          refine ⟨bs0 ++ [(t, m)], rfl, Same.mut s3 hD, by rw [upd_same, List.map_append]; rfl, by simp; omega, fun b hb => ?_, fun m' => ?_⟩
          · rcases List.mem_append.mp hb with hb | hb
            · rw [upd_ne (by rintro rfl; have := hb2' b hb; rw [hD3] at this; cases this)]; exact hb2' b hb
            · have : b = (t, m) := by simpa using hb
              subst this
              rw [upd_ne (by rintro rfl; rw [hD3] at e2; cases e2)]; exact e2
          · rw [List.map_append, List.mem_append, hb3]
            simp [eq_comm]
      · rintro σ' H4 ⟨bs, rfl, s4, hD4, hl4, hb4, hm4⟩
        have W4 := W2.same s4
        have f4 : Off p dm dt H H4 := f1.trans (Off.of (s2.trans s4))
        have hp4 := s4 _ _ hp2
        have hct := child_top hB1 hx hi2
        have hTN := top_new W4.ok (fun c _ => hct c) hm4
        have hpos : ∀ b ∈ bs, 0 ≤ b.2.1 := fun b hb => by
          rcases (hm4 b.2).mp (List.mem_map.mpr ⟨b, hb, rfl⟩) with ⟨c, hc, e⟩ | e
          · rcases hct c with ⟨h, _⟩ | ⟨m, h1, h2, _⟩
            · rw [h] at e; cases e
            · rw [h1] at e; cases e; exact h2
          · exact (W4.ok _ _ e).2.1
        have hMA : ∀ G, Same H4 G → MarksAt K G D bs := fun G s => ⟨SqL.of (s _ _ hD4), fun b hb => ⟨SqT.of (s _ _ (hb4 b hb)), hpos b hb⟩⟩
        walk_at "go"
        refine ⟨sz (by simp), fun e he => ?_⟩
        have s5 : Same H4 (upd H4 e (.lst [])) := Same.new (Same.refl _) he
        have W5 := W4.same s5
        have hp5 := s5 _ _ hp4
        have he5 : upd H4 e (.lst []) e = some (.lst []) := upd_same
        have f5 := f4.trans (Off.of s5)
        have hM5 := hMA _ s5
        generalize upd H4 e (.lst []) = H5 at s5 W5 hp5 he5 f5 hM5 ⊢
        walk_at "go"
        refine s_eqD hM5.data (.lst (SqL.of he5) .nil) (shaped_of (ok_marks bs)) rfl ?_
        obtain ⟨val5, ks5, hT5, hk5, hV5⟩ := W5.tp
        walk_at "go"
        refine bT (fun hc => ?_) (fun hc => ?_)
        · have eb : bs = [] := by
            cases bs with
            | nil => rfl
            | cons m ms => simp [dMarks, PyData.eqv, PyData.eqvAll] at hc
          walk_at "go"
          refine s_dpop2 (w := x) (z := .non) hT5 (fun R r => s_var rfl r) (fun R r => r) fun v H6 hH6 hT6 => ?_
          walk_at "go"
          have hN' := next_tops (B2 := delm B1 x) hB1 hx hi2 (hTN.1 (by rw [eb]; rfl)) (fun y hy => by unfold delm; rw [if_neg hy])
          rcases hH6 with rfl | ⟨o, rfl⟩
          · exact ⟨_, _, _, _, delm B1 x, rfl, ⟨W5.ob, W5.ma, ⟨_, _, hT6, Nat.le_trans (remK_len _ _) (by omega), hV5.del⟩, by have := W5.kl; omega, W5.ne, W5.ok⟩, f5, hN'⟩
          · refine ⟨_, _, _, _, delm B1 x, rfl, W5.tset hT6 hV5.del (Nat.le_trans (remK_len _ _) (by omega)) (by omega), f5.trans (fun a u h1 h2 h3 e => by rw [upd_ne h3]; exact e), hN'⟩
        · have eb : bs ≠ [] := by
            rintro rfl
            simp [dMarks, PyData.eqv, PyData.eqvAll] at hc
          walk_at "go"
          refine ⟨D, bs, n, rfl, hM5, by omega, fun e => absurd e eb, fun g H6 s6 hg hge => ?_⟩
          have W6 := W5.same s6
          have hp6 := s6 _ _ hp5
          walk_at "go"
          refine ⟨sz (by simp), fun t ht => ?_⟩
          have s7 : Same H6 (upd H6 t (.tup [.int g, .int n])) := Same.new (Same.refl _) ht
          have W7 := W6.same s7
          have hp7 := s7 _ _ hp6
          have ht7 : upd H6 t (.tup [.int g, .int n]) t = some (.tup [.int g, .int n]) := upd_same
          have f7 := f5.trans (Off.of (s6.trans s7))
          generalize upd H6 t (.tup [.int g, .int n]) = H7 at s7 W7 hp7 ht7 f7 ⊢
          obtain ⟨val7, ks7, hT7, hk7, hV7⟩ := W7.tp
          walk_at "go"
          refine s_dput hT7 (by omega) fun o hT8 => ?_
          have hg' : ∃ m ∈ bs.map (·.2), g = wn m n := by
            obtain ⟨b, hb, e⟩ := hg
            exact ⟨b.2, List.mem_map.mpr ⟨b, hb, rfl⟩, e⟩
          have hN' := next_tops (B2 := setm B1 x (g, n)) hB1 hx hi2 (hTN.2 g hg' (fun m hm => by
            obtain ⟨b, hb, rfl⟩ := List.mem_map.mp hm
            exact hge b hb)) (fun y hy => by unfold setm; rw [if_neg hy])
          exact ⟨_, _, _, _, setm B1 x (g, n), rfl, W7.tset hT8 (hV7.set ht7) (Nat.le_trans (addK_len _ _) (by omega)) (by omega), f7.trans (fun a u h1 h2 h3 e => by rw [upd_ne h3]; exact e), hN'⟩
    · rintro σ' H1 ⟨v2, v3, v4, v5, B1, rfl, W1, f1, hB1⟩
      walk_at "go"
      rw [show ((w.length : Int) - -1).toNat = w.length + 1 by omega] at W1 hB1
      refine k B1 H1 ⟨W1.mono (by omega), fun y => hB1 y fun _ => by rw [TL.len_tl]; omega⟩ f1
theorem ok_PartWood_renew_tops (T : Top K mg C_Pairs C_Wood C_PartWood X_Absent X_NoWord X_Twice cT PT) (F_PartWood_longer_by_one : FnM P w K mg base 1 C_PartWood "longer_by_one" ["self", "text"] [] (spLonger C_PartWood)) (F_greatest_at : Fn P w K mg base 2 "greatest_at" ["marks", "era"] (spGreat K)) : FnM P w K mg base 3 C_PartWood "renew_tops" ["self", "word"] [] (spRenew C_PartWood) := by
  refine T.me_PartWood_renew_tops.ok sc_PartWood_renew_tops (fun vs H Q E h => ?_) (fun f cdv A outer s H vs Q E hr h => ?_)
  · obtain ⟨p, dm, dt, A, ks, B, n, N, w, rfl, W, hN, hw, hB, k⟩ := h; rfl
  · obtain ⟨p, dm, dt, A, ks, B, n, N, w, rfl, W, hN, hw, hB, k⟩ := h
    have cl_Pairs := T.cl_Pairs
    have na_Pairs_pair_marks := T.na_Pairs_pair_marks
    have na_Pairs_pair_era := T.na_Pairs_pair_era
    have cl_Wood := T.cl_Wood
    have na_Wood_marks := T.na_Wood_marks
    have na_Wood_tops := T.na_Wood_tops
    have na_Wood_now := T.na_Wood_now
    have cl_PartWood := T.cl_PartWood
    have na_PartWood_marks := T.na_PartWood_marks
    have na_PartWood_tops := T.na_PartWood_tops
    have na_PartWood_now := T.na_PartWood_now
    refine ⟨_, (pss_one (ps_for PassesOwn.never rfl (pi_range3 rfl T.n_range (pa_cons (pe_callB call_len_str rfl T.n_len (by decide +kernel) (pa_cons (pv 1) pa_nil)) (pa_cons (pe_un un_neg (pe_int)) (pa_cons (pe_un un_neg (pe_int)) pa_nil)))) (pg_name (i := 2) sc_PartWood_renew_tops.nd rfl (Or.inl rfl)) (pss_cons (ps_set (i := 3) sc_PartWood_renew_tops.nd rfl (Or.inl rfl) (pe_slice sl_str (pv 1) po_none (po_some (pv 2))))
    (pss_cons (ps_setLc (i := 4) (own := [("other", 5)]) (by rfl) sc_PartWood_renew_tops.nd rfl rfl (sw_true rfl rfl rfl (by decide +kernel)) (pi_list (pe_mth F_PartWood_longer_by_one (hr.mono (by decide)) passL (pv 0) (pa_cons (pv 3) pa_nil))) (blkOk_by (own := [("other", 5)]) (N := ["self", "word", "size", "text", "behind", "other"]) (sc := defScope s_PartWood_renew_tops) (by decide +kernel)) (fun _ _ _ _ _ => (pg_name (i := 5) sc_PartWood_renew_tops.nd rfl (Or.inl rfl))) (fun _ _ _ _ _ => pts_nil) (fun _ _ _ _ _ => (pe_dget (hu_of hr) (pe_fldK (K := K) rfl (pv 0) rfl) (pv 5) (fun _ _ => rfl))))
    (Evl.pss_cut (ps_if (pt_cmp (pc_din (hu_of hr) (pv 3) (pe_fld (pv 0) rfl))) (pss_one (ps_expr (pe_bm PySem.F.plainAttrs_list PySem.F.slot_list_append PySem.F.type_list_append mt_append (pv 4) (pa_cons (pe_dget (hu_of hr) (pe_fld (pv 0) rfl) (pv 3) (fun _ _ => rfl)) pa_nil)))) pss_nil)
    (pss_one (ps_if (pt_cmpR (op_eqD hr.units) (pv 4) (pe_lst pa_nil) (nomark _)) (pss_one (ps_expr (pe_dpop2 (pe_fld (pv 0) rfl) (pv 3) (pe_non) ⟨rfl, rfl, rfl, rfl⟩))) (pss_one (ps_dput (hu_of hr) (pe_fld (pv 0) rfl) (pv 3) (pe_tup (pa_cons (pe_fn F_greatest_at (hr.mono (by decide)) passL (pa_cons (pv 4) (pa_cons (pe_fld (pv 0) rfl) pa_nil))) (pa_cons (pe_fld (pv 0) rfl) pa_nil))) rfl))))))))), ?_⟩
    have hlen := isW_len hw
    have hwl : w.length ≤ sizeLine := sz (by omega)
    have hw1000 : (TL.tl w).length ≤ 24 := by rw [← TL.len_tl]; omega
    walk_at "go"
    refine ⟨w, rfl, hwl, ?_⟩
    walk_at "go"
    refine ⟨_, _, _, _, rfl, RgC.neg (by omega) (by omega) (by decide) (by decide), for_rangeC (fun i σ' H' => ∃ (v2 v3 v4 v5 : Option V) (B' : MarkM), σ' = [some (.ref p), some (.str w), v2, v3, v4, v5] ∧ WoodP C_PartWood H' p dm dt A ks B' n (N + i) ∧ Off p dm dt H H' ∧ ∀ y, (TL.tl y <+: TL.tl w → (TL.tl w).length < (TL.tl y).length + i) → TopAt A B' n y)
      ⟨none, none, none, none, B, rfl, W, fun _ _ _ _ _ e => e, fun y hy => hB y fun pf => by have := hy pf; have := pf.length_le; omega⟩ ?_ ?_⟩
    · rintro i σ' H1 hi ⟨v2, v3, v4, v5, B1, rfl, W1, f1, hB1⟩
      rw [TL.len_tl] at hi
      have hi2 : i ≤ (TL.tl w).length := by omega
      obtain ⟨dx, hp⟩ := W1.ob
      walk_at "go"
      refine s_slS hwl ?_
      have hx : TL.tl (cutS w none (some ((w.length : Int) + (i : Int) * -1))) = (TL.tl w).take ((TL.tl w).length - i) := by
        rw [tl_cut_to (by rw [TL.len_tl]; omega)]
        congr 1
        rw [TL.len_tl]; omega
      generalize cutS w none (some ((w.length : Int) + (i : Int) * -1)) = x at hx ⊢
      have hxl : x.length ≤ 1000 := by rw [TL.len_tl, hx, List.length_take]; omega
      walk_at "go"
      refine ⟨p, dm, dt, A, ks, B1, n, N + i, x, rfl, W1, hxl, fun q H2 hq hqn s2 => ?_⟩
      have W2 := W1.same s2
      have hp2 := s2 _ _ hp
      obtain ⟨val, ks', hT, hk, hM⟩ := W2.tp
      walk_at "go"
      refine ⟨⟨_, SqL.of hq⟩, fun D hD => ?_⟩
      refine lc_list (xs := (longer B1 x).map V.str) (PvV (resM (longer B1 x) fun y => (val y).getD .non) H2 D) (lc_begin hD resM_0) (fun i H' _ p => p.1.seq (SqL.of hq)) ?_ ?_
      · intro j v H' hj pv
        obtain ⟨y, hy, rfl⟩ := map_get hj
        have hT' := hT.same pv.1
        have hp' := pv.1 _ _ hp2
        obtain ⟨c, _, hs, rfl⟩ := mem_longer.mp (List.mem_of_getElem? hy)
        obtain ⟨m, hm⟩ := Option.isSome_iff_exists.mp hs
        obtain ⟨t, e1, e2⟩ := hM.some hm
        walk_at "go"
        refine ⟨rfl, ?_⟩
        walk_at "go"
        refine s_dget hT' e1 ?_
        exact lc_put pv hD (Same.refl _) (by rw [resM_s hy, e1]; rfl) (resM_len (Nat.le_trans longer_len (by decide)))
      intro H3 pv
      rw [List.length_map] at pv
      obtain ⟨bs0, hb1, hb2, hb3, hb4⟩ := behind_list (x := x) hM
      have hD3 : H3 D = some (.lst (bs0.map mref)) := by rw [pv.2, resM_all rfl, hb1]
      have s3 := pv.1
      clear pv
      have W3 := W2.same s3
      have hp3 := s3 _ _ hp2
      have hb2' : ∀ b ∈ bs0, H3 b.1 = some (.tup [.int b.2.1, .int b.2.2]) := fun b hb => s3 _ _ (hb2 b hb)
      obtain ⟨valm, hTm, hMm⟩ := W3.ma
      walk_at "go"
      refine u_cut (M := fun σ' H' => ∃ bs : List (Addr × Int × Int), σ' = [some (.ref p), some (.str w), some (.int ((w.length : Int) + (i : Int) * -1)), some (.str x), some (.ref D), v5] ∧ Same H2 H' ∧ H' D = some (.lst (bs.map mref)) ∧ bs.length ≤ 28 ∧
          (∀ b ∈ bs, H' b.1 = some (.tup [.int b.2.1, .int b.2.2])) ∧ ∀ m, m ∈ bs.map (·.2) ↔ ((∃ c ∈ signsL, B1 (x ++ sgn c) = some m) ∨ A x = some m)) ?_ ?_
      · walk_at "go"
        rw [hMm.none_iff]
        cases hA : A x with
        | none =>
          rw [show (none : Option (Int × Int)).isSome = false from rfl]
          walk_at "go"
          exact ⟨bs0, rfl, s3, hD3, by omega, hb2', fun m => by rw [hb3]; simp⟩
        | some m =>
          obtain ⟨t, e1, e2⟩ := hMm.some hA
          rw [show (some m : Option (Int × Int)).isSome = true from rfl]
          walk_at "go"
          refine s_dget hTm e1 ?_
          walk_at "go"
          refine s_app hD3 (by rw [List.length_map, sizeLine_eq]; omega) ?_
          walk_at "go"
          have kt : ∀ t zs, H3 t = some (.tup zs) → upd H3 D (.lst (bs0.map mref ++ [.ref t])) t = some (.tup zs) := fun t zs e => by
            rw [upd_ne (by rintro rfl; rw [hD3] at e; cases e)]; exact e
          refine ⟨bs0 ++ [(t, m)], rfl, Same.mut s3 hD, by rw [upd_same, List.map_append]; rfl, by simp; omega, fun b hb => ?_, fun m' => ?_⟩
          · rcases List.mem_append.mp hb with hb | hb
            · rw [upd_ne (by rintro rfl; have := hb2' b hb; rw [hD3] at this; cases this)]; exact hb2' b hb
            · have : b = (t, m) := by simpa using hb
              subst this
              rw [upd_ne (by rintro rfl; rw [hD3] at e2; cases e2)]; exact e2
          · rw [List.map_append, List.mem_append, hb3]
            simp [eq_comm]
      · rintro σ' H4 ⟨bs, rfl, s4, hD4, hl4, hb4, hm4⟩
        have W4 := W2.same s4
        have f4 : Off p dm dt H H4 := f1.trans (Off.of (s2.trans s4))
        have hp4 := s4 _ _ hp2
        have hct := child_top hB1 hx hi2
        have hTN := top_new W4.ok (fun c _ => hct c) hm4
        have hpos : ∀ b ∈ bs, 0 ≤ b.2.1 := fun b hb => by
          rcases (hm4 b.2).mp (List.mem_map.mpr ⟨b, hb, rfl⟩) with ⟨c, hc, e⟩ | e
          · rcases hct c with ⟨h, _⟩ | ⟨m, h1, h2, _⟩
            · rw [h] at e; cases e
            · rw [h1] at e; cases e; exact h2
          · exact (W4.ok _ _ e).2.1
        have hMA : ∀ G, Same H4 G → MarksAt K G D bs := fun G s => ⟨SqL.of (s _ _ hD4), fun b hb => ⟨SqT.of (s _ _ (hb4 b hb)), hpos b hb⟩⟩
        walk_at "go"
        refine ⟨sz (by simp), fun e he => ?_⟩
        have s5 : Same H4 (upd H4 e (.lst [])) := Same.new (Same.refl _) he
        have W5 := W4.same s5
        have hp5 := s5 _ _ hp4
        have he5 : upd H4 e (.lst []) e = some (.lst []) := upd_same
        have f5 := f4.trans (Off.of s5)
        have hM5 := hMA _ s5
        generalize upd H4 e (.lst []) = H5 at s5 W5 hp5 he5 f5 hM5 ⊢
        walk_at "go"
        refine s_eqD hM5.data (.lst (SqL.of he5) .nil) (shaped_of (ok_marks bs)) rfl ?_
        obtain ⟨val5, ks5, hT5, hk5, hV5⟩ := W5.tp
        walk_at "go"
        refine bT (fun hc => ?_) (fun hc => ?_)
        · have eb : bs = [] := by
            cases bs with
            | nil => rfl
            | cons m ms => simp [dMarks, PyData.eqv, PyData.eqvAll] at hc
          walk_at "go"
          refine s_dpop2 (w := x) (z := .non) hT5 (fun R r => s_var rfl r) (fun R r => r) fun v H6 hH6 hT6 => ?_
          walk_at "go"
          have hN' := next_tops (B2 := delm B1 x) hB1 hx hi2 (hTN.1 (by rw [eb]; rfl)) (fun y hy => by unfold delm; rw [if_neg hy])
          rcases hH6 with rfl | ⟨o, rfl⟩
          · exact ⟨_, _, _, _, delm B1 x, rfl, ⟨W5.ob, W5.ma, ⟨_, _, hT6, Nat.le_trans (remK_len _ _) (by omega), hV5.del⟩, by have := W5.kl; omega, W5.ne, W5.ok⟩, f5, hN'⟩
          · refine ⟨_, _, _, _, delm B1 x, rfl, W5.tset hT6 hV5.del (Nat.le_trans (remK_len _ _) (by omega)) (by omega), f5.trans (fun a u h1 h2 h3 e => by rw [upd_ne h3]; exact e), hN'⟩
        · have eb : bs ≠ [] := by
            rintro rfl
            simp [dMarks, PyData.eqv, PyData.eqvAll] at hc
          walk_at "go"
          refine ⟨D, bs, n, rfl, hM5, by omega, fun e => absurd e eb, fun g H6 s6 hg hge => ?_⟩
          have W6 := W5.same s6
          have hp6 := s6 _ _ hp5
          walk_at "go"
          refine ⟨sz (by simp), fun t ht => ?_⟩
          have s7 : Same H6 (upd H6 t (.tup [.int g, .int n])) := Same.new (Same.refl _) ht
          have W7 := W6.same s7
          have hp7 := s7 _ _ hp6
          have ht7 : upd H6 t (.tup [.int g, .int n]) t = some (.tup [.int g, .int n]) := upd_same
          have f7 := f5.trans (Off.of (s6.trans s7))
          generalize upd H6 t (.tup [.int g, .int n]) = H7 at s7 W7 hp7 ht7 f7 ⊢
          obtain ⟨val7, ks7, hT7, hk7, hV7⟩ := W7.tp
          walk_at "go"
          refine s_dput hT7 (by omega) fun o hT8 => ?_
          have hg' : ∃ m ∈ bs.map (·.2), g = wn m n := by
            obtain ⟨b, hb, e⟩ := hg
            exact ⟨b.2, List.mem_map.mpr ⟨b, hb, rfl⟩, e⟩
          have hN' := next_tops (B2 := setm B1 x (g, n)) hB1 hx hi2 (hTN.2 g hg' (fun m hm => by
            obtain ⟨b, hb, rfl⟩ := List.mem_map.mp hm
            exact hge b hb)) (fun y hy => by unfold setm; rw [if_neg hy])
          exact ⟨_, _, _, _, setm B1 x (g, n), rfl, W7.tset hT8 (hV7.set ht7) (Nat.le_trans (addK_len _ _) (by omega)) (by omega), f7.trans (fun a u h1 h2 h3 e => by rw [upd_ne h3]; exact e), hN'⟩
    · rintro σ' H1 ⟨v2, v3, v4, v5, B1, rfl, W1, f1, hB1⟩
      walk_at "go"
      rw [show ((w.length : Int) - -1).toNat = w.length + 1 by omega] at W1 hB1
      refine k B1 H1 ⟨W1.mono (by omega), fun y => hB1 y fun _ => by rw [TL.len_tl]; omega⟩ f1
theorem ok_is_part (T : Top K mg C_Pairs C_Wood C_PartWood X_Absent X_NoWord X_Twice cT PT)  : Fn P w K mg base 1 "is_part" ["text"] spPart := by
  refine T.d_is_part.ok sc_is_part bi_is_part (fun vs H Q E h => ?_) (fun f cdv A outer s H vs Q E hr h => ?_)
  · obtain ⟨s, rfl, hs, k⟩ := h; rfl
  · obtain ⟨s, rfl, hs, k⟩ := h
    have cl_Pairs := T.cl_Pairs
    have na_Pairs_pair_marks := T.na_Pairs_pair_marks
    have na_Pairs_pair_era := T.na_Pairs_pair_era
    have cl_Wood := T.cl_Wood
    have na_Wood_marks := T.na_Wood_marks
    have na_Wood_tops := T.na_Wood_tops
    have na_Wood_now := T.na_Wood_now
    have cl_PartWood := T.cl_PartWood
    have na_PartWood_marks := T.na_PartWood_marks
    have na_PartWood_tops := T.na_PartWood_tops
    have na_PartWood_now := T.na_PartWood_now
    refine ⟨_, (pss_cons (ps_if (PW.pt (pw_or (pt_cmpR op_lt (pe_callB call_len_str rfl T.n_len (by decide +kernel) (pa_cons (pv 0) pa_nil)) (pe_int) (nomark _)) (pw_or1 (pt_cmpR op_gt (pe_callB call_len_str rfl T.n_len (by decide +kernel) (pa_cons (pv 0) pa_nil)) (pe_int) (nomark _))))) (pss_one (ps_ret (pe_bl))) pss_nil)
    (pss_cons (ps_for PassesOwn.never rfl (pi_str (pv 0)) (pg_name (i := 1) sc_is_part.nd rfl (Or.inl rfl)) (pss_one (ps_if (pt_cmpR op_notIn_sign (pv 1) (pe_gstr T.c_LETTERS) rfl) (pss_one (ps_ret (pe_bl))) pss_nil)))
    (pss_one (ps_ret (pe_bl))))), ?_⟩
    walk_at "go"
    refine ⟨s, rfl, hs, ?_⟩
    walk_at "go"
    refine dT (fun hc => ?_) (fun hc => ?_)
    · walk_at "go"
      rw [show partL (TL.tl s) = false by
        unfold partL
        rw [TL.len_tl] at hc
        have : ¬ 1 ≤ (TL.tl s).length := by omega
        rw [decide_eq_false this]; rfl] at k
      exact k
    walk_at "go"
    refine ⟨s, rfl, hs, ?_⟩
    walk_at "go"
    refine dT (fun hd => ?_) (fun hd => ?_)
    · walk_at "go"
      rw [show partL (TL.tl s) = false by
        unfold partL
        rw [TL.len_tl] at hd
        have : ¬ (TL.tl s).length ≤ 12 := by omega
        rw [decide_eq_false this, Bool.and_false]; rfl] at k
      exact k
    walk_at "go"
    refine for_it walk_str (fun i σ' H' => ∃ v, σ' = [some (.str s), v] ∧ H' = H ∧ ((TL.tl s).take i).all low = true) ⟨none, rfl, rfl, rfl⟩ (fun _ _ _ _ _ => trivial) ?_ ?_
    · rintro i x σ' H' H2 hi ⟨v, rfl, rfl, ha⟩ ⟨rfl, c, hcc, rfl⟩
      walk_at "go"
      refine ⟨c, _, rfl, rfl, ?_⟩
      walk_at "go"
      rw [mem_letters]
      refine bT (fun he => ?_) (fun he => ?_)
      · walk_at "go"
        rw [show partL (TL.tl s) = false by
          unfold partL
          have : (TL.tl s).all low = false := by
            rw [List.all_eq_false]
            exact ⟨c, sign_mem hcc, by simpa using he⟩
          rw [this, Bool.and_false]] at k
        exact k
      · walk_at "go"
        refine ⟨_, rfl, rfl, ?_⟩
        rw [sign_take hcc, List.all_append, ha]
        simpa using he
    · rintro σ' H' ⟨v, rfl, rfl, ha⟩
      walk_at "go"
      rw [show partL (TL.tl s) = true by
        unfold partL
        rw [show s.cps.size = (TL.tl s).length by simp [TL.tl], List.take_of_length_le (Nat.le_refl _)] at ha
        rw [TL.len_tl] at hc hd
        rw [ha, decide_eq_true (show 1 ≤ (TL.tl s).length by omega), decide_eq_true (show (TL.tl s).length ≤ 12 by omega)]; rfl] at k
      exact k
theorem ok_is_word (T : Top K mg C_Pairs C_Wood C_PartWood X_Absent X_NoWord X_Twice cT PT) (F_is_part : Fn P w K mg base 1 "is_part" ["text"] spPart) : Fn P w K mg base 2 "is_word" ["thing"] (spIsWord K) := by
  refine T.d_is_word.ok sc_is_word bi_is_word (fun vs H Q E h => ?_) (fun f cdv A outer s H vs Q E hr h => ?_)
  · obtain ⟨x, rfl, h⟩ := h; rfl
  · obtain ⟨x, rfl, h⟩ := h
    have cl_Pairs := T.cl_Pairs
    have na_Pairs_pair_marks := T.na_Pairs_pair_marks
    have na_Pairs_pair_era := T.na_Pairs_pair_era
    have cl_Wood := T.cl_Wood
    have na_Wood_marks := T.na_Wood_marks
    have na_Wood_tops := T.na_Wood_tops
    have na_Wood_now := T.na_Wood_now
    have cl_PartWood := T.cl_PartWood
    have na_PartWood_marks := T.na_PartWood_marks
    have na_PartWood_tops := T.na_PartWood_tops
    have na_PartWood_now := T.na_PartWood_now
    refine ⟨_, (pss_cons (ps_if (PW.pt (pw_or (pt_not (pt_val (pe_callB call_isi rfl T.n_isinstance (by decide +kernel) (pa_cons (pv 0) (pa_cons (pe_ty "str" rfl T.n_str (by decide +kernel)) pa_nil))))) (pw_or1 (pt_cmpR op_gt (pe_callB call_len_str rfl T.n_len (by decide +kernel) (pa_cons (pv 0) pa_nil)) (pe_int) (nomark _))))) (pss_one (ps_ret (pe_bl))) pss_nil)
    (pss_cons (ps_set (i := 1) sc_is_word.nd rfl (Or.inl rfl) (pe_split (pv 0) (pe_str)))
    (pss_one (ps_ret ((pe_and (pe_cmpR op_le (pe_callB call_len_seq rfl T.n_len (by decide +kernel) (pa_cons (pv 1) pa_nil)) (pe_int) (nomark _)) (pe_one (pe_cmpR (op_eqD hr.units) (pe_lc (own := [("part", 2)]) (by rfl) sc_is_word.nd (pi_list (pv 1)) (blkOk_by (own := [("part", 2)]) (N := ["thing", "parts", "part"]) (sc := defScope s_is_word) (by decide +kernel)) (fun _ _ _ _ _ => (pg_name (i := 2) sc_is_word.nd rfl (Or.inl rfl))) (fun _ _ _ _ _ => (pts_one (pt_not (pt_val (pe_fn F_is_part (hr.mono (by decide)) passL (pa_cons (pv 2) pa_nil)))))) (fun _ _ _ _ _ => (pv 2))) (pe_lst pa_nil) (nomark _))))))))), ?_⟩
    rcases h with ⟨s, rfl, hs, ho, k⟩ | ⟨t, ht, hk, k⟩
    · have hz : s.length ≤ sizeLine := sz16 (by omega)
      walk_at "go"
      refine ⟨s, rfl, hz, ?_⟩
      walk_at "go"
      refine dT (fun hc => ?_) (fun hc => ?_)
      · walk_at "go"
        rw [show isW s = false by
          unfold isW wordL
          rw [TL.len_tl] at hc
          have : ¬ (TL.tl s).length ≤ 24 := by omega
          rw [decide_eq_false this]; rfl] at k
        exact k _ (Same.refl _)
      walk_at "go"
      refine ⟨s, _, rfl, rfl, by decide +kernel, by rw [sizeLine_eq]; omega, fun p hp => ?_⟩
      walk_at "go"
      generalize hys : Txt.split s (Str.ofString " ") = ys
      have e := split_blank s
      rw [hys] at e
      have hL : (upd H p (.lst (ys.map V.str))) p = some (.lst (ys.map V.str)) := upd_same
      have sq : Same H (upd H p (.lst (ys.map V.str))) := Same.new (Same.refl H) hp
      generalize (upd H p (.lst (ys.map V.str))) = G at hL sq ⊢
      have hw : isW s = (decide (ys.length ≤ 4) && (ys.all fun y => partL (TL.tl y))) := by
        unfold isW wordL
        rw [TL.len_tl] at hc
        rw [← e, List.length_map, List.all_map, decide_eq_true (show (TL.tl s).length ≤ 24 by omega), Bool.true_and]
        rfl
      have hmem : ∀ y ∈ ys, y.length ≤ sizeLine ∧ PyData.strOk y = true := fun y hy => by
        obtain ⟨a, b⟩ := split_mem (s := s) (by rw [hys]; exact hy)
        refine ⟨?_, strOk_iff.mpr fun c hc => strOk_iff.mp ho c (b c hc)⟩
        rw [← TL.len_tl, ← TL.len_tl] at a
        omega
      rw [List.length_map]
      refine dT (fun hd => ?_) (fun hd => ?_)
      · walk_at "go"
        refine ⟨⟨_, SqL.of hL⟩, fun D hD => ?_⟩
        have yl : ys.length ≤ 100000 := by omega
        refine lc_list (xs := ys.map V.str) (PvV (resF ys (fun y => !partL (TL.tl y)) V.str) _ D) (lc_begin hD resF_0) (fun i H' _ p => p.1.seq (SqL.of hL)) ?_ ?_
        · intro i x H' hi pv
          obtain ⟨y, hy, rfl⟩ := map_get hi
          have hm := hmem y (List.mem_of_getElem? hy)
          walk_at "go"
          refine ⟨rfl, ?_⟩
          walk_at "go"
          refine ⟨y, rfl, hm.1, ?_⟩
          walk_at "go"
          refine bT (fun hb => ?_) (fun hb => ?_)
          · walk_at "go"
            exact lc_put pv hD (Same.refl _) (resF_y hy hb) (resF_len yl)
          · exact lc_skip pv (Same.refl _) (resF_n hy hb)
        · intro H' pv
          rw [List.length_map] at pv
          have hF : H' D = some (.lst ((ys.filter (fun y => !partL (TL.tl y))).map V.str)) := by rw [pv.2, resF_all rfl]
          walk_at "go"
          refine ⟨sz (by simp), fun em nem => ?_⟩
          refine s_eqD (d := .list ((ys.filter (fun y => !partL (TL.tl y))).map .str)) (.lst (SqL.of (by rw [upd_ne (ne_of_none hF nem)]; exact hF)) (DpAll.of_map fun y _ => .str y)) (.lst (SqL.of upd_same) .nil)
            (shaped_of (ok_strs fun y hy => (hmem y (List.mem_filter.mp hy).1).2)) rfl ?_
          rw [eqv_strs_nil]
          have : (ys.filter (fun y => !partL (TL.tl y))).isEmpty = isW s := by
            rw [hw, decide_eq_true (show ys.length ≤ 4 by omega), Bool.true_and, Bool.eq_iff_iff, List.isEmpty_iff, List.filter_eq_nil_iff, List.all_eq_true]
            simp
          rw [this]
          exact k _ (Same.new (sq.trans pv.1) nem)
      · walk_at "go"
        rw [hw, decide_eq_false (show ¬ ys.length ≤ 4 by omega), Bool.false_and] at k
        exact k _ sq
    · walk_at "go"
      refine ⟨x, .ty "str", .type t, .type "str", false, rfl, .ty _, ht, kit_ty hk, ?_⟩
      walk_at "go"
      exact k
theorem ok_Wood_put (T : Top K mg C_Pairs C_Wood C_PartWood X_Absent X_NoWord X_Twice cT PT) (F_Wood_renew_tops : FnM P w K mg base 3 C_Wood "renew_tops" ["self", "word"] [] (spRenew C_Wood)) (F_is_word : Fn P w K mg base 2 "is_word" ["thing"] (spIsWord K)) : FnM P w K mg base 4 C_Wood "put" ["self", "word", "count"] [] (spPut K C_Wood X_NoWord X_Twice) := by
  refine T.me_Wood_put.okX sc_Wood_put (fun vs H Q E h => ?_) (fun f cdv A outer s H vs Q E hr h => ?_)
  · obtain ⟨p, dm, dt, A, ks, B, n, N, x, c, rfl, W, hN, hc, hx, kN, kT, kQ⟩ := h; rfl
  · obtain ⟨p, dm, dt, A, ks, B, n, N, x, c, rfl, W, hN, hc, hx, kN, kT, kQ⟩ := h
    have cl_Pairs := T.cl_Pairs
    have na_Pairs_pair_marks := T.na_Pairs_pair_marks
    have na_Pairs_pair_era := T.na_Pairs_pair_era
    have cl_Wood := T.cl_Wood
    have na_Wood_marks := T.na_Wood_marks
    have na_Wood_tops := T.na_Wood_tops
    have na_Wood_now := T.na_Wood_now
    have cl_PartWood := T.cl_PartWood
    have na_PartWood_marks := T.na_PartWood_marks
    have na_PartWood_tops := T.na_PartWood_tops
    have na_PartWood_now := T.na_PartWood_now
    refine ⟨_, (pss_cons (ps_if (pt_not (pt_val (pe_fn F_is_word (hr.mono (by decide)) (passE (takes_of rfl rfl rfl rfl)) (pa_cons (pv 1) pa_nil)))) (pss_one (ps_rs T.x_NoWord rfl (takes_of rfl rfl rfl rfl))) pss_nil)
    (pss_cons (ps_if (pt_cmp (pc_din (hu_of hr) (pv 1) (pe_fld (pv 0) rfl))) (pss_one (ps_rs T.x_Twice rfl (takes_of rfl rfl rfl rfl))) pss_nil)
    (pss_cons (ps_dput (hu_of hr) (pe_fld (pv 0) rfl) (pv 1) (pe_tup (pa_cons (pv 2) (pa_cons (pe_fld (pv 0) rfl) pa_nil))) rfl)
    (pss_one (ps_expr (pe_mth F_Wood_renew_tops (hr.mono (by decide)) (passE (takes_of rfl rfl rfl rfl)) (pv 0) (pa_cons (pv 1) pa_nil))))))), ?_⟩
    walk_at "go"
    rcases hx with ⟨s, rfl, h1, h2⟩ | ⟨t, h1, h2⟩
    · refine ⟨_, rfl, .inl ⟨s, rfl, h1, h2, fun H1 s1 => ?_⟩⟩
      walk_at "go"
      cases hw : isW s with
      | false =>
        walk_at "go"
        exact kN (fun w e => by cases e; exact hw) H1 s1
      | true =>
        have W1 := W.same s1
        obtain ⟨dx, hp⟩ := W1.ob
        obtain ⟨val, hT, hM⟩ := W1.ma
        walk_at "go"
        rw [hM.none_iff]
        cases hA : A s with
        | some m =>
          rw [show (some m : Option (Int × Int)).isSome = true from rfl]
          walk_at "go"
          exact kT s rfl hw (by rw [hA]; simp) H1 s1
        | none =>
          rw [show (none : Option (Int × Int)).isSome = false from rfl]
          walk_at "go"
          refine ⟨sz (by simp), fun t ht => ?_⟩
          have s2 : Same H1 (upd H1 t (.tup [.int c, .int n])) := Same.new (Same.refl _) ht
          have W2 := W1.same s2
          have hp2 := s2 _ _ hp
          have ht2 : upd H1 t (.tup [.int c, .int n]) t = some (.tup [.int c, .int n]) := upd_same
          generalize upd H1 t (.tup [.int c, .int n]) = H2 at s2 W2 hp2 ht2 ⊢
          obtain ⟨val2, hT2, hM2⟩ := W2.ma
          walk_at "go"
          have hkl := W2.kl
          refine s_dput hT2 (by omega) fun o hT3 => ?_
          have W3 := W2.toWoodP.mset (M := N + 1) hT3 (hM2.set (m := (c, n)) ht2) (Nat.le_trans (addK_len _ _) (by omega)) (by omega) (W2.ok.set hw hc (Int.le_refl _))
          have hp3 : upd H2 dm o p = some (.ins C_Wood dx (woodF dm dt n)) := by rw [upd_ne W2.pm]; exact hp2
          walk_at "go"
          refine ⟨p, dm, dt, _, _, B, n, N + 1, s, rfl, W3, by omega, hw, tops_put W.top, fun B' H4 W4 f4 => ?_⟩
          walk_at "go"
          exact kQ s rfl hw hA B' H4 (W4.mono (by omega)) (((Off.of (s1.trans s2)).trans (fun a u g1 g2 g3 e => by rw [upd_ne g2]; exact e)).trans f4)
    · refine ⟨x, rfl, .inr ⟨t, h1, h2, ?_⟩⟩
      walk_at "go"
      exact kN (fun w e => by
        subst e
        cases h1 with
        | base h => cases h; simp [kitB] at h2) H (Same.refl _)
theorem ok_PartWood_put (T : Top K mg C_Pairs C_Wood C_PartWood X_Absent X_NoWord X_Twice cT PT) (F_PartWood_renew_tops : FnM P w K mg base 3 C_PartWood "renew_tops" ["self", "word"] [] (spRenew C_PartWood)) (F_is_word : Fn P w K mg base 2 "is_word" ["thing"] (spIsWord K)) : FnM P w K mg base 4 C_PartWood "put" ["self", "word", "count"] [] (spPut K C_PartWood X_NoWord X_Twice) := by
  refine T.me_PartWood_put.okX sc_PartWood_put (fun vs H Q E h => ?_) (fun f cdv A outer s H vs Q E hr h => ?_)
  · obtain ⟨p, dm, dt, A, ks, B, n, N, x, c, rfl, W, hN, hc, hx, kN, kT, kQ⟩ := h; rfl
  · obtain ⟨p, dm, dt, A, ks, B, n, N, x, c, rfl, W, hN, hc, hx, kN, kT, kQ⟩ := h
    have cl_Pairs := T.cl_Pairs
    have na_Pairs_pair_marks := T.na_Pairs_pair_marks
    have na_Pairs_pair_era := T.na_Pairs_pair_era
    have cl_Wood := T.cl_Wood
    have na_Wood_marks := T.na_Wood_marks
    have na_Wood_tops := T.na_Wood_tops
    have na_Wood_now := T.na_Wood_now
    have cl_PartWood := T.cl_PartWood
    have na_PartWood_marks := T.na_PartWood_marks
    have na_PartWood_tops := T.na_PartWood_tops
    have na_PartWood_now := T.na_PartWood_now
    refine ⟨_, (pss_cons (ps_if (pt_not (pt_val (pe_fn F_is_word (hr.mono (by decide)) (passE (takes_of rfl rfl rfl rfl)) (pa_cons (pv 1) pa_nil)))) (pss_one (ps_rs T.x_NoWord rfl (takes_of rfl rfl rfl rfl))) pss_nil)
    (pss_cons (ps_if (pt_cmp (pc_din (hu_of hr) (pv 1) (pe_fld (pv 0) rfl))) (pss_one (ps_rs T.x_Twice rfl (takes_of rfl rfl rfl rfl))) pss_nil)
    (pss_cons (ps_dput (hu_of hr) (pe_fld (pv 0) rfl) (pv 1) (pe_tup (pa_cons (pv 2) (pa_cons (pe_fld (pv 0) rfl) pa_nil))) rfl)
    (pss_one (ps_expr (pe_mth F_PartWood_renew_tops (hr.mono (by decide)) (passE (takes_of rfl rfl rfl rfl)) (pv 0) (pa_cons (pv 1) pa_nil))))))), ?_⟩
    walk_at "go"
    rcases hx with ⟨s, rfl, h1, h2⟩ | ⟨t, h1, h2⟩
    · refine ⟨_, rfl, .inl ⟨s, rfl, h1, h2, fun H1 s1 => ?_⟩⟩
      walk_at "go"
      cases hw : isW s with
      | false =>
        walk_at "go"
        exact kN (fun w e => by cases e; exact hw) H1 s1
      | true =>
        have W1 := W.same s1
        obtain ⟨dx, hp⟩ := W1.ob
        obtain ⟨val, hT, hM⟩ := W1.ma
        walk_at "go"
        rw [hM.none_iff]
        cases hA : A s with
        | some m =>
          rw [show (some m : Option (Int × Int)).isSome = true from rfl]
          walk_at "go"
          exact kT s rfl hw (by rw [hA]; simp) H1 s1
        | none =>
          rw [show (none : Option (Int × Int)).isSome = false from rfl]
          walk_at "go"
          refine ⟨sz (by simp), fun t ht => ?_⟩
          have s2 : Same H1 (upd H1 t (.tup [.int c, .int n])) := Same.new (Same.refl _) ht
          have W2 := W1.same s2
          have hp2 := s2 _ _ hp
          have ht2 : upd H1 t (.tup [.int c, .int n]) t = some (.tup [.int c, .int n]) := upd_same
          generalize upd H1 t (.tup [.int c, .int n]) = H2 at s2 W2 hp2 ht2 ⊢
          obtain ⟨val2, hT2, hM2⟩ := W2.ma
          walk_at "go"
          have hkl := W2.kl
          refine s_dput hT2 (by omega) fun o hT3 => ?_
          have W3 := W2.toWoodP.mset (M := N + 1) hT3 (hM2.set (m := (c, n)) ht2) (Nat.le_trans (addK_len _ _) (by omega)) (by omega) (W2.ok.set hw hc (Int.le_refl _))
          have hp3 : upd H2 dm o p = some (.ins C_PartWood dx (woodF dm dt n)) := by rw [upd_ne W2.pm]; exact hp2
          walk_at "go"
          refine ⟨p, dm, dt, _, _, B, n, N + 1, s, rfl, W3, by omega, hw, tops_put W.top, fun B' H4 W4 f4 => ?_⟩
          walk_at "go"
          exact kQ s rfl hw hA B' H4 (W4.mono (by omega)) (((Off.of (s1.trans s2)).trans (fun a u g1 g2 g3 e => by rw [upd_ne g2]; exact e)).trans f4)
    · refine ⟨x, rfl, .inr ⟨t, h1, h2, ?_⟩⟩
      walk_at "go"
      exact kN (fun w e => by
        subst e
        cases h1 with
        | base h => cases h; simp [kitB] at h2) H (Same.refl _)
theorem ok_Wood_fade (T : Top K mg C_Pairs C_Wood C_PartWood X_Absent X_NoWord X_Twice cT PT)  : FnM P w K mg base 1 C_Wood "fade" ["self", "times"] [V.int 1] (spFade C_Wood) := by
  refine T.me_Wood_fade.ok sc_Wood_fade (fun vs H Q E h => ?_) (fun f cdv A outer s H vs Q E hr h => ?_)
  · obtain ⟨p, dm, dt, A, ks, B, n, N, t, rfl, W, ht, k⟩ := h; rfl
  · obtain ⟨p, dm, dt, A, ks, B, n, N, t, rfl, W, ht, k⟩ := h
    have cl_Pairs := T.cl_Pairs
    have na_Pairs_pair_marks := T.na_Pairs_pair_marks
    have na_Pairs_pair_era := T.na_Pairs_pair_era
    have cl_Wood := T.cl_Wood
    have na_Wood_marks := T.na_Wood_marks
    have na_Wood_tops := T.na_Wood_tops
    have na_Wood_now := T.na_Wood_now
    have cl_PartWood := T.cl_PartWood
    have na_PartWood_marks := T.na_PartWood_marks
    have na_PartWood_tops := T.na_PartWood_tops
    have na_PartWood_now := T.na_PartWood_now
    refine ⟨_, (pss_one (ps_fld (pv 0) (pe_op op_add (pe_fld (pv 0) rfl) (pv 1)) rfl)), ?_⟩
    obtain ⟨dx, hp⟩ := W.ob
    walk_at "go"
    rw [wf_put]
    exact k _ (W.later ht upd_same fun a o na e => by rw [upd_ne na]; exact e) fun a o na e => by rw [upd_ne na]; exact e
theorem ok_PartWood_fade (T : Top K mg C_Pairs C_Wood C_PartWood X_Absent X_NoWord X_Twice cT PT)  : FnM P w K mg base 1 C_PartWood "fade" ["self", "times"] [V.int 1] (spFade C_PartWood) := by
  refine T.me_PartWood_fade.ok sc_PartWood_fade (fun vs H Q E h => ?_) (fun f cdv A outer s H vs Q E hr h => ?_)
  · obtain ⟨p, dm, dt, A, ks, B, n, N, t, rfl, W, ht, k⟩ := h; rfl
  · obtain ⟨p, dm, dt, A, ks, B, n, N, t, rfl, W, ht, k⟩ := h
    have cl_Pairs := T.cl_Pairs
    have na_Pairs_pair_marks := T.na_Pairs_pair_marks
    have na_Pairs_pair_era := T.na_Pairs_pair_era
    have cl_Wood := T.cl_Wood
    have na_Wood_marks := T.na_Wood_marks
    have na_Wood_tops := T.na_Wood_tops
    have na_Wood_now := T.na_Wood_now
    have cl_PartWood := T.cl_PartWood
    have na_PartWood_marks := T.na_PartWood_marks
    have na_PartWood_tops := T.na_PartWood_tops
    have na_PartWood_now := T.na_PartWood_now
    refine ⟨_, (pss_one (ps_fld (pv 0) (pe_op op_add (pe_fld (pv 0) rfl) (pv 1)) rfl)), ?_⟩
    obtain ⟨dx, hp⟩ := W.ob
    walk_at "go"
    rw [wf_put]
    exact k _ (W.later ht upd_same fun a o na e => by rw [upd_ne na]; exact e) fun a o na e => by rw [upd_ne na]; exact e
theorem ok_Wood_ask_there (T : Top K mg C_Pairs C_Wood C_PartWood X_Absent X_NoWord X_Twice cT PT)  : FnM P w K mg base 1 C_Wood "ask_there" ["self", "word"] [] (spAsk C_Wood X_Absent) := by
  refine T.me_Wood_ask_there.okX sc_Wood_ask_there (fun vs H Q E h => ?_) (fun f cdv A outer s H vs Q E hr h => ?_)
  · obtain ⟨p, dm, dt, A, ks, B, n, N, w, rfl, W, kE, kQ⟩ := h; rfl
  · obtain ⟨p, dm, dt, A, ks, B, n, N, w, rfl, W, kE, kQ⟩ := h
    have cl_Pairs := T.cl_Pairs
    have na_Pairs_pair_marks := T.na_Pairs_pair_marks
    have na_Pairs_pair_era := T.na_Pairs_pair_era
    have cl_Wood := T.cl_Wood
    have na_Wood_marks := T.na_Wood_marks
    have na_Wood_tops := T.na_Wood_tops
    have na_Wood_now := T.na_Wood_now
    have cl_PartWood := T.cl_PartWood
    have na_PartWood_marks := T.na_PartWood_marks
    have na_PartWood_tops := T.na_PartWood_tops
    have na_PartWood_now := T.na_PartWood_now
    refine ⟨_, (pss_one (ps_if (pt_cmp (pc_dnotin (hu_of hr) (pv 1) (pe_fld (pv 0) rfl))) (pss_one (ps_rs T.x_Absent rfl (takes_of rfl rfl rfl rfl))) pss_nil)), ?_⟩
    obtain ⟨dx, hp⟩ := W.ob
    obtain ⟨val, hT, hM⟩ := W.ma
    walk_at "go"
    rw [hM.none_iff]
    cases hA : A w with
    | none =>
      rw [show (none : Option (Int × Int)).isSome = false from rfl]
      walk_at "go"
      exact kE hA
    | some m =>
      rw [show (some m : Option (Int × Int)).isSome = true from rfl]
      walk_at "go"
      exact kQ (by rw [hA]; simp)
theorem ok_PartWood_ask_there (T : Top K mg C_Pairs C_Wood C_PartWood X_Absent X_NoWord X_Twice cT PT)  : FnM P w K mg base 1 C_PartWood "ask_there" ["self", "word"] [] (spAsk C_PartWood X_Absent) := by
  refine T.me_PartWood_ask_there.okX sc_PartWood_ask_there (fun vs H Q E h => ?_) (fun f cdv A outer s H vs Q E hr h => ?_)
  · obtain ⟨p, dm, dt, A, ks, B, n, N, w, rfl, W, kE, kQ⟩ := h; rfl
  · obtain ⟨p, dm, dt, A, ks, B, n, N, w, rfl, W, kE, kQ⟩ := h
    have cl_Pairs := T.cl_Pairs
    have na_Pairs_pair_marks := T.na_Pairs_pair_marks
    have na_Pairs_pair_era := T.na_Pairs_pair_era
    have cl_Wood := T.cl_Wood
    have na_Wood_marks := T.na_Wood_marks
    have na_Wood_tops := T.na_Wood_tops
    have na_Wood_now := T.na_Wood_now
    have cl_PartWood := T.cl_PartWood
    have na_PartWood_marks := T.na_PartWood_marks
    have na_PartWood_tops := T.na_PartWood_tops
    have na_PartWood_now := T.na_PartWood_now
    refine ⟨_, (pss_one (ps_if (pt_cmp (pc_dnotin (hu_of hr) (pv 1) (pe_fld (pv 0) rfl))) (pss_one (ps_rs T.x_Absent rfl (takes_of rfl rfl rfl rfl))) pss_nil)), ?_⟩
    obtain ⟨dx, hp⟩ := W.ob
    obtain ⟨val, hT, hM⟩ := W.ma
    walk_at "go"
    rw [hM.none_iff]
    cases hA : A w with
    | none =>
      rw [show (none : Option (Int × Int)).isSome = false from rfl]
      walk_at "go"
      exact kE hA
    | some m =>
      rw [show (some m : Option (Int × Int)).isSome = true from rfl]
      walk_at "go"
      exact kQ (by rw [hA]; simp)
theorem ok_Wood_strike (T : Top K mg C_Pairs C_Wood C_PartWood X_Absent X_NoWord X_Twice cT PT) (F_Wood_ask_there : FnM P w K mg base 1 C_Wood "ask_there" ["self", "word"] [] (spAsk C_Wood X_Absent)) (F_Wood_renew_tops : FnM P w K mg base 3 C_Wood "renew_tops" ["self", "word"] [] (spRenew C_Wood)) : FnM P w K mg base 4 C_Wood "strike" ["self", "word"] [] (spStrike C_Wood X_Absent) := by
  refine T.me_Wood_strike.okX sc_Wood_strike (fun vs H Q E h => ?_) (fun f cdv A outer s H vs Q E hr h => ?_)
  · obtain ⟨p, dm, dt, A, ks, B, n, N, w, rfl, W, hN, kE, kQ⟩ := h; rfl
  · obtain ⟨p, dm, dt, A, ks, B, n, N, w, rfl, W, hN, kE, kQ⟩ := h
    have cl_Pairs := T.cl_Pairs
    have na_Pairs_pair_marks := T.na_Pairs_pair_marks
    have na_Pairs_pair_era := T.na_Pairs_pair_era
    have cl_Wood := T.cl_Wood
    have na_Wood_marks := T.na_Wood_marks
    have na_Wood_tops := T.na_Wood_tops
    have na_Wood_now := T.na_Wood_now
    have cl_PartWood := T.cl_PartWood
    have na_PartWood_marks := T.na_PartWood_marks
    have na_PartWood_tops := T.na_PartWood_tops
    have na_PartWood_now := T.na_PartWood_now
    refine ⟨_, (pss_cons (ps_expr (pe_mth F_Wood_ask_there (hr.mono (by decide)) (passE (takes_of rfl rfl rfl rfl)) (pv 0) (pa_cons (pv 1) pa_nil)))
    (pss_cons (ps_expr (pe_dpop1 (pe_fld (pv 0) rfl) (pv 1) ⟨rfl, rfl, rfl, rfl⟩))
    (pss_one (ps_expr (pe_mth F_Wood_renew_tops (hr.mono (by decide)) (passE (takes_of rfl rfl rfl rfl)) (pv 0) (pa_cons (pv 1) pa_nil)))))), ?_⟩
    obtain ⟨dx, hp⟩ := W.ob
    obtain ⟨val, hT, hM⟩ := W.ma
    walk_at "go"
    refine ⟨p, dm, dt, A, ks, B, n, N, w, rfl, W, fun h => kE h, fun h => ?_⟩
    cases hA : A w with
    | none => exact absurd hA h
    | some m =>
      obtain ⟨a, e1, e2⟩ := hM.some hA
      have hok := W.ok _ _ hA
      walk_at "go"
      refine s_dpop1 (w := w) hT e1 (fun R r => s_var rfl r) fun o hT3 => ?_
      have hkl := W.kl
      have W3 := W.toWoodP.mset (M := N) hT3 hM.del (Nat.le_trans (remK_len _ _) hkl) (Nat.le_refl _) W.ok.del
      have hp3 : upd H dm o p = some (.ins C_Wood dx (woodF dm dt n)) := by rw [upd_ne W.pm]; exact hp
      walk_at "go"
      refine ⟨p, dm, dt, _, _, B, n, N, w, rfl, W3, by omega, hok.1, tops_del W.top, fun B' H4 W4 f4 => ?_⟩
      walk_at "go"
      exact kQ m hA B' H4 (W4.mono (by omega)) (Off.trans (fun a u g1 g2 g3 e => by rw [upd_ne g2]; exact e) f4)
theorem ok_PartWood_strike (T : Top K mg C_Pairs C_Wood C_PartWood X_Absent X_NoWord X_Twice cT PT) (F_PartWood_ask_there : FnM P w K mg base 1 C_PartWood "ask_there" ["self", "word"] [] (spAsk C_PartWood X_Absent)) (F_PartWood_renew_tops : FnM P w K mg base 3 C_PartWood "renew_tops" ["self", "word"] [] (spRenew C_PartWood)) : FnM P w K mg base 4 C_PartWood "strike" ["self", "word"] [] (spStrike C_PartWood X_Absent) := by
  refine T.me_PartWood_strike.okX sc_PartWood_strike (fun vs H Q E h => ?_) (fun f cdv A outer s H vs Q E hr h => ?_)
  · obtain ⟨p, dm, dt, A, ks, B, n, N, w, rfl, W, hN, kE, kQ⟩ := h; rfl
  · obtain ⟨p, dm, dt, A, ks, B, n, N, w, rfl, W, hN, kE, kQ⟩ := h
    have cl_Pairs := T.cl_Pairs
    have na_Pairs_pair_marks := T.na_Pairs_pair_marks
    have na_Pairs_pair_era := T.na_Pairs_pair_era
    have cl_Wood := T.cl_Wood
    have na_Wood_marks := T.na_Wood_marks
    have na_Wood_tops := T.na_Wood_tops
    have na_Wood_now := T.na_Wood_now
    have cl_PartWood := T.cl_PartWood
    have na_PartWood_marks := T.na_PartWood_marks
    have na_PartWood_tops := T.na_PartWood_tops
    have na_PartWood_now := T.na_PartWood_now
    refine ⟨_, (pss_cons (ps_expr (pe_mth F_PartWood_ask_there (hr.mono (by decide)) (passE (takes_of rfl rfl rfl rfl)) (pv 0) (pa_cons (pv 1) pa_nil)))
    (pss_cons (ps_expr (pe_dpop1 (pe_fld (pv 0) rfl) (pv 1) ⟨rfl, rfl, rfl, rfl⟩))
    (pss_one (ps_expr (pe_mth F_PartWood_renew_tops (hr.mono (by decide)) (passE (takes_of rfl rfl rfl rfl)) (pv 0) (pa_cons (pv 1) pa_nil)))))), ?_⟩
    obtain ⟨dx, hp⟩ := W.ob
    obtain ⟨val, hT, hM⟩ := W.ma
    walk_at "go"
    refine ⟨p, dm, dt, A, ks, B, n, N, w, rfl, W, fun h => kE h, fun h => ?_⟩
    cases hA : A w with
    | none => exact absurd hA h
    | some m =>
      obtain ⟨a, e1, e2⟩ := hM.some hA
      have hok := W.ok _ _ hA
      walk_at "go"
      refine s_dpop1 (w := w) hT e1 (fun R r => s_var rfl r) fun o hT3 => ?_
      have hkl := W.kl
      have W3 := W.toWoodP.mset (M := N) hT3 hM.del (Nat.le_trans (remK_len _ _) hkl) (Nat.le_refl _) W.ok.del
      have hp3 : upd H dm o p = some (.ins C_PartWood dx (woodF dm dt n)) := by rw [upd_ne W.pm]; exact hp
      walk_at "go"
      refine ⟨p, dm, dt, _, _, B, n, N, w, rfl, W3, by omega, hok.1, tops_del W.top, fun B' H4 W4 f4 => ?_⟩
      walk_at "go"
      exact kQ m hA B' H4 (W4.mono (by omega)) (Off.trans (fun a u g1 g2 g3 e => by rw [upd_ne g2]; exact e) f4)
theorem ok_used_mark (T : Top K mg C_Pairs C_Wood C_PartWood X_Absent X_NoWord X_Twice cT PT) (F_worth_at : Fn P w K mg base 1 "worth_at" ["mark", "era"] (spWorth K)) : Fn P w K mg base 2 "used_mark" ["mark", "era", "times"] (spUsed K) := by
  refine T.d_used_mark.ok sc_used_mark bi_used_mark (fun vs H Q E h => ?_) (fun f cdv A outer s H vs Q E hr h => ?_)
  · obtain ⟨t, c, e, n, m, rfl, ht, h0, k⟩ := h; rfl
  · obtain ⟨t, c, e, n, m, rfl, ht, h0, k⟩ := h
    have cl_Pairs := T.cl_Pairs
    have na_Pairs_pair_marks := T.na_Pairs_pair_marks
    have na_Pairs_pair_era := T.na_Pairs_pair_era
    have cl_Wood := T.cl_Wood
    have na_Wood_marks := T.na_Wood_marks
    have na_Wood_tops := T.na_Wood_tops
    have na_Wood_now := T.na_Wood_now
    have cl_PartWood := T.cl_PartWood
    have na_PartWood_marks := T.na_PartWood_marks
    have na_PartWood_tops := T.na_PartWood_tops
    have na_PartWood_now := T.na_PartWood_now
    refine ⟨_, (pss_one (ps_ret (pe_tup (pa_cons (pe_op op_add (pe_fn F_worth_at (hr.mono (by decide)) passL (pa_cons (pv 0) (pa_cons (pv 1) pa_nil))) (pv 2)) (pa_cons (pv 1) pa_nil))))), ?_⟩
    walk_at "go"
    refine ⟨t, c, e, n, rfl, ht, h0, ?_⟩
    walk_at "go"
    exact ⟨sz (by simp), k⟩
theorem ok_Wood_use (T : Top K mg C_Pairs C_Wood C_PartWood X_Absent X_NoWord X_Twice cT PT) (F_Wood_ask_there : FnM P w K mg base 1 C_Wood "ask_there" ["self", "word"] [] (spAsk C_Wood X_Absent)) (F_Wood_renew_tops : FnM P w K mg base 3 C_Wood "renew_tops" ["self", "word"] [] (spRenew C_Wood)) (F_used_mark : Fn P w K mg base 2 "used_mark" ["mark", "era", "times"] (spUsed K)) : FnM P w K mg base 4 C_Wood "use" ["self", "word", "times"] [V.int 1] (spUse C_Wood X_Absent) := by
  refine T.me_Wood_use.okX sc_Wood_use (fun vs H Q E h => ?_) (fun f cdv A outer s H vs Q E hr h => ?_)
  · obtain ⟨p, dm, dt, A, ks, B, n, N, w, t, rfl, W, hN, ht, kE, kQ⟩ := h; rfl
  · obtain ⟨p, dm, dt, A, ks, B, n, N, w, t, rfl, W, hN, ht, kE, kQ⟩ := h
    have cl_Pairs := T.cl_Pairs
    have na_Pairs_pair_marks := T.na_Pairs_pair_marks
    have na_Pairs_pair_era := T.na_Pairs_pair_era
    have cl_Wood := T.cl_Wood
    have na_Wood_marks := T.na_Wood_marks
    have na_Wood_tops := T.na_Wood_tops
    have na_Wood_now := T.na_Wood_now
    have cl_PartWood := T.cl_PartWood
    have na_PartWood_marks := T.na_PartWood_marks
    have na_PartWood_tops := T.na_PartWood_tops
    have na_PartWood_now := T.na_PartWood_now
    refine ⟨_, (pss_cons (ps_expr (pe_mth F_Wood_ask_there (hr.mono (by decide)) (passE (takes_of rfl rfl rfl rfl)) (pv 0) (pa_cons (pv 1) pa_nil)))
    (pss_cons (ps_dput (hu_of hr) (pe_fld (pv 0) rfl) (pv 1) (pe_fn F_used_mark (hr.mono (by decide)) (passE (takes_of rfl rfl rfl rfl)) (pa_cons (pe_dget (hu_of hr) (pe_fld (pv 0) rfl) (pv 1) (fun _ _ => rfl)) (pa_cons (pe_fld (pv 0) rfl) (pa_cons (pv 2) pa_nil)))) rfl)
    (pss_one (ps_expr (pe_mth F_Wood_renew_tops (hr.mono (by decide)) (passE (takes_of rfl rfl rfl rfl)) (pv 0) (pa_cons (pv 1) pa_nil)))))), ?_⟩
    obtain ⟨dx, hp⟩ := W.ob
    obtain ⟨val, hT, hM⟩ := W.ma
    walk_at "go"
    refine ⟨p, dm, dt, A, ks, B, n, N, w, rfl, W, fun h => kE h, fun h => ?_⟩
    cases hA : A w with
    | none => exact absurd hA h
    | some m =>
      obtain ⟨a, e1, e2⟩ := hM.some hA
      have hok := W.ok _ _ hA
      walk_at "go"
      refine s_dget hT e1 ?_
      walk_at "go"
      refine ⟨a, m.1, m.2, n, t, rfl, SqT.of e2, hok.2.1, fun q hq => ?_⟩
      have s2 : Same H (upd H q (.tup [.int (worth m.1 m.2 n + t), .int n])) := Same.new (Same.refl _) hq
      have W2 := W.same s2
      have hp2 := s2 _ _ hp
      have ht2 : upd H q (.tup [.int (worth m.1 m.2 n + t), .int n]) q = some (.tup [.int (worth m.1 m.2 n + t), .int n]) := upd_same
      generalize upd H q (.tup [.int (worth m.1 m.2 n + t), .int n]) = H2 at s2 W2 hp2 ht2 ⊢
      obtain ⟨val2, hT2, hM2⟩ := W2.ma
      walk_at "go"
      have hkl := W2.kl
      refine s_dput hT2 (by omega) fun o hT3 => ?_
      have hin : w ∈ ks := W.toWoodP.key.mpr (by rw [hA]; rfl)
      rw [addK_in hin] at hT3
      have W3 := W2.toWoodP.mset (M := N) hT3 (hM2.set (m := (wn m n + t, n)) ht2) hkl (Nat.le_refl _) (W2.ok.set hok.1 (by
        have := worth_nonneg (e := m.2) (n := n) hok.2.1
        show 0 ≤ wn m n + t
        unfold wn; omega) (Int.le_refl _))
      have hp3 : upd H2 dm o p = some (.ins C_Wood dx (woodF dm dt n)) := by rw [upd_ne W2.pm]; exact hp2
      walk_at "go"
      refine ⟨p, dm, dt, _, _, B, n, N, w, rfl, W3, by omega, hok.1, tops_put W.top, fun B' H4 W4 f4 => ?_⟩
      walk_at "go"
      exact kQ m hA B' H4 (W4.mono (by omega)) (((Off.of s2).trans (fun a u g1 g2 g3 e => by rw [upd_ne g2]; exact e)).trans f4)
theorem ok_PartWood_use (T : Top K mg C_Pairs C_Wood C_PartWood X_Absent X_NoWord X_Twice cT PT) (F_PartWood_ask_there : FnM P w K mg base 1 C_PartWood "ask_there" ["self", "word"] [] (spAsk C_PartWood X_Absent)) (F_PartWood_renew_tops : FnM P w K mg base 3 C_PartWood "renew_tops" ["self", "word"] [] (spRenew C_PartWood)) (F_used_mark : Fn P w K mg base 2 "used_mark" ["mark", "era", "times"] (spUsed K)) : FnM P w K mg base 4 C_PartWood "use" ["self", "word", "times"] [V.int 1] (spUse C_PartWood X_Absent) := by
  refine T.me_PartWood_use.okX sc_PartWood_use (fun vs H Q E h => ?_) (fun f cdv A outer s H vs Q E hr h => ?_)
  · obtain ⟨p, dm, dt, A, ks, B, n, N, w, t, rfl, W, hN, ht, kE, kQ⟩ := h; rfl
  · obtain ⟨p, dm, dt, A, ks, B, n, N, w, t, rfl, W, hN, ht, kE, kQ⟩ := h
    have cl_Pairs := T.cl_Pairs
    have na_Pairs_pair_marks := T.na_Pairs_pair_marks
    have na_Pairs_pair_era := T.na_Pairs_pair_era
    have cl_Wood := T.cl_Wood
    have na_Wood_marks := T.na_Wood_marks
    have na_Wood_tops := T.na_Wood_tops
    have na_Wood_now := T.na_Wood_now
    have cl_PartWood := T.cl_PartWood
    have na_PartWood_marks := T.na_PartWood_marks
    have na_PartWood_tops := T.na_PartWood_tops
    have na_PartWood_now := T.na_PartWood_now
    refine ⟨_, (pss_cons (ps_expr (pe_mth F_PartWood_ask_there (hr.mono (by decide)) (passE (takes_of rfl rfl rfl rfl)) (pv 0) (pa_cons (pv 1) pa_nil)))
    (pss_cons (ps_dput (hu_of hr) (pe_fld (pv 0) rfl) (pv 1) (pe_fn F_used_mark (hr.mono (by decide)) (passE (takes_of rfl rfl rfl rfl)) (pa_cons (pe_dget (hu_of hr) (pe_fld (pv 0) rfl) (pv 1) (fun _ _ => rfl)) (pa_cons (pe_fld (pv 0) rfl) (pa_cons (pv 2) pa_nil)))) rfl)
    (pss_one (ps_expr (pe_mth F_PartWood_renew_tops (hr.mono (by decide)) (passE (takes_of rfl rfl rfl rfl)) (pv 0) (pa_cons (pv 1) pa_nil)))))), ?_⟩
    obtain ⟨dx, hp⟩ := W.ob
    obtain ⟨val, hT, hM⟩ := W.ma
    walk_at "go"
    refine ⟨p, dm, dt, A, ks, B, n, N, w, rfl, W, fun h => kE h, fun h => ?_⟩
    cases hA : A w with
    | none => exact absurd hA h
    | some m =>
      obtain ⟨a, e1, e2⟩ := hM.some hA
      have hok := W.ok _ _ hA
      walk_at "go"
      refine s_dget hT e1 ?_
      walk_at "go"
      refine ⟨a, m.1, m.2, n, t, rfl, SqT.of e2, hok.2.1, fun q hq => ?_⟩
      have s2 : Same H (upd H q (.tup [.int (worth m.1 m.2 n + t), .int n])) := Same.new (Same.refl _) hq
      have W2 := W.same s2
      have hp2 := s2 _ _ hp
      have ht2 : upd H q (.tup [.int (worth m.1 m.2 n + t), .int n]) q = some (.tup [.int (worth m.1 m.2 n + t), .int n]) := upd_same
      generalize upd H q (.tup [.int (worth m.1 m.2 n + t), .int n]) = H2 at s2 W2 hp2 ht2 ⊢
      obtain ⟨val2, hT2, hM2⟩ := W2.ma
      walk_at "go"
      have hkl := W2.kl
      refine s_dput hT2 (by omega) fun o hT3 => ?_
      have hin : w ∈ ks := W.toWoodP.key.mpr (by rw [hA]; rfl)
      rw [addK_in hin] at hT3
      have W3 := W2.toWoodP.mset (M := N) hT3 (hM2.set (m := (wn m n + t, n)) ht2) hkl (Nat.le_refl _) (W2.ok.set hok.1 (by
        have := worth_nonneg (e := m.2) (n := n) hok.2.1
        show 0 ≤ wn m n + t
        unfold wn; omega) (Int.le_refl _))
      have hp3 : upd H2 dm o p = some (.ins C_PartWood dx (woodF dm dt n)) := by rw [upd_ne W2.pm]; exact hp2
      walk_at "go"
      refine ⟨p, dm, dt, _, _, B, n, N, w, rfl, W3, by omega, hok.1, tops_put W.top, fun B' H4 W4 f4 => ?_⟩
      walk_at "go"
      exact kQ m hA B' H4 (W4.mono (by omega)) (((Off.of s2).trans (fun a u g1 g2 g3 e => by rw [upd_ne g2]; exact e)).trans f4)
/-- halved so often, 64 times at most -/
def spHalvedM : Sp := fun vs H Q _ => ∃ c t : Int, vs = [.int c, .int t] ∧ 0 ≤ c ∧ 0 ≤ t ∧ Q (.int (c / 2 ^ (min 64 t).toNat)) H
theorem c_halvedM {c n e : Int} {H : Hp} {Q : VK} {E : XK} (h0 : 0 ≤ c) (h1 : c < 2 ^ 64) (h2 : e ≤ n) (q : Q (.int (worth c e n)) H) : spHalvedM [.int c, .int (n - e)] H Q E := ⟨c, n - e, rfl, h0, by omega, by rw [halved_is h0 h1 h2]; exact q⟩
local macro_rules | `(tactic| walk_at "s") => `(tactic| ((with_reducible refine' c_halvedM ?a ?b ?c ?q); (case a => omega); (case b => omega); (case c => omega)))
theorem ok_law_halved (T : Top K mg C_Pairs C_Wood C_PartWood X_Absent X_NoWord X_Twice cT PT)  : Fn P w K mg base 1 "_law_halved" ["_law_count_here", "_law_times"] spHalvedM := by
  refine T.d_law_halved.ok sc_law_halved bi_law_halved (fun vs H Q E h => ?_) (fun f cdv A outer s H vs Q E hr h => ?_)
  · obtain ⟨c, t, rfl, h0, h1, k⟩ := h; rfl
  · obtain ⟨c, t, rfl, h0, h1, k⟩ := h
    have cl_Pairs := T.cl_Pairs
    have na_Pairs_pair_marks := T.na_Pairs_pair_marks
    have na_Pairs_pair_era := T.na_Pairs_pair_era
    have cl_Wood := T.cl_Wood
    have na_Wood_marks := T.na_Wood_marks
    have na_Wood_tops := T.na_Wood_tops
    have na_Wood_now := T.na_Wood_now
    have cl_PartWood := T.cl_PartWood
    have na_PartWood_marks := T.na_PartWood_marks
    have na_PartWood_tops := T.na_PartWood_tops
    have na_PartWood_now := T.na_PartWood_now
    refine ⟨_, (pss_cons (ps_for PassesOwn.never rfl (pi_range1 rfl T.n_range (pa_cons (pe_callB (call_min2 rfl) rfl T.n_min (by decide +kernel) (pa_cons (pe_int) (pa_cons (pv 1) pa_nil))) pa_nil)) (pg_name (i := 2) sc_law_halved.nd rfl (Or.inl rfl)) (pss_one (ps_set (i := 0) sc_law_halved.nd rfl (Or.inl rfl) (pe_op op_fdiv (pv 0) (pe_int)))))
    (pss_one (ps_ret (pv 0)))), ?_⟩
    have e64 : (min 64 t).toNat ≤ 64 := by omega
    walk_at "go"
    refine ⟨_, _, rfl, ?_⟩
    rw [show (if t < 64 then t else 64) = min 64 t by split <;> omega]
    walk_at "go"
    refine ⟨by omega, by omega, for_range (lo := 0) (n := (min 64 t).toNat) (fun j σ' H' => ∃ v : Option V, σ' = [some (.int (c / 2 ^ j)), some (.int t), v] ∧ H' = H) ⟨none, by first | (rw [Int.pow_zero, Int.ediv_one]; rfl) | rw [Int.pow_zero, Int.ediv_one], rfl⟩ ?_ ?_⟩
    · rintro j σ' H' hj ⟨v, rfl, rfl⟩
      walk_at "go"
      have e : c / 2 ^ j / 2 = c / 2 ^ (j + 1) := by rw [Int.pow_succ, Int.ediv_ediv_of_nonneg (Int.le_of_lt (pow2_pos j))]
      exact ⟨_, by rw [e]; rfl, rfl⟩
    · rintro σ' H' ⟨v, rfl, rfl⟩
      walk_at "go"
      exact k
theorem ok_law_beginning (T : Top K mg C_Pairs C_Wood C_PartWood X_Absent X_NoWord X_Twice cT PT) (F_law_draw : Fn P w K mg base 1 "_law_draw" ["_law_feed_here", "_law_many"] spDraw) : Fn P w K mg base 2 "_law_beginning" ["_law_feed_here", "_law_words_here"] spBegF := by
  refine T.d_law_beginning.ok sc_law_beginning bi_law_beginning (fun vs H Q E h => ?_) (fun f cdv A outer s H vs Q E hr h => ?_)
  · obtain ⟨b, a, ss, d, rfl, hb, hd, ha, hab, hne, hl, hw, k⟩ := h; rfl
  · obtain ⟨b, a, ss, d, rfl, hb, hd, ha, hab, hne, hl, hw, k⟩ := h
    have cl_Pairs := T.cl_Pairs
    have na_Pairs_pair_marks := T.na_Pairs_pair_marks
    have na_Pairs_pair_era := T.na_Pairs_pair_era
    have cl_Wood := T.cl_Wood
    have na_Wood_marks := T.na_Wood_marks
    have na_Wood_tops := T.na_Wood_tops
    have na_Wood_now := T.na_Wood_now
    have cl_PartWood := T.cl_PartWood
    have na_PartWood_marks := T.na_PartWood_marks
    have na_PartWood_tops := T.na_PartWood_tops
    have na_PartWood_now := T.na_PartWood_now
    refine ⟨_, (pss_cons (ps_set (i := 2) sc_law_beginning.nd rfl (Or.inl rfl) (pe_ix ix_list (pv 1) (pe_fn F_law_draw (hr.mono (by decide)) passL (pa_cons (pv 0) (pa_cons (pe_callB call_len_seq rfl T.n_len (by decide +kernel) (pa_cons (pv 1) pa_nil)) pa_nil))) (fun _ _ => rfl)))
    (pss_cons (ps_set (i := 3) sc_law_beginning.nd rfl (Or.inl rfl) (pe_split (pv 2) (pe_str)))
    (pss_cons (ps_set (i := 4) sc_law_beginning.nd rfl (Or.inl rfl) (pe_join (pe_str) (pe_slice sl_list (pv 3) (po_some (pe_fn F_law_draw (hr.mono (by decide)) passL (pa_cons (pv 0) (pa_cons (pe_callB call_len_seq rfl T.n_len (by decide +kernel) (pa_cons (pv 3) pa_nil)) pa_nil)))) po_none)))
    (pss_cons (ps_set (i := 5) sc_law_beginning.nd rfl (Or.inl rfl) (pe_slice sl_str (pe_ix ix_list (pe_lst (pa_cons (pv 2) (pa_cons (pv 4) pa_nil))) (pe_fn F_law_draw (hr.mono (by decide)) passL (pa_cons (pv 0) (pa_cons (pe_int) pa_nil))) (fun _ _ => rfl)) po_none (po_some (pe_fn F_law_draw (hr.mono (by decide)) passL (pa_cons (pv 0) (pa_cons (pe_op op_add (pe_callB call_len_str rfl T.n_len (by decide +kernel) (pa_cons (pv 2) pa_nil)) (pe_int)) pa_nil))))))
    (pss_one (ps_ret (pe_slice sl_str (pe_op op_add_str (pv 5) (pe_ix ix_list (pe_lst (pa_cons (pe_str) (pa_cons (pe_str) (pa_cons (pe_str) (pa_cons (pe_str) (pa_cons (pe_str) (pa_cons (pe_str) pa_nil))))))) (pe_fn F_law_draw (hr.mono (by decide)) passL (pa_cons (pv 0) (pa_cons (pe_int) pa_nil))) (fun _ _ => rfl))) po_none (po_some (pe_int))))))))), ?_⟩
    have hpos : 0 < ss.length := List.length_pos_iff.mpr hne
    walk_at "go"
    rw [List.length_map]
    refine use_draw hb (by omega) (by omega) (by omega) fun r1 H1 r10 r11 b1 s1 => ?_
    have ha1 := s1 _ _ hab ha
    obtain ⟨j, rfl⟩ := Int.eq_ofNat_of_zero_le r10
    have hj : j < ss.length := by omega
    have hone : isW ss[j] = true := hw _ (List.getElem_mem hj)
    refine s_ixL (SqL.of ha1) (atI_nat (j := j) (v := .str ss[j]) (by simp [hj])) ?_
    generalize ss[j] = w at hone ⊢
    have T := Tx.word hone
    have hlen := isW_len hone
    walk_at "go"
    refine ⟨w, _, rfl, rfl, by decide +kernel, by rw [sizeLine_eq]; omega, fun p hp => ?_⟩
    walk_at "go"
    generalize hys : Txt.split w (Str.ofString " ") = ys
    have e := split_blank w
    rw [hys] at e
    have hL : (upd H1 p (.lst (ys.map V.str))) p = some (.lst (ys.map V.str)) := upd_same
    have b2 := b1.new (o := .lst (ys.map V.str)) hp
    have f2 := s1.new (o := .lst (ys.map V.str)) hp
    generalize (upd H1 p (.lst (ys.map V.str))) = G at b2 f2 hL ⊢
    have h4 : ys.length ≤ 4 := by
      have := wordL_spA hone
      rw [← e, List.length_map] at this
      exact this
    have hy0 : 0 < ys.length := by
      rw [List.length_pos_iff]
      rintro rfl
      exact spA_ne _ _ e.symm
    have hmem : ∀ y ∈ ys, Tx 24 y := fun y hy => by
      obtain ⟨a, b⟩ := split_mem (s := w) (by rw [hys]; exact hy)
      refine ⟨by rw [← TL.len_tl, ← TL.len_tl] at a; omega, strOk_iff.mpr fun c hc => strOk_iff.mp T.ok c (b c hc)⟩
    walk_at "go"
    rw [List.length_map]
    have npb : p ≠ b := b2.nes hL
    refine use_draw b2 (by omega) (by omega) (by omega) fun r2 H2 r20 r21 b3 s3 => ?_
    have hL2 := s3 _ _ npb hL
    have f3 := f2.trans s3
    walk_at "go"
    intro q hq
    rw [cutV_from _ r20, ← List.map_drop]
    have b4 := b3.new (o := .lst ((ys.drop r2.toNat).map V.str)) hq
    have f4 := f3.new (o := .lst ((ys.drop r2.toNat).map V.str)) hq
    have hq4 : (upd H2 q (.lst ((ys.drop r2.toNat).map V.str))) q = some (.lst ((ys.drop r2.toNat).map V.str)) := upd_same
    generalize (upd H2 q (.lst ((ys.drop r2.toNat).map V.str))) = G2 at b4 f4 hq4 ⊢
    have hmem2 : ∀ y ∈ ys.drop r2.toNat, Tx 24 y := fun y hy => hmem y (List.mem_of_mem_drop hy)
    have hj2 := Tx.join hmem2
    have hsum := sum_len_le (f := fun p : Str => p.length) (n := 24) (l := ys.drop r2.toNat) fun p hp => (hmem2 p hp).len
    have hdl : (ys.drop r2.toNat).length ≤ 4 := by rw [List.length_drop]; omega
    have Tj : Tx 200 (Txt.join (Str.ofString " ") (ys.drop r2.toNat)) := hj2.mono (by omega)
    walk_at "go"
    refine ⟨_, q, _, rfl, rfl, .inl (SqL.of hq4), by
      rw [TL.len_tl (Str.ofString " "), tl_blank]
      simp only [List.length_singleton]; omega, ?_⟩
    generalize Txt.join (Str.ofString " ") (ys.drop r2.toNat) = tj at Tj ⊢
    walk_at "go"
    refine ⟨sz (by simp), fun q2 hq2 => ?_⟩
    have b5 := b4.new (o := .lst [.str w, .str tj]) hq2
    have f5 := f4.new (o := .lst [.str w, .str tj]) hq2
    have n5 := (b4.ne hq2).symm
    have hq5 : upd G2 q2 (.lst [.str w, .str tj]) q2 = _ := upd_same
    generalize upd G2 q2 (.lst [.str w, .str tj]) = G3 at b5 f5 hq5 ⊢
    walk_at "go"
    refine use_draw b5 (by omega) (by omega) (by omega) fun r3 H3 r30 r31 b6 s6 => ?_
    have f6 := f5.trans s6
    obtain ⟨x, hx, Tx0⟩ : ∃ x : Str, atI [V.str w, V.str tj] r3 = some (.str x) ∧ Tx 200 x := by
      have : r3 = 0 ∨ r3 = 1 := by omega
      rcases this with rfl | rfl
      · exact ⟨_, rfl, T.mono (by decide)⟩
      · exact ⟨_, rfl, Tj⟩
    refine s_ixL (SqL.of (s6 _ _ n5 hq5)) hx ?_
    walk_at "go"
    refine ⟨w, rfl, sz (by omega), ?_⟩
    walk_at "go"
    refine use_draw b6 (by omega) (by omega) (by omega) fun r4 H4 r40 r41 b7 s7 => ?_
    have f7 := f6.trans s7
    walk_at "go"
    refine s_slS (sz (Nat.le_trans Tx0.len (by decide))) ?_
    have T2 : Tx 24 (cutS x none (some r4)) := ⟨by
      rw [TL.len_tl, tl_cut_to r40, List.length_take]; omega, (Tx0.cut none (some r4)).ok⟩
    generalize cutS x none (some r4) = y at T2 ⊢
    walk_at "go"
    refine ⟨sz (by simp), fun q3 hq3 => ?_⟩
    have b8 := b7.new (o := .lst [.str (Str.ofString ""), .str (Str.ofString ""), .str (Str.ofString ""), .str (Str.ofString "b"), .str (Str.ofString " "), .str (Str.ofString "a")]) hq3
    have n8 := (b7.ne hq3).symm
    walk_at "go"
    refine use_draw b8 (by omega) (by omega) (by omega) fun r5 H5 r50 r51 b9 s9 => ?_
    obtain ⟨z, hz, Tz⟩ : ∃ z : Str, atI [V.str (Str.ofString ""), V.str (Str.ofString ""), V.str (Str.ofString ""), V.str (Str.ofString "b"), V.str (Str.ofString " "), V.str (Str.ofString "a")] r5 = some (.str z) ∧ Tx 1 z := by
      have : r5 = 0 ∨ r5 = 1 ∨ r5 = 2 ∨ r5 = 3 ∨ r5 = 4 ∨ r5 = 5 := by omega
      rcases this with rfl | rfl | rfl | rfl | rfl | rfl <;> exact ⟨_, rfl, by decide +kernel, by decide +kernel⟩
    refine s_ixL (SqL.of (s9 _ _ n8 upd_same)) hz ?_
    have a2 := T2.app Tz
    refine ⟨_, _, rfl, rfl, sz (by have := T2.len; have := Tz.len; omega), ?_⟩
    walk_at "go"
    refine s_slS (sz (Nat.le_trans a2.len (by decide))) ?_
    refine k _ _ ⟨?_, (a2.cut none (some 24)).ok⟩ (b9.mono (by omega)) ((f7.new hq3).trans s9)
    rw [TL.len_tl, tl_cut_to (by decide), List.length_take]
    omega
/-! ### steps by things -/
local macro_rules | `(tactic| walk_at "pk") => `(tactic| first | with_reducible exact Pick.here | ((with_reducible refine' Pick.there ?k); (case k => walk_at "pk")))
local macro_rules | `(tactic| walk_at "ent") => `(tactic| first | with_reducible exact Ent.refl | ((with_reducible refine ent_dic ?_); omega) | exact Ent.refl)
local macro_rules | `(tactic| walk_at "spl") => `(tactic| first
  | with_reducible exact Spl.nil
  | with_reducible exact Spl.all
  | ((with_reducible refine' Spl.cons ?p Ent.refl ?r); (case p => walk_at "pk"); (case r => walk_at "spl"))
  | ((with_reducible refine' Spl.cons ?p ?e ?r); (case p => exact Pick.here); (case e => walk_at "ent"); (case r => walk_at "spl"))
  | ((with_reducible refine' Spl.cons ?p ?e ?r); (case p => exact Pick.there Pick.here); (case e => walk_at "ent"); (case r => walk_at "spl"))
  | ((with_reducible refine' Spl.cons ?p ?e ?r); (case p => exact Pick.there (Pick.there Pick.here)); (case e => walk_at "ent"); (case r => walk_at "spl"))
  | ((with_reducible refine' Spl.cons ?p ?e ?r); (case p => exact Pick.there (Pick.there (Pick.there Pick.here))); (case e => walk_at "ent"); (case r => walk_at "spl"))
  | ((with_reducible refine' Spl.skip ?k); (case k => walk_at "spl")))
local macro_rules | `(tactic| walk_at "chg") => `(tactic| first | with_reducible exact Chg.here | ((with_reducible refine' Chg.there ?k); (case k => walk_at "chg")))
local macro_rules | `(tactic| walk_at "hp") => `(tactic| first
  | ((with_reducible refine' Sep.lis ?h ?k); (case h => assumption); (case k => walk_at "pk"))
  | ((with_reducible refine' Sep.lisD ?h ?k); (case h => assumption); (case k => walk_at "pk"))
  | ((with_reducible refine' Sep.tpl ?h ?k); (case h => assumption); (case k => walk_at "pk")))
local macro_rules | `(tactic| walk_at "sq") => `(tactic| ((with_reducible refine' Sep.scr2 ?h ?k ?e); (case h => assumption); (case k => walk_at "pk"); (case e => rfl)))
local macro_rules | `(tactic| walk_at "pd") => `(tactic| first
  | with_reducible exact PD.int _ | with_reducible exact PD.str _ | with_reducible exact PD.bl _ | with_reducible exact PD.non | assumption
  | ((with_reducible refine' Sep.dat ?h ?k); (case h => assumption); (case k => walk_at "pk")))
local macro_rules | `(tactic| walk_at "pds") => `(tactic| first | with_reducible exact PDs.nil | ((with_reducible refine' PDs.cons ?a ?b); (case a => walk_at "pd"); (case b => walk_at "pds")))
local macro_rules | `(tactic| walk_at "sz") => `(tactic| exact Nat.le_of_ble_eq_true rfl)
local macro_rules | `(tactic| walk_at "u") => `(tactic| with_reducible first
  | refine u_lstS ?_
  | refine u_tupS ?_
  | refine u_makeS ?_
  | refine u_forL ?_
  | refine u_lcL ?_)
local macro_rules | `(tactic| walk_at "s") => `(tactic| first
  | ((with_reducible refine' n_lst ?h ?l ?q); (case h => assumption); (case l => walk_at "sz"); (case' q => intro _ _ _))
  | ((with_reducible refine' n_tup ?h ?g ?l ?q); (case h => assumption); (case g => walk_at "pds"); (case l => walk_at "sz"); (case' q => intro _ _ _))
  | ((with_reducible refine' n_tupl ?h ?l ?q); (case h => assumption); (case l => walk_at "sz"); (case' q => intro _ _ _))
  | ((with_reducible refine' n_dnew ?h ?q); (case h => assumption); (case' q => intro _ _ _))
  | ((with_reducible refine' n_sl ?h ?s ?q); (case h => assumption); (case s => walk_at "sq"); (case' q => intro _ _ _))
  | ((with_reducible refine' n_app ?h ?k ?l ?q); (case h => assumption); (case k => walk_at "chg"); (case l => walk_at "sl"); (case' q => intro _ _))
  | ((with_reducible refine' n_appD ?h ?k ?g ?l ?q); (case h => assumption); (case k => walk_at "chg"); (case g => walk_at "pd"); (case l => walk_at "sl"); (case' q => intro _ _))
  | ((with_reducible refine' n_setL ?h ?k ?e ?g); (case h => assumption); (case k => walk_at "chg"); (case e => rfl); (case' g => intro _ _))
  | ((with_reducible refine' n_din ?h ?k ?q); (case h => assumption); (case k => walk_at "pk"))
  | ((with_reducible refine' n_dnotin ?h ?k ?q); (case h => assumption); (case k => walk_at "pk"))
  | ((with_reducible refine' n_dget ?h ?k ?e ?q); (case h => assumption); (case k => walk_at "pk"); (case e => walk_at "val"))
  | ((with_reducible refine' n_fld ?h ?k ?c ?n ?l ?q); (case h => assumption); (case k => walk_at "pk"); (case c => assumption); (case n => assumption); (case l => walk_at "lk"))
  | ((with_reducible refine' n_sfld ?h ?k ?c ?n ?hl ?q); (case h => assumption); (case k => walk_at "chg"); (case c => assumption); (case n => assumption); (case hl => walk_at "wl"); (case' q => intro _ _))
  | ((with_reducible refine' n_meth ?h ?k ?l ?q); (case h => assumption); (case k => walk_at "pk"); (case l => walk_at "no"))
  | ((with_reducible refine' n_methD ?h ?k ?l ?q); (case h => assumption); (case k => walk_at "pk"); (case l => walk_at "no"))
  | ((with_reducible refine' n_make ?h ?q); (case h => assumption); (case' q => intro _ _ _)))
local macro_rules | `(tactic| walk_at "sl") => `(tactic| first | assumption | (rw [sizeLine_eq]; omega) | (simp only [List.length_map, List.length_append, List.length_cons, List.length_nil]; rw [sizeLine_eq]; omega))
local macro_rules | `(tactic| walk_at "val") => `(tactic| first | assumption | exact vI_some (by assumption))
/-- the things wanted are among those at hand -/
local macro_rules | `(tactic| walk_at "sep") => `(tactic| ((refine' Sep.only ?h ?s); (case h => assumption); (case s => walk_at "spl")))
local macro_rules | `(tactic| walk_at "lc") => `(tactic| ((refine' LC.put ?h ?s ?y ?e ?l); (case h => assumption); (case s => walk_at "spl"); (case y => walk_at "pd")))
local macro_rules | `(tactic| walk_at "lc0") => `(tactic| ((refine' LC.skip ?h ?s ?e); (case h => assumption); (case s => walk_at "spl")))
local macro_rules | `(tactic| walk_at "dp") => `(tactic| first
  | ((with_reducible refine' Sep.dpE ?h ?k); (case h => assumption); (case k => walk_at "pk"))
  | ((with_reducible refine' Sep.dpS ?h ?k); (case h => assumption); (case k => walk_at "pk"))
  | ((with_reducible refine' Sep.dpL ?h ?k); (case h => assumption); (case k => walk_at "pk"))
  | ((with_reducible refine' PD.dp ?h); (case h => walk_at "pd")))
local macro_rules | `(tactic| walk_at "s") => `(tactic| first
  | ((with_reducible refine' n_neD ?x ?y ?a ?b ?q); (case x => walk_at "dp"); (case y => walk_at "dp"); (case a => walk_at "shp"); (case b => walk_at "shp"))
  | ((with_reducible refine' n_eqD ?x ?y ?a ?b ?q); (case x => walk_at "dp"); (case y => walk_at "dp"); (case a => walk_at "shp"); (case b => walk_at "shp")))
local macro_rules | `(tactic| walk_at "shp") => `(tactic| first | rfl | assumption)
/-- a test whose answer is plain -/
local macro_rules | `(tactic| walk_at "if") => `(tactic| first | ((refine' iteTc ?h ?k); (case h => rfl)) | ((refine' iteFc ?h ?k); (case h => rfl)))
local macro_rules | `(tactic| walk_at "s") => `(tactic| ((with_reducible refine' s_ixL ?h ?a ?q); (case h => walk_at "sq"); (case a => assumption)))
local macro_rules | `(tactic| walk_at "u") => `(tactic| ((with_reducible refine' n_dnew ?h ?q); (case h => assumption); (case' q => intro _ _ _)))
local macro_rules | `(tactic| walk_at "s") => `(tactic| first
  | with_reducible refine iteNeSelf ?_
  | with_reducible refine iteEqSelf ?_
  | ((with_reducible refine' iteNeqv ?h ?k); (case h => assumption))
  | ((with_reducible refine' iteEqv ?h ?k); (case h => assumption))
  | ((with_reducible refine' n_slScr ?h ?k ?e ?q); (case h => assumption); (case k => walk_at "pk"); (case e => rfl); (case' q => intro _ _ _ _ _)))
local macro_rules | `(tactic| walk_at "s") => `(tactic| first
  | ((with_reducible refine' n_cat ?h ?k1 ?k2 ?l ?q); (case h => assumption); (case k1 => walk_at "pk"); (case k2 => walk_at "pk"); (case l => walk_at "sl2"); (case' q => intro _ _ _))
  | ((with_reducible refine' n_catD ?h ?k1 ?k2 ?l ?q); (case h => assumption); (case k1 => walk_at "pk"); (case k2 => walk_at "pk"); (case l => walk_at "sl2"); (case' q => intro _ _ _)))
local macro_rules | `(tactic| walk_at "sl2") => `(tactic| first | assumption | (simp only [List.length_map, List.length_append, List.length_cons, List.length_nil]; rw [sizeLine_eq]; omega))
local macro_rules | `(tactic| walk_at "s") => `(tactic| first
  | ((with_reducible refine' n_dinL ?h ?k ?q); (case h => assumption); (case k => walk_at "pk"))
  | ((with_reducible refine' n_dnotinL ?h ?k ?q); (case h => assumption); (case k => walk_at "pk"))
  | ((with_reducible refine' n_dgetL ?h ?k ?e ?q); (case h => assumption); (case k => walk_at "pk"); (case e => first | exact vI_some (by assumption) | assumption)))
local macro_rules | `(tactic| walk_at "u") => `(tactic| with_reducible refine u_lockAsg ?_)
local macro_rules | `(tactic| walk_at "s") => `(tactic| ((with_reducible refine' n_lenD ?h ?k ?q); (case h => assumption); (case k => walk_at "pk"); (case' q => intro _ _)))
/-! ### woods, boxes -/
local macro_rules | `(tactic| walk_at "s") => `(tactic| first
  | ((with_reducible refine' c_take ?h ?k ?m ?q); (case h => assumption); (case k => walk_at "pk"); (case m => walk_at "sd"); (case' q => intro _ _ _ _))
  | ((with_reducible refine' c_box ?h ?q); (case h => assumption); (case' q => intro _ _ _))
  | ((with_reducible refine' c_cell ?h ?k ?i ?q); (case h => assumption); (case k => walk_at "pk"); (case i => walk_at "sd"); (case' q => intro _))
  | ((with_reducible refine' c_count ?h ?k ?q); (case h => assumption); (case k => walk_at "pk"); (case' q => intro _ _ _ _))
  | ((with_reducible refine' c_times ?h ?k ?q); (case h => assumption); (case k => walk_at "pk"); (case' q => intro _ _ _ _))
  | ((with_reducible refine' c_word ?h ?k ?q); (case h => assumption); (case k => walk_at "pk"); (case' q => intro _ _ _ _))
  | ((with_reducible refine' c_next ?h ?k ?g ?l ?w ?q); (case h => assumption); (case k => walk_at "pk"); (case g => walk_at "pk"); (case l => walk_at "sd"); (case w => assumption); (case' q => intro _ _ _ _))
  | ((with_reducible refine' c_winit ?h ?k ?q); (case h => assumption); (case k => walk_at "chg"); (case' q => (intro _ _; refine ⟨rfl, ?_⟩)))
  | ((with_reducible refine' c_era ?h ?k ?q); (case h => assumption); (case k => walk_at "pk"))
  | ((with_reducible refine' c_has ?h ?k ?q); (case h => assumption); (case k => walk_at "pk"))
  | ((with_reducible refine' c_fade ?h ?k ?t ?q); (case h => assumption); (case k => walk_at "chg"); (case t => walk_at "sd"); (case' q => intro _ _))
  | ((with_reducible refine' c_put ?h ?k ?w ?g ?b ?q); (case h => assumption); (case k => walk_at "chg"); (case w => assumption); (case g => assumption); (case b => walk_at "sd"); (case' q => intro _ _))
  | ((with_reducible refine' c_use ?h ?k ?g ?b ?q); (case h => assumption); (case k => walk_at "chg"); (case g => assumption); (case b => walk_at "sd"); (case' q => intro _ _))
  | ((with_reducible refine' c_strike ?h ?k ?g ?b ?q); (case h => assumption); (case k => walk_at "chg"); (case g => assumption); (case b => walk_at "sd"); (case' q => intro _ _))
  | ((with_reducible refine' c_worth ?h ?k ?g ?q); (case h => assumption); (case k => walk_at "pk"); (case g => assumption))
  | ((with_reducible refine' n_methW ?h ?k ?h1 ?h2 ?h3 ?q); (case h => assumption); (case k => walk_at "pk"); (case h1 => decide +kernel); (case h2 => decide +kernel); (case h3 => decide +kernel))
  | ((with_reducible refine' n_methWD ?h ?k ?h1 ?h2 ?h3 ?q); (case h => assumption); (case k => walk_at "pk"); (case h1 => decide +kernel); (case h2 => decide +kernel); (case h3 => decide +kernel)))
local macro_rules | `(tactic| walk_at "ent") => `(tactic| ((with_reducible refine ent_wd ?_); omega))
local macro_rules | `(tactic| walk_at "s") => `(tactic| first
  | ((with_reducible refine' n_wmarks ?h ?k ?c ?z ?q); (case h => assumption); (case k => walk_at "pk"); (case c => assumption); (case z => assumption))
  | ((with_reducible refine' n_wtops ?h ?k ?c ?z ?q); (case h => assumption); (case k => walk_at "pk"); (case c => assumption); (case z => assumption))
  | ((with_reducible refine' n_wnow ?h ?k ?c ?z ?q); (case h => assumption); (case k => walk_at "pk"); (case c => assumption); (case z => assumption))
  | ((with_reducible refine' n_wmeth ?h ?k ?h1 ?h2 ?h3 ?q); (case h => assumption); (case k => walk_at "pk"); (case h1 => decide +kernel); (case h2 => decide +kernel); (case h3 => decide +kernel))
  | ((with_reducible refine' n_minW ?h ?k ?q); (case h => assumption); (case k => walk_at "pk"))
  | ((with_reducible refine' n_tinW ?h ?k ?q); (case h => assumption); (case k => walk_at "pk"))
  | ((with_reducible refine' n_tnotinW ?h ?k ?q); (case h => assumption); (case k => walk_at "pk"))
  | ((with_reducible refine' n_mgetW ?h ?k ?e ?q); (case h => assumption); (case k => walk_at "pk"); (case e => assumption); (case' q => intro _ _ _ _))
  | ((with_reducible refine' n_tgetW ?h ?k ?e ?q); (case h => assumption); (case k => walk_at "pk"); (case e => assumption); (case' q => intro _ _ _ _))
  | ((with_reducible refine' c_worthat ?t ?c ?q); (case t => assumption); (case c => first | assumption | omega))
  | ((with_reducible refine' n_msortW ?h ?k ?q); (case h => assumption); (case k => walk_at "pk"); (case' q => intro _ _ _))
  | ((with_reducible refine' c_words ?h ?k ?n ?q); (case h => assumption); (case k => walk_at "pk"); (case n => walk_at "sd"); (case' q => intro _ _ _ _)))
local macro_rules | `(tactic| walk_at "ent") => `(tactic| (with_reducible exact ent_wdR))
local macro_rules | `(tactic| walk_at "s") => `(tactic| first
  | ((with_reducible refine' c_topR ?h ?k ?t ?q); (case h => assumption); (case k => walk_at "pk"); (case t => assumption))
  | ((with_reducible refine' c_worthR ?h ?k ?t ?q); (case h => assumption); (case k => walk_at "pk"); (case t => assumption))
  | ((with_reducible refine' c_longer ?h ?k ?x ?q); (case h => assumption); (case k => walk_at "pk"); (case x => assumption); (case' q => intro _ _ _))
  | ((with_reducible refine' c_told ?h ?k ?n ?q); (case h => assumption); (case k => walk_at "pk"); (case n => walk_at "sd"); (case' q => intro _ _ _ _))
  | ((with_reducible refine' c_cut ?h ?k ?n ?q); (case h => assumption); (case k => walk_at "pk"); (case n => walk_at "sd"); (case' q => intro _ _ _ _ _ _ _)))
local macro_rules | `(tactic| walk_at "s") => `(tactic| first
  | ((with_reducible refine' n_minB ?h ?k ?q); (case h => assumption); (case k => walk_at "pk"); (case' q => intro _ _ _ _ _))
  | ((with_reducible refine' n_remB ?h ?k ?g ?m ?q); (case h => assumption); (case k => walk_at "pk"); (case g => walk_at "pk"); (case m => assumption); (case' q => intro _ _ _ _ _)))
local macro_rules | `(tactic| walk_at "s") => `(tactic| first
  | ((with_reducible refine' n_inS ?h ?k ?q); (case h => assumption); (case k => walk_at "pk"))
  | ((with_reducible refine' n_notInS ?h ?k ?q); (case h => assumption); (case k => walk_at "pk"))
  | ((with_reducible refine' c_ahead ?h ?k1 ?k2 ?q); (case h => assumption); (case k1 => walk_at "pk"); (case k2 => walk_at "pk"))
  | ((with_reducible refine' c_countS ?h ?k ?q); (case h => assumption); (case k => walk_at "pk"); (case' q => intro _ _ _ _))
  | ((with_reducible refine' c_timesS ?h ?k ?q); (case h => assumption); (case k => walk_at "pk"); (case' q => intro _ _ _ _))
  | ((with_reducible refine' n_dinG ?h ?k ?q); (case h => assumption); (case k => walk_at "pk"))
  | ((with_reducible refine' n_dnotinG ?h ?k ?q); (case h => assumption); (case k => walk_at "pk"))
  | ((with_reducible refine' n_dgetG ?h ?k ?e ?q); (case h => assumption); (case k => walk_at "pk"); (case e => walk_at "gv"))
  | ((with_reducible refine' n_dputGO ?h ?k ?n ?e ?q); (case h => assumption); (case k => walk_at "chg"); (case n => omega); (case e => walk_at "gs"); (case' q => intro _ _))
  | ((with_reducible refine' n_dputG ?h ?k ?n ?q); (case h => assumption); (case k => walk_at "chg"); (case n => omega); (case' q => intro _ _))
  | ((with_reducible refine' n_dpopG ?h ?k ?e ?r ?q); (case h => assumption); (case k => walk_at "chg"); (case e => walk_at "gv"); (case r => exact (fun R r => s_var rfl r)); (case' q => intro _ _))
  | ((with_reducible refine' n_listG ?h ?k ?o ?q); (case h => assumption); (case k => walk_at "pk"); (case o => assumption); (case' q => intro _ _ _ _ _ _ _ _))
  | ((with_reducible refine' n_sortG ?h ?k ?q); (case h => assumption); (case k => walk_at "pk"); (case' q => intro _ _ _))
  | ((with_reducible refine' n_slT ?h ?k ?m ?q); (case h => assumption); (case k => walk_at "pk"); (case m => omega); (case' q => intro _ _ _)))
local macro_rules | `(tactic| walk_at "gv") => `(tactic| first | with_reducible exact seti_same | assumption)
local macro_rules | `(tactic| walk_at "gs") => `(tactic| first | assumption | exact Option.isSome_iff_exists.mpr ⟨_, seti_same⟩ | exact Option.isSome_iff_exists.mpr ⟨_, by assumption⟩)
local macro_rules | `(tactic| walk_at "s") => `(tactic| first
  | ((with_reducible refine' c_topV ?h ?k ?q); (case h => assumption); (case k => walk_at "pk"))
  | with_reducible refine s_neTop ?_
  | ((with_reducible refine' iteNeqv ?h ?k); (case h => walk_at "eqv"))
  | ((with_reducible refine' iteEqv ?h ?k); (case h => walk_at "eqv")))
local macro_rules | `(tactic| walk_at "eqv") => `(tactic| with_reducible first | exact GOk.eqv (by assumption) | exact GOk.eqvT (by assumption))
local macro_rules | `(tactic| walk_at "shp") => `(tactic| with_reducible first | exact GOk.shp (by assumption) | exact GOk.shpT (by assumption))
local macro_rules | `(tactic| walk_at "tl") => `(tactic| first | assumption | exact isW_sl (by assumption) | (refine sz ?_; omega))
local macro_rules | `(tactic| walk_at "s") => `(tactic| first
  | ((with_reducible refine' s_slS ?h ?q); (case h => walk_at "tl"))
  | ((with_reducible refine' Exists.intro _ (And.intro (show [V.str _] = [V.str _] from rfl) (And.intro ?h ?q))); (case h => walk_at "tl"))
  | ((with_reducible refine' Exists.intro _ (Exists.intro _ (And.intro (show V.str _ = V.str _ from rfl) (And.intro (show V.str _ = V.str _ from rfl) (And.intro ?h ?q))))); (case h => walk_at "tl2"))
  | ((with_reducible refine' n_sortR ?h ?k ?q); (case h => assumption); (case k => walk_at "pk"); (case' q => intro _ _ _ _)))
local macro_rules | `(tactic| walk_at "tl2") => `(tactic| first | assumption | (rw [sizeLine_eq]; omega))
local macro_rules | `(tactic| walk_at "s") => `(tactic| first
  | ((with_reducible refine' n_eqIE ?h ?k ?k2 ?q); (case h => assumption); (case k => walk_at "pk"); (case k2 => walk_at "pk"))
  | ((with_reducible refine' n_neIE ?h ?k ?k2 ?q); (case h => assumption); (case k => walk_at "pk"); (case k2 => walk_at "pk"))
  | ((with_reducible refine' n_eqSE ?h ?k ?k2 ?o ?q); (case h => assumption); (case k => walk_at "pk"); (case k2 => walk_at "pk"); (case o => assumption)))
local macro_rules | `(tactic| walk_at "s") => `(tactic| with_reducible refine And.intro (show V.non = V.non from rfl) ?_)
local macro_rules | `(tactic| walk_at "eqv") => `(tactic| (show PyData.eqv (.list []) (.list []) = true; simp [PyData.eqv, PyData.eqvAll]))
local macro_rules | `(tactic| walk_at "s") => `(tactic| ((with_reducible refine' n_sortS ?h ?k ?q); (case h => assumption); (case k => walk_at "pk"); (case' q => intro _ _ _)))
local macro_rules | `(tactic| walk_at "u") => `(tactic| with_reducible refine u_kw ?_)
local macro_rules | `(tactic| walk_at "same") => `(tactic| first
  | with_reducible exact same_non | with_reducible exact same_bl | with_reducible exact same_int | with_reducible exact same_str
  | ((with_reducible refine' same_rated ?h ?h1 ?h2 ?hn); (case h => assumption); (case h1 => walk_at "pk"); (case h2 => walk_at "pk"); (case hn => first | assumption | omega))
  | ((with_reducible refine' same_strs ?h1 ?h2 ?hn); (case h1 => walk_at "pk"); (case h2 => walk_at "pk"); (case hn => first | assumption | omega))
  | ((with_reducible refine' same_texts ?h1 ?h2 ?hn); (case h1 => walk_at "pk"); (case h2 => walk_at "pk"); (case hn => first | assumption | omega)))
local macro_rules | `(tactic| walk_at "s") => `(tactic| ((with_reducible refine' c_same ?h ?s ?q); (case h => assumption); (case s => walk_at "same"); (case' q => intro _ _)))
local macro_rules | `(tactic| walk_at "shp") => `(tactic| with_reducible exact GOk.shpX (by assumption))
local macro_rules | `(tactic| walk_at "eqv") => `(tactic| with_reducible exact GOk.eqvX (by assumption))
local macro_rules | `(tactic| walk_at "same") => `(tactic| with_reducible exact same_topV)
local macro_rules | `(tactic| walk_at "s") => `(tactic| ((with_reducible refine' n_clear ?h ?k ?q); (case h => assumption); (case k => walk_at "chg"); (case' q => intro _ _)))
local macro_rules | `(tactic| walk_at "u") => `(tactic| with_reducible refine u_callS ?_)
local macro_rules | `(tactic| walk_at "s") => `(tactic| ((with_reducible refine Exists.intro _ (Exists.intro _ (And.intro (show V.str _ = V.str _ from rfl) (And.intro (show [V.str _] = [V.str _] from rfl) ?_)))); rw [starts_pre]))
local macro_rules | `(tactic| walk_at "same") => `(tactic| with_reducible exact same_askV)
local macro_rules | `(tactic| walk_at "u") => `(tactic| with_reducible refine u_methS ?_)
local macro_rules | `(tactic| walk_at "u") => `(tactic| ((with_reducible refine' n_tnew ?h ?q); (case h => assumption); (case' q => intro _ _ _)))
local macro_rules | `(tactic| walk_at "ent") => `(tactic| ((with_reducible refine ent_dct ?_); omega))
local macro_rules | `(tactic| walk_at "s") => `(tactic| ((with_reducible refine' n_listS ?h ?l ?q); (case h => assumption); (case l => walk_at "tl"); (case' q => intro _ _ _)))
/-! fields -/
local macro_rules | `(tactic| walk_at "lk") => `(tactic| with_reducible exact lk_Pairs_pair_marks)
local macro_rules | `(tactic| walk_at "s") => `(tactic| ((with_reducible refine' n_set_Pairs_pair_marks ?h ?k ?c ?n ?q); (case h => assumption); (case k => walk_at "chg"); (case c => assumption); (case n => assumption); (case' q => intro _ _)))
local macro_rules | `(tactic| walk_at "s") => `(tactic| ((with_reducible refine' n_ini_Pairs_pair_marks ?h ?k ?c ?n ?q); (case h => assumption); (case k => walk_at "chg"); (case c => assumption); (case n => assumption); (case' q => intro _ _)))
local macro_rules | `(tactic| walk_at "lk") => `(tactic| with_reducible exact lk_Pairs_pair_era)
local macro_rules | `(tactic| walk_at "s") => `(tactic| ((with_reducible refine' n_set_Pairs_pair_era ?h ?k ?c ?n ?q); (case h => assumption); (case k => walk_at "chg"); (case c => assumption); (case n => assumption); (case' q => intro _ _)))
local macro_rules | `(tactic| walk_at "s") => `(tactic| ((with_reducible refine' n_ini_Pairs_pair_era ?h ?k ?c ?n ?q); (case h => assumption); (case k => walk_at "chg"); (case c => assumption); (case n => assumption); (case' q => intro _ _)))
local macro_rules | `(tactic| walk_at "no") => `(tactic| ((with_reducible refine no_Pairs ?_ ?_) <;> decide +kernel))
local macro_rules | `(tactic| walk_at "lk") => `(tactic| with_reducible exact lk_Layers_layer_house)
local macro_rules | `(tactic| walk_at "s") => `(tactic| ((with_reducible refine' n_set_Layers_layer_house ?h ?k ?c ?n ?q); (case h => assumption); (case k => walk_at "chg"); (case c => assumption); (case n => assumption); (case' q => intro _ _)))
local macro_rules | `(tactic| walk_at "s") => `(tactic| ((with_reducible refine' n_ini_Layers_layer_house ?h ?k ?c ?n ?q); (case h => assumption); (case k => walk_at "chg"); (case c => assumption); (case n => assumption); (case' q => intro _ _)))
local macro_rules | `(tactic| walk_at "lk") => `(tactic| with_reducible exact lk_Layers_layer_own)
local macro_rules | `(tactic| walk_at "s") => `(tactic| ((with_reducible refine' n_set_Layers_layer_own ?h ?k ?c ?n ?q); (case h => assumption); (case k => walk_at "chg"); (case c => assumption); (case n => assumption); (case' q => intro _ _)))
local macro_rules | `(tactic| walk_at "s") => `(tactic| ((with_reducible refine' n_ini_Layers_layer_own ?h ?k ?c ?n ?q); (case h => assumption); (case k => walk_at "chg"); (case c => assumption); (case n => assumption); (case' q => intro _ _)))
local macro_rules | `(tactic| walk_at "lk") => `(tactic| with_reducible exact lk_Layers_layer_hidden)
local macro_rules | `(tactic| walk_at "s") => `(tactic| ((with_reducible refine' n_set_Layers_layer_hidden ?h ?k ?c ?n ?q); (case h => assumption); (case k => walk_at "chg"); (case c => assumption); (case n => assumption); (case' q => intro _ _)))
local macro_rules | `(tactic| walk_at "s") => `(tactic| ((with_reducible refine' n_ini_Layers_layer_hidden ?h ?k ?c ?n ?q); (case h => assumption); (case k => walk_at "chg"); (case c => assumption); (case n => assumption); (case' q => intro _ _)))
local macro_rules | `(tactic| walk_at "no") => `(tactic| ((with_reducible refine no_Layers ?_ ?_ ?_) <;> decide +kernel))
local macro_rules | `(tactic| walk_at "lk") => `(tactic| with_reducible exact lk_Typist_layers)
local macro_rules | `(tactic| walk_at "s") => `(tactic| ((with_reducible refine' n_set_Typist_layers ?h ?k ?c ?n ?q); (case h => assumption); (case k => walk_at "chg"); (case c => assumption); (case n => assumption); (case' q => intro _ _)))
local macro_rules | `(tactic| walk_at "s") => `(tactic| ((with_reducible refine' n_ini_Typist_layers ?h ?k ?c ?n ?q); (case h => assumption); (case k => walk_at "chg"); (case c => assumption); (case n => assumption); (case' q => intro _ _)))
local macro_rules | `(tactic| walk_at "lk") => `(tactic| with_reducible exact lk_Typist_most_told)
local macro_rules | `(tactic| walk_at "s") => `(tactic| ((with_reducible refine' n_set_Typist_most_told ?h ?k ?c ?n ?q); (case h => assumption); (case k => walk_at "chg"); (case c => assumption); (case n => assumption); (case' q => intro _ _)))
local macro_rules | `(tactic| walk_at "s") => `(tactic| ((with_reducible refine' n_ini_Typist_most_told ?h ?k ?c ?n ?q); (case h => assumption); (case k => walk_at "chg"); (case c => assumption); (case n => assumption); (case' q => intro _ _)))
local macro_rules | `(tactic| walk_at "lk") => `(tactic| with_reducible exact lk_Typist_chosen_pairs)
local macro_rules | `(tactic| walk_at "s") => `(tactic| ((with_reducible refine' n_set_Typist_chosen_pairs ?h ?k ?c ?n ?q); (case h => assumption); (case k => walk_at "chg"); (case c => assumption); (case n => assumption); (case' q => intro _ _)))
local macro_rules | `(tactic| walk_at "s") => `(tactic| ((with_reducible refine' n_ini_Typist_chosen_pairs ?h ?k ?c ?n ?q); (case h => assumption); (case k => walk_at "chg"); (case c => assumption); (case n => assumption); (case' q => intro _ _)))
local macro_rules | `(tactic| walk_at "lk") => `(tactic| with_reducible exact lk_Typist_text)
local macro_rules | `(tactic| walk_at "s") => `(tactic| ((with_reducible refine' n_set_Typist_text ?h ?k ?c ?n ?q); (case h => assumption); (case k => walk_at "chg"); (case c => assumption); (case n => assumption); (case' q => intro _ _)))
local macro_rules | `(tactic| walk_at "s") => `(tactic| ((with_reducible refine' n_ini_Typist_text ?h ?k ?c ?n ?q); (case h => assumption); (case k => walk_at "chg"); (case c => assumption); (case n => assumption); (case' q => intro _ _)))
local macro_rules | `(tactic| walk_at "lk") => `(tactic| with_reducible exact lk_Typist_chosen)
local macro_rules | `(tactic| walk_at "s") => `(tactic| ((with_reducible refine' n_set_Typist_chosen ?h ?k ?c ?n ?q); (case h => assumption); (case k => walk_at "chg"); (case c => assumption); (case n => assumption); (case' q => intro _ _)))
local macro_rules | `(tactic| walk_at "s") => `(tactic| ((with_reducible refine' n_ini_Typist_chosen ?h ?k ?c ?n ?q); (case h => assumption); (case k => walk_at "chg"); (case c => assumption); (case n => assumption); (case' q => intro _ _)))
local macro_rules | `(tactic| walk_at "no") => `(tactic| ((with_reducible refine no_Typist ?_ ?_ ?_ ?_ ?_) <;> decide +kernel))
local macro_rules | `(tactic| walk_at "ent") => `(tactic| ((with_reducible refine ent_fdr ?_); omega))
local macro_rules | `(tactic| walk_at "s") => `(tactic| first
  | ((with_reducible refine' c_draw ?h ?c ?k ?m ?q); (case h => assumption); (case c => walk_at "chg"); (case k => omega); (case m => walk_at "sd"); (case' q => intro _ _ _ _))
  | ((with_reducible refine' c_feed ?h ?c ?l ?q); (case h => assumption); (case c => walk_at "pk"); (case l => assumption); (case' q => intro _ _ _)))
local macro_rules | `(tactic| walk_at "u") => `(tactic| with_reducible refine u_methDS ?_)
local macro_rules | `(tactic| walk_at "u") => `(tactic| with_reducible refine u_callE ?_)
local macro_rules | `(tactic| walk_at "u") => `(tactic| ((with_reducible refine' u_disp ?h ?q); (case h => assumption); (case' q => intro _ _ _)))
local macro_rules | `(tactic| walk_at "u") => `(tactic| with_reducible refine u_pairs ?_)
local macro_rules | `(tactic| walk_at "u") => `(tactic| with_reducible refine u_pairs0 ?_)
local macro_rules | `(tactic| walk_at "val") => `(tactic| with_reducible first | exact mV_m | exact mV_e | exact mV_h)
local macro_rules | `(tactic| walk_at "ent") => `(tactic| first | ((with_reducible refine ent_mks ?_); omega) | with_reducible exact ent_mnew)
local macro_rules | `(tactic| walk_at "s") => `(tactic| first
  | ((with_reducible refine' n_min ?h ?k ?q); (case h => assumption); (case k => walk_at "pk"))
  | ((with_reducible refine' n_mnotin ?h ?k ?q); (case h => assumption); (case k => walk_at "pk"))
  | ((with_reducible refine' n_mget ?h ?k ?e ?q); (case h => assumption); (case k => walk_at "pk"); (case e => assumption); (case' q => intro _ _))
  | ((with_reducible refine' n_setEra ?h ?k ?q); (case h => assumption); (case k => walk_at "chg"); (case' q => intro _ _)))
local macro_rules | `(tactic| walk_at "s") => `(tactic| first
  | ((with_reducible refine' n_in2 ?h ?k ?q); (case h => assumption); (case k => exact Pick.here))
  | ((with_reducible refine' n_in3 ?h ?k ?q); (case h => assumption); (case k => exact Pick.here)))
local macro_rules | `(tactic| walk_at "u") => `(tactic| with_reducible refine u_meth2 ?_)
local macro_rules | `(tactic| walk_at "s") => `(tactic| first
  | ((with_reducible refine' n_rev ?h ?k ?q); (case h => assumption); (case k => walk_at "chg"); (case' q => intro _ _))
  | ((with_reducible refine' n_clearD ?h ?k ?q); (case h => assumption); (case k => walk_at "chg"); (case' q => intro _ _)))
local macro_rules | `(tactic| walk_at "u") => `(tactic| with_reducible refine u_dget2 ?_)
local macro_rules | `(tactic| walk_at "s") => `(tactic| first
  | ((with_reducible refine' n_isd isDct_dct ?h ?k ?q); (case h => assumption); (case k => walk_at "pk"))
  | ((with_reducible refine' n_isd isDct_dctL ?h ?k ?q); (case h => assumption); (case k => walk_at "pk"))
  | ((with_reducible refine' n_isd ?r ?h ?k ?q); (case h => assumption); (case r => assumption); (case k => walk_at "pk")))
local macro_rules | `(tactic| walk_at "s") => `(tactic| first
  | ((with_reducible refine' n_tnotin isDct_dct ?h ?k ?g ?q); (case h => assumption); (case g => walk_at "pd"); (case k => walk_at "pk"))
  | ((with_reducible refine' n_tnotin isDct_dctL ?h ?k ?g ?q); (case h => assumption); (case g => walk_at "pd"); (case k => walk_at "pk"))
  | ((with_reducible refine' n_tnotin ?r ?h ?k ?g ?q); (case h => assumption); (case r => assumption); (case g => walk_at "pd"); (case k => walk_at "pk")))
local macro_rules | `(tactic| walk_at "s") => `(tactic| first
  | ((with_reducible refine' n_tin isDct_dct ?h ?k ?g ?q); (case h => assumption); (case g => walk_at "pd"); (case k => walk_at "pk"))
  | ((with_reducible refine' n_tin isDct_dctL ?h ?k ?g ?q); (case h => assumption); (case g => walk_at "pd"); (case k => walk_at "pk"))
  | ((with_reducible refine' n_tin ?r ?h ?k ?g ?q); (case h => assumption); (case r => assumption); (case g => walk_at "pd"); (case k => walk_at "pk")))
local macro_rules | `(tactic| walk_at "s") => `(tactic| first
  | ((with_reducible refine' n_tget isDct_dct ?h ?k ?g ?e ?q); (case h => assumption); (case g => walk_at "pd"); (case k => walk_at "pk"); (case e => assumption); (case' q => intro _ _))
  | ((with_reducible refine' n_tget isDct_dctL ?h ?k ?g ?e ?q); (case h => assumption); (case g => walk_at "pd"); (case k => walk_at "pk"); (case e => assumption); (case' q => intro _ _))
  | ((with_reducible refine' n_tget ?r ?h ?k ?g ?e ?q); (case h => assumption); (case r => assumption); (case g => walk_at "pd"); (case k => walk_at "pk"); (case e => assumption); (case' q => intro _ _)))
local macro_rules | `(tactic| walk_at "s") => `(tactic| first
  | ((with_reducible refine' n_tget2 isDct_dct ?h ?k ?g ?g2 ?q); (case h => assumption); (case g => walk_at "pd"); (case g2 => walk_at "pd"); (case k => walk_at "pk"); (case' q => intro _ _))
  | ((with_reducible refine' n_tget2 isDct_dctL ?h ?k ?g ?g2 ?q); (case h => assumption); (case g => walk_at "pd"); (case g2 => walk_at "pd"); (case k => walk_at "pk"); (case' q => intro _ _))
  | ((with_reducible refine' n_tget2 ?r ?h ?k ?g ?g2 ?q); (case h => assumption); (case r => assumption); (case g => walk_at "pd"); (case g2 => walk_at "pd"); (case k => walk_at "pk"); (case' q => intro _ _)))
local macro_rules | `(tactic| walk_at "s") => `(tactic| first
  | ((with_reducible refine' n_tput ?h ?g ?g2 ?k ?n ?q); (case h => assumption); (case g => walk_at "pd"); (case g2 => walk_at "pd"); (case k => walk_at "chg"); (case n => omega); (case' q => intro _ _))
  | ((with_reducible refine' n_in2s ?h ?k ?q); (case h => assumption); (case k => walk_at "pk"))
  | ((with_reducible refine' n_nin2s ?h ?k ?q); (case h => assumption); (case k => walk_at "pk"))
  | ((with_reducible refine' c_usedT ?h ?k ?c ?q); (case h => assumption); (case k => walk_at "pk"); (case c => omega); (case' q => intro _ _ _))
  | ((with_reducible refine' c_worthT ?h ?k ?c ?q); (case h => assumption); (case k => walk_at "pk"); (case c => omega))
  | ((with_reducible refine' n_rep1 ?h ?k ?b ?q); (case h => assumption); (case k => walk_at "pk"); (case b => omega); (case' q => intro _ _ _)))
local macro_rules | `(tactic| walk_at "ent") => `(tactic| ((with_reducible refine ent_dct ?_); omega))
local macro_rules | `(tactic| walk_at "s") => `(tactic| ((with_reducible refine' n_dsp2 ?h ?k ?q); (case h => assumption); (case k => walk_at "chg"); (case' q => intro _ _)))
local macro_rules | `(tactic| walk_at "s") => `(tactic| ((with_reducible refine' n_setMarks ?h ?k ?q); (case h => assumption); (case k => walk_at "chg"); (case' q => intro _ _)))
/-- goals by their heads -/
class HG (n : Nat) (G : Prop) : Prop where
  h : True
theorem HG.go (n : Nat) {G : Prop} [HG n G] (k : G) : G := k
instance hg_rFld {x0 x1 x2 x3 x4} : HG 1 (rFld x0 x1 x2 x3 x4) := ⟨trivial⟩
instance hg_rSFld {x0 x1 x2 x3 x4 x5 x6} : HG 1 (rSFld x0 x1 x2 x3 x4 x5 x6) := ⟨trivial⟩
instance hg_rMeth {x0 x1 x2 x3 x4 x5 x6 x7 x8 x9} : HG 1 (rMeth x0 x1 x2 x3 x4 x5 x6 x7 x8 x9) := ⟨trivial⟩
instance hg_rDGet {x0 x1 x2 x3} : HG 2 (rDGet x0 x1 x2 x3) := ⟨trivial⟩
instance hg_rDGet2 {x0 x1 x2 x3 x4} : HG 2 (rDGet2 x0 x1 x2 x3 x4) := ⟨trivial⟩
instance hg_rDIn {x0 x1 x2 x3} : HG 2 (rDIn x0 x1 x2 x3) := ⟨trivial⟩
instance hg_rDNotIn {x0 x1 x2 x3} : HG 2 (rDNotIn x0 x1 x2 x3) := ⟨trivial⟩
instance hg_rDPut {x0 x1 x2 x3 x4 x5} : HG 2 (rDPut x0 x1 x2 x3 x4 x5) := ⟨trivial⟩
instance hg_rPop1 {x0 x1 x2 x3 x4} : HG 2 (rPop1 x0 x1 x2 x3 x4) := ⟨trivial⟩
instance hg_rIsDk {x0 x1 x2} : HG 2 (rIsDk x0 x1 x2) := ⟨trivial⟩
instance hg_rIxL {x0 x1 x2 x3 x4} : HG 3 (rIxL x0 x1 x2 x3 x4) := ⟨trivial⟩
instance hg_rIxT {x0 x1 x2 x3 x4} : HG 3 (rIxT x0 x1 x2 x3 x4) := ⟨trivial⟩
instance hg_rSlL {x0 x1 x2 x3 x4 x5} : HG 3 (rSlL x0 x1 x2 x3 x4 x5) := ⟨trivial⟩
instance hg_rSlS {x0 x1 x2 x3 x4} : HG 3 (rSlS x0 x1 x2 x3 x4) := ⟨trivial⟩
instance hg_rIn {x0 x1 x2 x3 x4 x5} : HG 3 (rIn x0 x1 x2 x3 x4 x5) := ⟨trivial⟩
instance hg_rLenD {x0 x1 x2} : HG 3 (rLenD x0 x1 x2) := ⟨trivial⟩
instance hg_rListS {x0 x1 x2} : HG 3 (rListS x0 x1 x2) := ⟨trivial⟩
instance hg_rSortD {x0 x1 x2 x3} : HG 3 (rSortD x0 x1 x2 x3) := ⟨trivial⟩
instance hg_rSortDict {x0 x1 x2} : HG 3 (rSortDict x0 x1 x2) := ⟨trivial⟩
instance hg_rAppend {x0 x1 x2 x3} : HG 3 (rAppend x0 x1 x2 x3) := ⟨trivial⟩
instance hg_rCat {x0 x1 x2 x3} : HG 3 (rCat x0 x1 x2 x3) := ⟨trivial⟩
instance hg_rSetL {x0 x1 x2 x3 x4} : HG 3 (rSetL x0 x1 x2 x3 x4) := ⟨trivial⟩
instance hg_tyV {x0 x1 x2 x3} : HG 3 (tyV x0 x1 x2 x3) := ⟨trivial⟩
instance hg_rI {x0 x1 x2 x3 x4 x5} : HG 3 (rI x0 x1 x2 x3 x4 x5) := ⟨trivial⟩
instance hg_rNe {x0 x1 x2 x3} : HG 3 (rNe x0 x1 x2 x3) := ⟨trivial⟩
instance hg_rEq {x0 x1 x2 x3} : HG 3 (rEq x0 x1 x2 x3) := ⟨trivial⟩
instance hg_rNeD {x0 x1 x2 x3 x4} : HG 3 (rNeD x0 x1 x2 x3 x4) := ⟨trivial⟩
instance hg_rEqD {x0 x1 x2 x3 x4} : HG 3 (rEqD x0 x1 x2 x3 x4) := ⟨trivial⟩
instance hg_aTup {x0 x1 x2} : HG 4 (aTup x0 x1 x2) := ⟨trivial⟩
instance hg_aLst {x0 x1 x2} : HG 4 (aLst x0 x1 x2) := ⟨trivial⟩
instance hg_aMake {x0 x1 x2 x3 x4 x5} : HG 4 (aMake x0 x1 x2 x3 x4 x5) := ⟨trivial⟩
instance hg_tDNewK {x0 x1 x2} : HG 4 (tDNewK x0 x1 x2) := ⟨trivial⟩
instance hg_gTup {x0 x1 x2 x3 x4 x5 x6} : HG 4 (gTup x0 x1 x2 x3 x4 x5 x6) := ⟨trivial⟩
instance hg_tIfS {x0 x1 x2 x3 x4 x5} : HG 5 (tIfS x0 x1 x2 x3 x4 x5) := ⟨trivial⟩
instance hg_if {c : Prop} [Decidable c] {a b : Prop} : HG 5 (if c then a else b) := ⟨trivial⟩
local macro_rules | `(tactic| walk_at "s1") => `(tactic| first
  | ((with_reducible refine' n_ini_Typist_chosen ?h ?k ?c ?n ?q); (case h => assumption); (case k => walk_at "chg"); (case c => assumption); (case n => assumption); (case' q => intro _ _))
  | ((with_reducible refine' n_set_Typist_chosen ?h ?k ?c ?n ?q); (case h => assumption); (case k => walk_at "chg"); (case c => assumption); (case n => assumption); (case' q => intro _ _))
  | ((with_reducible refine' n_ini_Typist_text ?h ?k ?c ?n ?q); (case h => assumption); (case k => walk_at "chg"); (case c => assumption); (case n => assumption); (case' q => intro _ _))
  | ((with_reducible refine' n_set_Typist_text ?h ?k ?c ?n ?q); (case h => assumption); (case k => walk_at "chg"); (case c => assumption); (case n => assumption); (case' q => intro _ _))
  | ((with_reducible refine' n_ini_Typist_chosen_pairs ?h ?k ?c ?n ?q); (case h => assumption); (case k => walk_at "chg"); (case c => assumption); (case n => assumption); (case' q => intro _ _))
  | ((with_reducible refine' n_set_Typist_chosen_pairs ?h ?k ?c ?n ?q); (case h => assumption); (case k => walk_at "chg"); (case c => assumption); (case n => assumption); (case' q => intro _ _))
  | ((with_reducible refine' n_ini_Typist_most_told ?h ?k ?c ?n ?q); (case h => assumption); (case k => walk_at "chg"); (case c => assumption); (case n => assumption); (case' q => intro _ _))
  | ((with_reducible refine' n_set_Typist_most_told ?h ?k ?c ?n ?q); (case h => assumption); (case k => walk_at "chg"); (case c => assumption); (case n => assumption); (case' q => intro _ _))
  | ((with_reducible refine' n_ini_Typist_layers ?h ?k ?c ?n ?q); (case h => assumption); (case k => walk_at "chg"); (case c => assumption); (case n => assumption); (case' q => intro _ _))
  | ((with_reducible refine' n_set_Typist_layers ?h ?k ?c ?n ?q); (case h => assumption); (case k => walk_at "chg"); (case c => assumption); (case n => assumption); (case' q => intro _ _))
  | ((with_reducible refine' n_ini_Layers_layer_hidden ?h ?k ?c ?n ?q); (case h => assumption); (case k => walk_at "chg"); (case c => assumption); (case n => assumption); (case' q => intro _ _))
  | ((with_reducible refine' n_set_Layers_layer_hidden ?h ?k ?c ?n ?q); (case h => assumption); (case k => walk_at "chg"); (case c => assumption); (case n => assumption); (case' q => intro _ _))
  | ((with_reducible refine' n_ini_Layers_layer_own ?h ?k ?c ?n ?q); (case h => assumption); (case k => walk_at "chg"); (case c => assumption); (case n => assumption); (case' q => intro _ _))
  | ((with_reducible refine' n_set_Layers_layer_own ?h ?k ?c ?n ?q); (case h => assumption); (case k => walk_at "chg"); (case c => assumption); (case n => assumption); (case' q => intro _ _))
  | ((with_reducible refine' n_ini_Layers_layer_house ?h ?k ?c ?n ?q); (case h => assumption); (case k => walk_at "chg"); (case c => assumption); (case n => assumption); (case' q => intro _ _))
  | ((with_reducible refine' n_set_Layers_layer_house ?h ?k ?c ?n ?q); (case h => assumption); (case k => walk_at "chg"); (case c => assumption); (case n => assumption); (case' q => intro _ _))
  | ((with_reducible refine' n_ini_Pairs_pair_era ?h ?k ?c ?n ?q); (case h => assumption); (case k => walk_at "chg"); (case c => assumption); (case n => assumption); (case' q => intro _ _))
  | ((with_reducible refine' n_set_Pairs_pair_era ?h ?k ?c ?n ?q); (case h => assumption); (case k => walk_at "chg"); (case c => assumption); (case n => assumption); (case' q => intro _ _))
  | ((with_reducible refine' n_ini_Pairs_pair_marks ?h ?k ?c ?n ?q); (case h => assumption); (case k => walk_at "chg"); (case c => assumption); (case n => assumption); (case' q => intro _ _))
  | ((with_reducible refine' n_set_Pairs_pair_marks ?h ?k ?c ?n ?q); (case h => assumption); (case k => walk_at "chg"); (case c => assumption); (case n => assumption); (case' q => intro _ _))
  | ((with_reducible refine' n_wmarks ?h ?k ?c ?z ?q); (case h => assumption); (case k => walk_at "pk"); (case c => assumption); (case z => assumption))
  | ((with_reducible refine' n_wtops ?h ?k ?c ?z ?q); (case h => assumption); (case k => walk_at "pk"); (case c => assumption); (case z => assumption))
  | ((with_reducible refine' n_wnow ?h ?k ?c ?z ?q); (case h => assumption); (case k => walk_at "pk"); (case c => assumption); (case z => assumption))
  | ((with_reducible refine' n_wmeth ?h ?k ?h1 ?h2 ?h3 ?q); (case h => assumption); (case k => walk_at "pk"); (case h1 => decide +kernel); (case h2 => decide +kernel); (case h3 => decide +kernel))
  | ((with_reducible refine' n_methW ?h ?k ?h1 ?h2 ?h3 ?q); (case h => assumption); (case k => walk_at "pk"); (case h1 => decide +kernel); (case h2 => decide +kernel); (case h3 => decide +kernel))
  | ((with_reducible refine' n_methWD ?h ?k ?h1 ?h2 ?h3 ?q); (case h => assumption); (case k => walk_at "pk"); (case h1 => decide +kernel); (case h2 => decide +kernel); (case h3 => decide +kernel))
  | ((with_reducible refine' n_fld ?h ?k ?c ?n ?l ?q); (case h => assumption); (case k => walk_at "pk"); (case c => assumption); (case n => assumption); (case l => walk_at "lk"))
  | ((with_reducible refine' n_sfld ?h ?k ?c ?n ?hl ?q); (case h => assumption); (case k => walk_at "chg"); (case c => assumption); (case n => assumption); (case hl => walk_at "wl"); (case' q => intro _ _))
  | ((with_reducible refine' n_meth ?h ?k ?l ?q); (case h => assumption); (case k => walk_at "pk"); (case l => walk_at "no"))
  | ((with_reducible refine' n_methD ?h ?k ?l ?q); (case h => assumption); (case k => walk_at "pk"); (case l => walk_at "no")))
local macro_rules | `(tactic| walk_at "s2") => `(tactic| first
  | ((with_reducible refine' n_setMarks ?h ?k ?q); (case h => assumption); (case k => walk_at "chg"); (case' q => intro _ _))
  | ((with_reducible refine' n_tput ?h ?g ?g2 ?k ?n ?q); (case h => assumption); (case g => walk_at "pd"); (case g2 => walk_at "pd"); (case k => walk_at "chg"); (case n => omega); (case' q => intro _ _))
  | ((with_reducible refine' n_tget2 isDct_dct ?h ?k ?g ?g2 ?q); (case h => assumption); (case g => walk_at "pd"); (case g2 => walk_at "pd"); (case k => walk_at "pk"); (case' q => intro _ _))
  | ((with_reducible refine' n_tget2 isDct_dctL ?h ?k ?g ?g2 ?q); (case h => assumption); (case g => walk_at "pd"); (case g2 => walk_at "pd"); (case k => walk_at "pk"); (case' q => intro _ _))
  | ((with_reducible refine' n_tget2 ?r ?h ?k ?g ?g2 ?q); (case h => assumption); (case r => assumption); (case g => walk_at "pd"); (case g2 => walk_at "pd"); (case k => walk_at "pk"); (case' q => intro _ _))
  | ((with_reducible refine' n_tget isDct_dct ?h ?k ?g ?e ?q); (case h => assumption); (case g => walk_at "pd"); (case k => walk_at "pk"); (case e => assumption); (case' q => intro _ _))
  | ((with_reducible refine' n_tget isDct_dctL ?h ?k ?g ?e ?q); (case h => assumption); (case g => walk_at "pd"); (case k => walk_at "pk"); (case e => assumption); (case' q => intro _ _))
  | ((with_reducible refine' n_tget ?r ?h ?k ?g ?e ?q); (case h => assumption); (case r => assumption); (case g => walk_at "pd"); (case k => walk_at "pk"); (case e => assumption); (case' q => intro _ _))
  | ((with_reducible refine' n_tin isDct_dct ?h ?k ?g ?q); (case h => assumption); (case g => walk_at "pd"); (case k => walk_at "pk"))
  | ((with_reducible refine' n_tin isDct_dctL ?h ?k ?g ?q); (case h => assumption); (case g => walk_at "pd"); (case k => walk_at "pk"))
  | ((with_reducible refine' n_tin ?r ?h ?k ?g ?q); (case h => assumption); (case r => assumption); (case g => walk_at "pd"); (case k => walk_at "pk"))
  | ((with_reducible refine' n_tnotin isDct_dct ?h ?k ?g ?q); (case h => assumption); (case g => walk_at "pd"); (case k => walk_at "pk"))
  | ((with_reducible refine' n_tnotin isDct_dctL ?h ?k ?g ?q); (case h => assumption); (case g => walk_at "pd"); (case k => walk_at "pk"))
  | ((with_reducible refine' n_tnotin ?r ?h ?k ?g ?q); (case h => assumption); (case r => assumption); (case g => walk_at "pd"); (case k => walk_at "pk"))
  | ((with_reducible refine' n_isd isDct_dct ?h ?k ?q); (case h => assumption); (case k => walk_at "pk"))
  | ((with_reducible refine' n_isd isDct_dctL ?h ?k ?q); (case h => assumption); (case k => walk_at "pk"))
  | ((with_reducible refine' n_isd ?r ?h ?k ?q); (case h => assumption); (case r => assumption); (case k => walk_at "pk"))
  | ((with_reducible refine' n_min ?h ?k ?q); (case h => assumption); (case k => walk_at "pk"))
  | ((with_reducible refine' n_mnotin ?h ?k ?q); (case h => assumption); (case k => walk_at "pk"))
  | ((with_reducible refine' n_mget ?h ?k ?e ?q); (case h => assumption); (case k => walk_at "pk"); (case e => assumption); (case' q => intro _ _))
  | ((with_reducible refine' n_setEra ?h ?k ?q); (case h => assumption); (case k => walk_at "chg"); (case' q => intro _ _))
  | ((with_reducible refine' n_dinG ?h ?k ?q); (case h => assumption); (case k => walk_at "pk"))
  | ((with_reducible refine' n_dnotinG ?h ?k ?q); (case h => assumption); (case k => walk_at "pk"))
  | ((with_reducible refine' n_dgetG ?h ?k ?e ?q); (case h => assumption); (case k => walk_at "pk"); (case e => walk_at "gv"))
  | ((with_reducible refine' n_dputGO ?h ?k ?n ?e ?q); (case h => assumption); (case k => walk_at "chg"); (case n => omega); (case e => walk_at "gs"); (case' q => intro _ _))
  | ((with_reducible refine' n_dputG ?h ?k ?n ?q); (case h => assumption); (case k => walk_at "chg"); (case n => omega); (case' q => intro _ _))
  | ((with_reducible refine' n_dpopG ?h ?k ?e ?r ?q); (case h => assumption); (case k => walk_at "chg"); (case e => walk_at "gv"); (case r => exact (fun R r => s_var rfl r)); (case' q => intro _ _))
  | ((with_reducible refine' n_minW ?h ?k ?q); (case h => assumption); (case k => walk_at "pk"))
  | ((with_reducible refine' n_tinW ?h ?k ?q); (case h => assumption); (case k => walk_at "pk"))
  | ((with_reducible refine' n_tnotinW ?h ?k ?q); (case h => assumption); (case k => walk_at "pk"))
  | ((with_reducible refine' n_mgetW ?h ?k ?e ?q); (case h => assumption); (case k => walk_at "pk"); (case e => assumption); (case' q => intro _ _ _ _))
  | ((with_reducible refine' n_tgetW ?h ?k ?e ?q); (case h => assumption); (case k => walk_at "pk"); (case e => assumption); (case' q => intro _ _ _ _))
  | ((with_reducible refine' n_dinL ?h ?k ?q); (case h => assumption); (case k => walk_at "pk"))
  | ((with_reducible refine' n_dnotinL ?h ?k ?q); (case h => assumption); (case k => walk_at "pk"))
  | ((with_reducible refine' n_dgetL ?h ?k ?e ?q); (case h => assumption); (case k => walk_at "pk"); (case e => first | exact vI_some (by assumption) | assumption))
  | ((with_reducible refine' n_din ?h ?k ?q); (case h => assumption); (case k => walk_at "pk"))
  | ((with_reducible refine' n_dnotin ?h ?k ?q); (case h => assumption); (case k => walk_at "pk"))
  | ((with_reducible refine' n_dget ?h ?k ?e ?q); (case h => assumption); (case k => walk_at "pk"); (case e => walk_at "val")))
local macro_rules | `(tactic| walk_at "s3") => `(tactic| first
  | ((with_reducible refine' n_in2s ?h ?k ?q); (case h => assumption); (case k => walk_at "pk"))
  | ((with_reducible refine' n_nin2s ?h ?k ?q); (case h => assumption); (case k => walk_at "pk"))
  | ((with_reducible refine' n_in2 ?h ?k ?q); (case h => assumption); (case k => exact Pick.here))
  | ((with_reducible refine' n_in3 ?h ?k ?q); (case h => assumption); (case k => exact Pick.here))
  | ((with_reducible refine' n_listS ?h ?l ?q); (case h => assumption); (case l => walk_at "tl"); (case' q => intro _ _ _))
  | ((with_reducible refine' n_sortS ?h ?k ?q); (case h => assumption); (case k => walk_at "pk"); (case' q => intro _ _ _))
  | ((with_reducible refine' n_eqIE ?h ?k ?k2 ?q); (case h => assumption); (case k => walk_at "pk"); (case k2 => walk_at "pk"))
  | ((with_reducible refine' n_neIE ?h ?k ?k2 ?q); (case h => assumption); (case k => walk_at "pk"); (case k2 => walk_at "pk"))
  | ((with_reducible refine' n_eqSE ?h ?k ?k2 ?o ?q); (case h => assumption); (case k => walk_at "pk"); (case k2 => walk_at "pk"); (case o => assumption))
  | ((with_reducible refine' s_slS ?h ?q); (case h => walk_at "tl"))
  | ((with_reducible refine' n_sortR ?h ?k ?q); (case h => assumption); (case k => walk_at "pk"); (case' q => intro _ _ _ _))
  | with_reducible refine s_neTop ?_
  | ((with_reducible refine' n_inS ?h ?k ?q); (case h => assumption); (case k => walk_at "pk"))
  | ((with_reducible refine' n_notInS ?h ?k ?q); (case h => assumption); (case k => walk_at "pk"))
  | ((with_reducible refine' n_sortG ?h ?k ?q); (case h => assumption); (case k => walk_at "pk"); (case' q => intro _ _ _))
  | ((with_reducible refine' n_slT ?h ?k ?m ?q); (case h => assumption); (case k => walk_at "pk"); (case m => omega); (case' q => intro _ _ _))
  | ((with_reducible refine' n_msortW ?h ?k ?q); (case h => assumption); (case k => walk_at "pk"); (case' q => intro _ _ _))
  | ((with_reducible refine' n_lenD ?h ?k ?q); (case h => assumption); (case k => walk_at "pk"); (case' q => intro _ _))
  | ((with_reducible refine' n_cat ?h ?k1 ?k2 ?l ?q); (case h => assumption); (case k1 => walk_at "pk"); (case k2 => walk_at "pk"); (case l => walk_at "sl2"); (case' q => intro _ _ _))
  | ((with_reducible refine' n_catD ?h ?k1 ?k2 ?l ?q); (case h => assumption); (case k1 => walk_at "pk"); (case k2 => walk_at "pk"); (case l => walk_at "sl2"); (case' q => intro _ _ _))
  | ((with_reducible refine' n_slScr ?h ?k ?e ?q); (case h => assumption); (case k => walk_at "pk"); (case e => rfl); (case' q => intro _ _ _ _ _))
  | ((with_reducible refine' s_ixL ?h ?a ?q); (case h => walk_at "sq"); (case a => assumption))
  | ((with_reducible refine' n_neD ?x ?y ?a ?b ?q); (case x => walk_at "dp"); (case y => walk_at "dp"); (case a => walk_at "shp"); (case b => walk_at "shp"))
  | ((with_reducible refine' n_eqD ?x ?y ?a ?b ?q); (case x => walk_at "dp"); (case y => walk_at "dp"); (case a => walk_at "shp"); (case b => walk_at "shp"))
  | ((with_reducible refine' n_sl ?h ?s ?q); (case h => assumption); (case s => walk_at "sq"); (case' q => intro _ _ _))
  | ((with_reducible refine' n_app ?h ?k ?l ?q); (case h => assumption); (case k => walk_at "chg"); (case l => walk_at "sl"); (case' q => intro _ _))
  | ((with_reducible refine' n_appD ?h ?k ?g ?l ?q); (case h => assumption); (case k => walk_at "chg"); (case g => walk_at "pd"); (case l => walk_at "sl"); (case' q => intro _ _))
  | ((with_reducible refine' n_setL ?h ?k ?e ?g); (case h => assumption); (case k => walk_at "chg"); (case e => rfl); (case' g => intro _ _))
  | ((with_reducible refine' s_eq ?h ?q); (case h => rfl))
  | ((with_reducible refine' s_ne ?h ?q); (case h => rfl))
  | ((with_reducible refine' s_ixL ?h ?a ?q); (case h => walk_at "sq"); (case a => rfl))
  | ((with_reducible refine' s_ixT ?h ?a ?q); (case h => walk_at "st"); (case a => rfl))
  | ((with_reducible refine' s_setL ?h ?a ?k); (case h => walk_at "hp"); (case a => rfl))
  | ((with_reducible refine' s_tyL ?h ?k); (case h => walk_at "sq"))
  | ((with_reducible refine' s_slL ?h ?q); (case h => walk_at "sq"))
  | ((with_reducible refine' s_iiC ?c ?q); (case c => walk_at "sd")))
local macro_rules | `(tactic| walk_at "s4") => `(tactic| first
  | ((with_reducible refine' n_lst ?h ?l ?q); (case h => assumption); (case l => walk_at "sz"); (case' q => intro _ _ _))
  | ((with_reducible refine' n_tup ?h ?g ?l ?q); (case h => assumption); (case g => walk_at "pds"); (case l => walk_at "sz"); (case' q => intro _ _ _))
  | ((with_reducible refine' n_tupl ?h ?l ?q); (case h => assumption); (case l => walk_at "sz"); (case' q => intro _ _ _))
  | ((with_reducible refine' n_dnew ?h ?q); (case h => assumption); (case' q => intro _ _ _))
  | ((with_reducible refine' n_make ?h ?q); (case h => assumption); (case' q => intro _ _ _))
  | ((with_reducible refine' s_gtup ?h ?l ?k); (case h => walk_at "st"); (case l => rfl)))
local macro_rules | `(tactic| walk_at "s5") => `(tactic| first
  | ((with_reducible refine' iteNeqv ?h ?k); (case h => walk_at "eqv"))
  | ((with_reducible refine' iteEqv ?h ?k); (case h => walk_at "eqv"))
  | with_reducible refine iteNeSelf ?_
  | with_reducible refine iteEqSelf ?_
  | ((with_reducible refine' iteNeqv ?h ?k); (case h => assumption))
  | ((with_reducible refine' iteEqv ?h ?k); (case h => assumption))
  | with_reducible refine iteF ?_
  | with_reducible refine iteT ?_
  | with_reducible refine ntT ?_
  | with_reducible refine ntF ?_
  | with_reducible refine u_ifS ?_)
local macro_rules | `(tactic| walk_at "go") => `(tactic| repeat first | ((with_reducible refine HG.go 5 ?_); walk_at "s5") | with_reducible refine US.h ?_ | ((with_reducible refine' s_var ?h ?q); (case h => rfl)) | ((with_reducible refine HG.go 1 ?_); walk_at "s1") | ((with_reducible refine HG.go 2 ?_); walk_at "s2") | ((with_reducible refine HG.go 3 ?_); walk_at "s3") | ((with_reducible refine HG.go 4 ?_); walk_at "s4") | walk_at "s" | walk_at "u")
def spPInit (C : Addr) : Sp := fun vs H Q _ => ∃ (p : Addr) (L : List Res), vs = [.ref p] ∧ Sep (obj p C [] :: L) H ∧
  ∀ (d : Addr) (H' : Hp), Sep (obj p C [("pair_marks", .ref d), ("pair_era", .int 0)] :: dct d (fun _ => none) 0 :: L) H' → Q .non H'
theorem c_pinit {C p : Addr} {L F : List Res} {H : Hp} {Q : VK} {E : XK} (h : Sep L H) (k : Pick (obj p C []) L F) (z : ∀ (d : Addr) (H' : Hp), Sep (obj p C [("pair_marks", .ref d), ("pair_era", .int 0)] :: dct d (fun _ => none) 0 :: F) H' → Q .non H') : spPInit C [.ref p] H Q E :=
  ⟨p, F, rfl, h.pick k, z⟩
local macro_rules | `(tactic| walk_at "s") => `(tactic| ((with_reducible refine' c_pinit ?h ?k ?q); (case h => assumption); (case k => walk_at "pk"); (case' q => (intro _ _ _; refine ⟨rfl, ?_⟩))))
theorem ok_Pairs___init__ (T : Top K mg C_Pairs C_Wood C_PartWood X_Absent X_NoWord X_Twice cT PT)  : FnI P w K mg base 1 C_Pairs "Pairs" ["self"] (spPInit C_Pairs) := by
  refine T.in_Pairs.ok sc_Pairs___init__ (fun vs H Q E h => ?_) (fun f cdv A outer s H vs Q E hr h => ?_)
  · obtain ⟨p, L, rfl, h, k⟩ := h; rfl
  · obtain ⟨p, L, rfl, h, k⟩ := h
    have cl_Pairs := T.cl_Pairs
    have na_Pairs_pair_marks := T.na_Pairs_pair_marks
    have na_Pairs_pair_era := T.na_Pairs_pair_era
    have cl_Wood := T.cl_Wood
    have na_Wood_marks := T.na_Wood_marks
    have na_Wood_tops := T.na_Wood_tops
    have na_Wood_now := T.na_Wood_now
    have cl_PartWood := T.cl_PartWood
    have na_PartWood_marks := T.na_PartWood_marks
    have na_PartWood_tops := T.na_PartWood_tops
    have na_PartWood_now := T.na_PartWood_now
    refine ⟨_, (pss_cons (ps_fld (pv 0) (pe_dnewT) rfl)
    (pss_one (ps_fld (pv 0) (pe_int) rfl))), ?_⟩
    walk_at "go"
    exact k _ _ (by walk_at "sep")
/-- two lists that show alike -/
def spIsToldR : Sp := fun vs H Q _ => ∃ (a c : Addr) (d : PyData) (L : List Res), vs = [.ref a, .ref c] ∧ Sep L H ∧ (∃ xs ds F, Pick (lisD a xs ds) L F) ∧ (∀ (K : PySem.W.Frag) (G : Hp), Sep L G → Dp K G (.ref a) d ∧ Dp K G (.ref c) d) ∧ d.showable = true ∧ d.hasDict = false ∧ d.depth ≤ 30 ∧ d.shown.length ≤ sizeLine ∧
  ∀ (H' : Hp), Sep L H' → Q (.bl true) H'
theorem c_rows {a c : Addr} {xs ys : List V} {l : List RB} {L F F' : List Res} {H : Hp} {Q : VK} {E : XK} (h : Sep L H) (k1 : Pick (lisD a xs (l.map dR)) L F) (k2 : Pick (lisD c ys (l.map dR)) L F') (hr : RbOk l) (hl : l.length ≤ 50000) (z : ∀ (H' : Hp), Sep L H' → Q (.bl true) H') : spIsToldR [.ref a, .ref c] H Q E :=
  ⟨a, c, .list (l.map dR), L, rfl, h, ⟨xs, _, F, k1⟩, fun K G hG => ⟨hG.dpL k1, hG.dpL k2⟩, rows_showable hr, rows_plain, rows_depth, rows_shown hr hl, z⟩
theorem c_rowsP {a c : Addr} {xs ys : List V} {l : List RW} {L F F' : List Res} {H : Hp} {Q : VK} {E : XK} (h : Sep L H) (k1 : Pick (lisD a xs (l.map dP)) L F) (k2 : Pick (lisD c ys (l.map dP)) L F') (hr : RwOk l) (hl : l.length ≤ 50000) (z : ∀ (H' : Hp), Sep L H' → Q (.bl true) H') : spIsToldR [.ref a, .ref c] H Q E :=
  ⟨a, c, .list (l.map dP), L, rfl, h, ⟨xs, _, F, k1⟩, fun K G hG => ⟨hG.dpL k1, hG.dpL k2⟩, list_showable fun e he => rw_show (hr e he), list_plain fun e _ => rfl, list_depth fun e _ => Nat.le_refl 1, list_shown (fun e he => rw_len (hr e he)) hl, z⟩
theorem c_rowsS {a c : Addr} {xs ys : List V} {l : List Str} {L F F' : List Res} {H : Hp} {Q : VK} {E : XK} (h : Sep L H) (k1 : Pick (lisD a xs (l.map PyData.str)) L F) (k2 : Pick (lisD c ys (l.map PyData.str)) L F') (hr : ∀ s ∈ l, isW s = true) (hl : l.length ≤ 50000) (z : ∀ (H' : Hp), Sep L H' → Q (.bl true) H') : spIsToldR [.ref a, .ref c] H Q E :=
  ⟨a, c, .list (l.map PyData.str), L, rfl, h, ⟨xs, _, F, k1⟩, fun K G hG => ⟨hG.dpL k1, hG.dpL k2⟩, list_showable fun e _ => rfl, list_plain fun e _ => rfl, list_depth fun e _ => Nat.zero_le 1, list_shown (fun e he => str_len (hr e he)) hl, z⟩
theorem ok_law_is_told (T : Top K mg C_Pairs C_Wood C_PartWood X_Absent X_NoWord X_Twice cT PT)  : FnG P w K mg base 1 "_law_is_told" ["_law_found", "_law_due_here"] spIsToldR := by
  refine T.d_law_is_told.okG sc_law_is_told bi_law_is_told (fun vs H Q E h => ?_) (fun f cdv A outer s H vs Q E hgd hr h => ?_)
  · obtain ⟨a, c, d, L, rfl, h, h1, h2, h3, h4, h5, h6, k⟩ := h; rfl
  · obtain ⟨a, c, d, L, rfl, h, h1, h2, h3, h4, h5, h6, k⟩ := h
    have cl_Pairs := T.cl_Pairs
    have na_Pairs_pair_marks := T.na_Pairs_pair_marks
    have na_Pairs_pair_era := T.na_Pairs_pair_era
    have cl_Wood := T.cl_Wood
    have na_Wood_marks := T.na_Wood_marks
    have na_Wood_tops := T.na_Wood_tops
    have na_Wood_now := T.na_Wood_now
    have cl_PartWood := T.cl_PartWood
    have na_PartWood_marks := T.na_PartWood_marks
    have na_PartWood_tops := T.na_PartWood_tops
    have na_PartWood_now := T.na_PartWood_now
    refine ⟨_, (pss_one (ps_ret ((pe_and (pe_callB call_isi rfl T.n_isinstance (by decide +kernel) (pa_cons (pv 0) (pa_cons (pe_ty "list" rfl T.n_list (by decide +kernel)) pa_nil))) (pe_one (pe_cmpR op_eq (pe_callB (call_repr (K := K) rfl hgd hr.units) rfl T.n_repr (by decide +kernel) (pa_cons (pv 0) pa_nil)) (pe_callB (call_repr (K := K) rfl hgd hr.units) rfl T.n_repr (by decide +kernel) (pa_cons (pv 1) pa_nil)) (nomark _))))))), ?_⟩
    walk_at "go"
    obtain ⟨xs, ds, F, pk⟩ := h1
    have d12 := h2 K H h
    refine s_isi (.base (.lst (h.lisD pk))) rfl ?_
    walk_at "go"
    refine ⟨a, d, rfl, d12.1, h3, h4, h5, h6, ?_⟩
    walk_at "go"
    refine ⟨c, d, rfl, d12.2, h3, h4, h5, h6, ?_⟩
    walk_at "go"
    show Q (.bl (decide (V.str d.shown = V.str d.shown))) H
    rw [decide_eq_true rfl]
    exact k H h
def spCountF : Sp := fun vs H Q _ => ∃ (b : Addr) (d : Int) (L : List Res), vs = [.ref b] ∧ Sep (fdr d b :: L) H ∧ d ≤ 1000000000 ∧
  ∀ (r : Int) (H' : Hp), 0 ≤ r ∧ r ≤ 1000000000 → Sep (fdr (d + 4) b :: L) H' → Q (.int r) H'
theorem c_countF {b : Addr} {d : Int} {L M : List Res} {H : Hp} {Q : VK} {E : XK} (h : Sep L H) (c : Chg (fdr d b) (fdr (d + 4) b) L M) (hd : d ≤ 1000000000) (z : ∀ (r : Int) (H' : Hp), 0 ≤ r ∧ r ≤ 1000000000 → Sep M H' → Q (.int r) H') : spCountF [.ref b] H Q E := by
  obtain ⟨F, k1, k2⟩ := c.picks
  exact ⟨b, d, F, rfl, h.pick k1, hd, fun r H' hr h' => z r H' hr (h'.put k2)⟩
local macro_rules | `(tactic| walk_at "s") => `(tactic| ((with_reducible refine' c_countF ?h ?c ?k ?q); (case h => assumption); (case c => walk_at "chg"); (case k => omega); (case' q => intro _ _ _ _)))
theorem ok_law_count (T : Top K mg C_Pairs C_Wood C_PartWood X_Absent X_NoWord X_Twice cT PT) (F_law_draw : Fn P w K mg base 1 "_law_draw" ["_law_feed_here", "_law_many"] spDraw) : Fn P w K mg base 2 "_law_count" ["_law_feed_here"] spCountF := by
  refine T.d_law_count.ok sc_law_count bi_law_count (fun vs H Q E h => ?_) (fun f cdv A outer s H vs Q E hr h => ?_)
  · obtain ⟨b, d, L, rfl, h, hd, k⟩ := h; rfl
  · obtain ⟨b, d, L, rfl, h, hd, k⟩ := h
    have cl_Pairs := T.cl_Pairs
    have na_Pairs_pair_marks := T.na_Pairs_pair_marks
    have na_Pairs_pair_era := T.na_Pairs_pair_era
    have cl_Wood := T.cl_Wood
    have na_Wood_marks := T.na_Wood_marks
    have na_Wood_tops := T.na_Wood_tops
    have na_Wood_now := T.na_Wood_now
    have cl_PartWood := T.cl_PartWood
    have na_PartWood_marks := T.na_PartWood_marks
    have na_PartWood_tops := T.na_PartWood_tops
    have na_PartWood_now := T.na_PartWood_now
    refine ⟨_, (pss_one (ps_ret (pe_ix ix_list (pe_lst (pa_cons (pe_fn F_law_draw (hr.mono (by decide)) passL (pa_cons (pv 0) (pa_cons (pe_int) pa_nil))) (pa_cons (pe_fn F_law_draw (hr.mono (by decide)) passL (pa_cons (pv 0) (pa_cons (pe_int) pa_nil))) (pa_cons (pe_op op_sub (pe_op op_pow (pe_int) (pe_int)) (pe_fn F_law_draw (hr.mono (by decide)) passL (pa_cons (pv 0) (pa_cons (pe_int) pa_nil)))) pa_nil)))) (pe_fn F_law_draw (hr.mono (by decide)) passL (pa_cons (pv 0) (pa_cons (pe_int) pa_nil))) (fun _ _ => rfl)))), ?_⟩
    have e9 : (10 : Int) ^ Int.toNat 9 = 1000000000 := by decide
    walk_at "go"
    rename_i r1 _ hr1 _ r2 _ hr2 _ r3 _ hr3 _ cp _ _ r4 H8 hr4 h8
    obtain ⟨c, hat, hc⟩ : ∃ c : Int, atI [V.int r1, V.int r2, V.int ((10 : Int) ^ Int.toNat 9 - r3)] r4 = some (.int c) ∧ 0 ≤ c ∧ c ≤ 1000000000 := by
      rcases (by omega : r4 = 0 ∨ r4 = 1 ∨ r4 = 2) with rfl | rfl | rfl
      · exact ⟨_, rfl, by omega⟩
      · exact ⟨_, rfl, by omega⟩
      · exact ⟨_, rfl, by omega⟩
    refine s_ixL (SqL.of (h8.lis .here)) hat ?_
    exact k _ _ hc (by walk_at "sep")
def spPFade (C : Addr) : Sp := fun vs H Q _ => ∃ (p d : Addr) (era t : Int) (L : List Res), vs = [.ref p, .int t] ∧ Sep (obj p C [("pair_marks", .ref d), ("pair_era", .int era)] :: L) H ∧
  ∀ H', Sep (obj p C [("pair_marks", .ref d), ("pair_era", .int (era + t))] :: L) H' → Q .non H'
theorem c_pfade {C p d : Addr} {era t : Int} {L F : List Res} {H : Hp} {Q : VK} {E : XK} (h : Sep L H) (k : Pick (obj p C [("pair_marks", .ref d), ("pair_era", .int era)]) L F)
    (q : ∀ H', Sep (obj p C [("pair_marks", .ref d), ("pair_era", .int (era + t))] :: F) H' → Q .non H') : spPFade C [.ref p, .int t] H Q E :=
  ⟨p, d, era, t, F, rfl, h.pick k, q⟩
local macro_rules | `(tactic| walk_at "s") => `(tactic| ((with_reducible refine' c_pfade ?h ?k ?q); (case h => assumption); (case k => walk_at "pk"); (case' q => intro _ _)))
theorem ok_Pairs_fade (T : Top K mg C_Pairs C_Wood C_PartWood X_Absent X_NoWord X_Twice cT PT)  : FnM P w K mg base 1 C_Pairs "fade" ["self", "times"] [V.int 1] (spPFade C_Pairs) := by
  refine T.me_Pairs_fade.ok sc_Pairs_fade (fun vs H Q E h => ?_) (fun f cdv A outer s H vs Q E hr h => ?_)
  · obtain ⟨p, d, era, t, L, rfl, h, k⟩ := h; rfl
  · obtain ⟨p, d, era, t, L, rfl, h, k⟩ := h
    have cl_Pairs := T.cl_Pairs
    have na_Pairs_pair_marks := T.na_Pairs_pair_marks
    have na_Pairs_pair_era := T.na_Pairs_pair_era
    have cl_Wood := T.cl_Wood
    have na_Wood_marks := T.na_Wood_marks
    have na_Wood_tops := T.na_Wood_tops
    have na_Wood_now := T.na_Wood_now
    have cl_PartWood := T.cl_PartWood
    have na_PartWood_marks := T.na_PartWood_marks
    have na_PartWood_tops := T.na_PartWood_tops
    have na_PartWood_now := T.na_PartWood_now
    refine ⟨_, (pss_one (ps_fld (pv 0) (pe_op op_add (pe_fld (pv 0) rfl) (pv 1)) rfl)), ?_⟩
    walk_at "go"
    exact k _ (by walk_at "sep")
/-- a deed on a wood and on its model alike -/
def spWoodDeedH (C1 C2 : Addr) : Sp := fun vs H Q _ => ∃ (Cx f w0 m d2 pl : Addr) (ss : List Str) (kf : Int) (A : MarkM) (n B : Int) (N : Nat) (L : List Res), vs = [.ref f, .ref w0, .ref m, .ref pl] ∧ (Cx = C1 ∨ Cx = C2) ∧
  Sep (fdr kf f :: lis pl (ss.map V.str) :: wd Cx w0 (gOf A n) n N :: dic m (mV d2 n none) 3 :: mks d2 A N :: L) H ∧ MarksOk A n ∧ bdM A B ∧ (1000000000 ≤ B ∧ B < 2 ^ 59) ∧ N ≤ 60000 ∧ (∀ s ∈ ss, isW s = true) ∧ (ss ≠ [] ∧ ss.length ≤ 1000) ∧ kf ≤ 900000000 ∧
  ∀ (A' : MarkM) (n' : Int) (H' : Hp), MarksOk A' n' → bdM A' (B + 1000000) → Sep (fdr (kf + 10) f :: lis pl (ss.map V.str) :: wd Cx w0 (gOf A' n') n' (N + 27) :: dic m (mV d2 n' none) 3 :: mks d2 A' (N + 27) :: L) H' → Q .non H'
theorem ok_law_wood_deed (T : Top K mg C_Pairs C_Wood C_PartWood X_Absent X_NoWord X_Twice cT PT) (F_PartWood_fade : FnM P w K mg base 1 C_PartWood "fade" ["self", "times"] [V.int 1] (spFade C_PartWood)) (F_PartWood_put : FnM P w K mg base 4 C_PartWood "put" ["self", "word", "count"] [] (spPut K C_PartWood X_NoWord X_Twice)) (F_PartWood_strike : FnM P w K mg base 4 C_PartWood "strike" ["self", "word"] [] (spStrike C_PartWood X_Absent)) (F_PartWood_use : FnM P w K mg base 4 C_PartWood "use" ["self", "word", "times"] [V.int 1] (spUse C_PartWood X_Absent)) (F_Wood_fade : FnM P w K mg base 1 C_Wood "fade" ["self", "times"] [V.int 1] (spFade C_Wood)) (F_Wood_put : FnM P w K mg base 4 C_Wood "put" ["self", "word", "count"] [] (spPut K C_Wood X_NoWord X_Twice)) (F_Wood_strike : FnM P w K mg base 4 C_Wood "strike" ["self", "word"] [] (spStrike C_Wood X_Absent)) (F_Wood_use : FnM P w K mg base 4 C_Wood "use" ["self", "word", "times"] [V.int 1] (spUse C_Wood X_Absent)) (F_law_count : Fn P w K mg base 2 "_law_count" ["_law_feed_here"] spCountF) (F_law_draw : Fn P w K mg base 1 "_law_draw" ["_law_feed_here", "_law_many"] spDraw) (F_law_halved : Fn P w K mg base 1 "_law_halved" ["_law_count_here", "_law_times"] spHalvedM) : Fn P w K mg base 5 "_law_wood_deed" ["_law_feed_here", "_law_wood", "_law_model", "_law_words_here"] (spWoodDeedH C_Wood C_PartWood) := by
  refine T.d_law_wood_deed.ok sc_law_wood_deed bi_law_wood_deed (fun vs H Q E h => ?_) (fun f cdv A outer s H vs Q E hr h => ?_)
  · obtain ⟨Cx, f, w0, m, d2, pl, ss, kf, A, n, B, N, L, rfl, hCx, h, ok, bd, hB, hN, hss, hsl, hkf, k⟩ := h; rfl
  · obtain ⟨Cx, f, w0, m, d2, pl, ss, kf, A, n, B, N, L, rfl, hCx, h, ok, bd, hB, hN, hss, hsl, hkf, k⟩ := h
    have cl_Pairs := T.cl_Pairs
    have na_Pairs_pair_marks := T.na_Pairs_pair_marks
    have na_Pairs_pair_era := T.na_Pairs_pair_era
    have cl_Wood := T.cl_Wood
    have na_Wood_marks := T.na_Wood_marks
    have na_Wood_tops := T.na_Wood_tops
    have na_Wood_now := T.na_Wood_now
    have cl_PartWood := T.cl_PartWood
    have na_PartWood_marks := T.na_PartWood_marks
    have na_PartWood_tops := T.na_PartWood_tops
    have na_PartWood_now := T.na_PartWood_now
    refine ⟨_, (pss_cons (ps_set (i := 4) sc_law_wood_deed.nd rfl (Or.inl rfl) (pe_ix ix_list (pv 3) (pe_fn F_law_draw (hr.mono (by decide)) passL (pa_cons (pv 0) (pa_cons (pe_callB call_len_seq rfl T.n_len (by decide +kernel) (pa_cons (pv 3) pa_nil)) pa_nil))) (fun _ _ => rfl)))
    (pss_cons (ps_set (i := 5) sc_law_wood_deed.nd rfl (Or.inl rfl) (pe_fn F_law_draw (hr.mono (by decide)) passL (pa_cons (pv 0) (pa_cons (pe_int) pa_nil))))
    (pss_cons (ps_set (i := 6) sc_law_wood_deed.nd rfl (Or.inl rfl) (pe_dget (hu_of hr) (pv 2) (pe_str) (fun _ _ => rfl)))
    (pss_cons (ps_set (i := 7) sc_law_wood_deed.nd rfl (Or.inl rfl) (pe_dget (hu_of hr) (pv 2) (pe_str) (fun _ _ => rfl)))
    (pss_one (ps_if (PW.pt (pw_or (pt_cmpR op_eq (pv 5) (pe_int) (nomark _)) (pw_or1 (pt_cmp (pc_dnotin (hu_of hr) (pv 4) (pv 6)))))) (pss_cons (ps_set (i := 8) sc_law_wood_deed.nd rfl (Or.inl rfl) (pe_ix ix_list (pe_lst (pa_cons (pe_int) (pa_cons (pe_op op_add (pe_int) (pe_fn F_law_draw (hr.mono (by decide)) passL (pa_cons (pv 0) (pa_cons (pe_int) pa_nil)))) (pa_cons (pe_op op_pow (pe_int) (pe_int)) pa_nil)))) (pe_fn F_law_draw (hr.mono (by decide)) passL (pa_cons (pv 0) (pa_cons (pe_int) pa_nil))) (fun _ _ => rfl)))
    (pss_one (ps_if (PW.pt (pw_and (pt_cmp (pc_dnotin (hu_of hr) (pv 4) (pv 6))) (pw_and1 (pt_cmpR op_gt (pv 5) (pe_int) (nomark _))))) (pss_cons (ps_set (i := 9) sc_law_wood_deed.nd rfl (Or.inl rfl) (pe_fn F_law_count (hr.mono (by decide)) passL (pa_cons (pv 0) pa_nil)))
    (pss_cons (ps_expr (pe_mth2 F_Wood_put F_PartWood_put (hr.mono (by decide)) (hr.mono (by decide)) passL (pv 1) (pa_cons (pv 4) (pa_cons (pv 9) pa_nil))))
    (pss_one (ps_dput (hu_of hr) (pv 6) (pv 4) (pe_tup (pa_cons (pv 9) (pa_cons (pv 7) pa_nil))) rfl)))) (pss_cons (ps_expr (pe_mth2 F_Wood_fade F_PartWood_fade (hr.mono (by decide)) (hr.mono (by decide)) passL (pv 1) (pa_cons (pv 8) pa_nil)))
    (pss_one (ps_dput (hu_of hr) (pv 2) (pe_str) (pe_op op_add (pv 7) (pv 8)) rfl)))))) (pss_one (ps_if (pt_cmpR op_eq (pv 5) (pe_int) (nomark _)) (pss_cons (ps_expr (pe_mth2 F_Wood_strike F_PartWood_strike (hr.mono (by decide)) (hr.mono (by decide)) passL (pv 1) (pa_cons (pv 4) pa_nil)))
    (pss_one (ps_expr (pe_dpop1 (pv 6) (pv 4) ⟨rfl, rfl, rfl, rfl⟩)))) (pss_cons (ps_set (i := 8) sc_law_wood_deed.nd rfl (Or.inl rfl) (pe_ix ix_list (pe_lst (pa_cons (pe_int) (pa_cons (pe_op op_add (pe_int) (pe_fn F_law_draw (hr.mono (by decide)) passL (pa_cons (pv 0) (pa_cons (pe_int) pa_nil)))) (pa_cons (pe_op op_pow (pe_int) (pe_int)) pa_nil)))) (pe_fn F_law_draw (hr.mono (by decide)) passL (pa_cons (pv 0) (pa_cons (pe_int) pa_nil))) (fun _ _ => rfl)))
    (pss_cons (ps_expr (pe_mth2 F_Wood_use F_PartWood_use (hr.mono (by decide)) (hr.mono (by decide)) passL (pv 1) (pa_cons (pv 4) (pa_cons (pv 8) pa_nil))))
    (pss_one (ps_dput (hu_of hr) (pv 6) (pv 4) (pe_tup (pa_cons (pe_op op_add (pe_fn F_law_halved (hr.mono (by decide)) passL (pa_cons (pe_ix ix_tup (pe_dget (hu_of hr) (pv 6) (pv 4) (fun _ _ => rfl)) (pe_int) (fun _ _ => rfl)) (pa_cons (pe_op op_sub (pv 7) (pe_ix ix_tup (pe_dget (hu_of hr) (pv 6) (pv 4) (fun _ _ => rfl)) (pe_int) (fun _ _ => rfl))) pa_nil))) (pv 8)) (pa_cons (pv 7) pa_nil))) rfl)))))))))))), ?_⟩
    have hsl1 := hsl.1
    have hsl2 := hsl.2
    have hsl0 : 0 < ss.length := List.length_pos_iff.mpr hsl1
    have e6 : (10 : Int) ^ Int.toNat 6 = 1000000 := by decide
    walk_at "go"
    rw [List.length_map]
    walk_at "go"
    rename_i r2 H2 hr2 h2
    obtain ⟨xw, hat2, hm2⟩ := atI_get' (l := ss.map V.str) hr2.1 (by rw [List.length_map]; exact hr2.2)
    obtain ⟨w, hm3, rfl⟩ := List.mem_map.mp hm2
    have hww := hss w hm3
    refine s_ixL (SqL.of (h2.lis (by walk_at "pk"))) hat2 ?_
    walk_at "go"
    rename_i kd H3 hkd h3
    have FIN : ∀ (A' : MarkM) (n' : Int) (N1 N2 : Nat) (k' : Int) (H' : Hp), MarksOk A' n' → bdM A' (B + 1000000) → N1 ≤ N + 27 → N2 ≤ N + 27 → k' ≤ kf + 10 → Sep (fdr k' f :: lis pl (ss.map V.str) :: wd Cx w0 (gOf A' n') n' N1 :: dic m (mV d2 n' none) 3 :: mks d2 A' N2 :: L) H' → Q .non H' := fun A' n' N1 N2 k' H' z1 z2 z3 z4 z5 hz =>
      k A' n' H' z1 z2 (((hz.weaken .here (ent_fdr z5)).weaken (.there (.there .here)) (ent_wd z3)).weaken (.there (.there (.there (.there .here)))) (ent_mks z4))
    have bd1 := bd.mono (show B ≤ B + 1000000 by omega)
    refine dT (fun e0 => ?_) (fun e0 => ?_)
    · have e0' : kd = 0 := V.int.inj e0
      subst e0'
      walk_at "go"
      rename_i ra _ hra _ p1 _ _ rb H4 hrb h4
      obtain ⟨tm, hat3, htm⟩ : ∃ tm : Int, atI [V.int 1, V.int (1 + ra), V.int ((10 : Int) ^ Int.toNat 6)] rb = some (.int tm) ∧ 1 ≤ tm ∧ tm ≤ 1000000 := by
        rcases (by omega : rb = 0 ∨ rb = 1 ∨ rb = 2) with rfl | rfl | rfl
        · exact ⟨_, rfl, by omega⟩
        · exact ⟨_, rfl, by omega⟩
        · exact ⟨_, rfl, by omega⟩
      refine s_ixL (SqL.of (h4.lis .here)) hat3 ?_
      walk_at "go"
      refine bT (fun hc => ?_) (fun hc => ?_)
      · walk_at "go"
        walk_at "if"
        walk_at "go"
        refine n_mth2 (fun c => spFade c) (by assumption) (by walk_at "pk") hCx (by decide +kernel) (by decide +kernel) (by decide +kernel) ?_
        walk_at "go"
        rename_i H9 h9
        rw [← gOf_later ok (by omega)] at h9
        exact FIN A (n + tm) N N _ H9 (ok.later (by omega)) bd1 (by omega) (by omega) (show kf + 1 + 1 + 1 + 1 ≤ kf + 10 by omega) (h9.only (Rs := fdr (kf + 1 + 1 + 1 + 1) f :: lis pl (ss.map V.str) :: wd Cx w0 (gOf A (n + tm)) (n + tm) (N) :: dic m (mV d2 (n + tm) none) 3 :: mks d2 (A) (N) :: L) (by walk_at "spl"))
      · walk_at "go"
        refine n_mth2 (fun c => spFade c) (by assumption) (by walk_at "pk") hCx (by decide +kernel) (by decide +kernel) (by decide +kernel) ?_
        walk_at "go"
        rename_i H9 h9
        rw [← gOf_later ok (by omega)] at h9
        exact FIN A (n + tm) N N _ H9 (ok.later (by omega)) bd1 (by omega) (by omega) (show kf + 1 + 1 + 1 + 1 ≤ kf + 10 by omega) (h9.only (Rs := fdr (kf + 1 + 1 + 1 + 1) f :: lis pl (ss.map V.str) :: wd Cx w0 (gOf A (n + tm)) (n + tm) (N) :: dic m (mV d2 (n + tm) none) 3 :: mks d2 (A) (N) :: L) (by walk_at "spl"))
    · have e0' : ¬ kd = 0 := fun z => e0 (by rw [z])
      walk_at "go"
      cases eA : A w with
      | none =>
        refine iteTc rfl ?_
        have gw : gOf A n w = none := gOf_none.mpr eA
        walk_at "go"
        rename_i ra _ hra _ p1 _ _ rb H4 hrb h4
        obtain ⟨tm, hat3, htm⟩ : ∃ tm : Int, atI [V.int 1, V.int (1 + ra), V.int ((10 : Int) ^ Int.toNat 6)] rb = some (.int tm) ∧ 1 ≤ tm ∧ tm ≤ 1000000 := by
          rcases (by omega : rb = 0 ∨ rb = 1 ∨ rb = 2) with rfl | rfl | rfl
          · exact ⟨_, rfl, by omega⟩
          · exact ⟨_, rfl, by omega⟩
          · exact ⟨_, rfl, by omega⟩
        refine s_ixL (SqL.of (h4.lis .here)) hat3 ?_
        walk_at "go"
        refine iteTc (by rw [eA]; rfl) ?_
        walk_at "go"
        refine iteTc (decide_eq_true (by omega)) ?_
        walk_at "go"
        rename_i c H5 hc h5
        refine n_mth2 (fun c => spPut K c X_NoWord X_Twice) (by assumption) (by walk_at "pk") hCx (by decide +kernel) (by decide +kernel) (by decide +kernel) ?_
        walk_at "go"
        rename_i H6 h6 pt H10 h10
        refine n_mput (c := c) (e := n) h10 (h10.dat .here) (by walk_at "chg") (by omega) fun H11 h11 => ?_
        rw [← gOf_set] at h11
        exact FIN (setm A w (c, n)) n (N + 27) (N + 1) _ H11 (ok.set hww hc.1 (Int.le_refl _)) (bd1.set (show c ≤ B + 1000000 by omega)) (by omega) (by omega) (show kf + 1 + 1 + 1 + 1 + 4 ≤ kf + 10 by omega) (h11.only (Rs := fdr (kf + 1 + 1 + 1 + 1 + 4) f :: lis pl (ss.map V.str) :: wd Cx w0 (gOf (setm A w (c, n)) n) n (N + 27) :: dic m (mV d2 n none) 3 :: mks d2 (setm A w (c, n)) (N + 1) :: L) (by walk_at "spl"))
      | some mk =>
        refine iteFc rfl ?_
        have gw : gOf A n w = some (wn mk n) := gOf_some eA
        have o1 := ok w mk eA
        have o2 := bd w mk eA
        walk_at "go"
        refine dT (fun e1 => ?_) (fun e1 => ?_)
        · walk_at "go"
          refine n_mth2 (fun c => spStrike c X_Absent) (by assumption) (by walk_at "pk") hCx (by decide +kernel) (by decide +kernel) (by decide +kernel) ?_
          walk_at "go"
          rename_i H9 h9
          refine n_mpop h9 (by walk_at "chg") (by rw [eA]; rfl) (fun R r => ?_) fun v H10 h10 => ?_
          · walk_at "go"
            exact r
          · walk_at "go"
            rw [← gOf_del] at h10
            exact FIN (delm A w) n (N + 27) N _ H10 ok.del bd1.del (by omega) (by omega) (show kf + 1 + 1 ≤ kf + 10 by omega) (h10.only (Rs := fdr (kf + 1 + 1) f :: lis pl (ss.map V.str) :: wd Cx w0 (gOf (delm A w) n) (n) (N + 27) :: dic m (mV d2 (n) none) 3 :: mks d2 (delm A w) (N) :: L) (by walk_at "spl"))
        · walk_at "go"
          rename_i ra _ hra _ p1 _ _ rb H4 hrb h4
          obtain ⟨tm, hat3, htm⟩ : ∃ tm : Int, atI [V.int 1, V.int (1 + ra), V.int ((10 : Int) ^ Int.toNat 6)] rb = some (.int tm) ∧ 1 ≤ tm ∧ tm ≤ 1000000 := by
            rcases (by omega : rb = 0 ∨ rb = 1 ∨ rb = 2) with rfl | rfl | rfl
            · exact ⟨_, rfl, by omega⟩
            · exact ⟨_, rfl, by omega⟩
            · exact ⟨_, rfl, by omega⟩
          refine s_ixL (SqL.of (h4.lis .here)) hat3 ?_
          walk_at "go"
          refine n_mth2 (fun c => spUse c X_Absent) (by assumption) (by walk_at "pk") hCx (by decide +kernel) (by decide +kernel) (by decide +kernel) ?_
          walk_at "go"
          rename_i pt H10 h10
          have := bd.wn ok eA
          have hw0 : 0 ≤ wn mk n := worth_nonneg (n := n) (e := mk.2) o1.2.1
          refine n_mput (c := worth mk.1 mk.2 n + tm) (e := n) h10 (h10.dat .here) (by walk_at "chg") (by omega) fun H11 h11 => ?_
          rw [show worth mk.1 mk.2 n = wn mk n from rfl] at h11
          rw [← gOf_set] at h11
          exact FIN (setm A w (wn mk n + tm, n)) n (N + 27) (N + 1) _ H11 (ok.set hww (show 0 ≤ wn mk n + tm by omega) (Int.le_refl _)) (bd1.set (show wn mk n + tm ≤ B + 1000000 by omega)) (by omega) (by omega) (show kf + 1 + 1 + 1 + 1 ≤ kf + 10 by omega) (h11.only (Rs := fdr (kf + 1 + 1 + 1 + 1) f :: lis pl (ss.map V.str) :: wd Cx w0 (gOf (setm A w (wn mk n + tm, n)) n) (n) (N + 27) :: dic m (mV d2 (n) none) 3 :: mks d2 (setm A w (wn mk n + tm, n)) (N + 1) :: L) (by walk_at "spl"))
theorem ok_Wood_words (T : Top K mg C_Pairs C_Wood C_PartWood X_Absent X_NoWord X_Twice cT PT) (F_worth_at : Fn P w K mg base 1 "worth_at" ["mark", "era"] (spWorth K)) : FnM P w K mg base 2 C_Wood "words" ["self"] [] (spWordsS C_Wood K) := by
  refine T.me_Wood_words.ok sc_Wood_words (fun vs H Q E h => ?_) (fun f cdv A outer s H vs Q E hr h => ?_)
  · obtain ⟨p, g, n, N, F, rfl, h, hN, k⟩ := h; rfl
  · obtain ⟨p, g, n, N, F, rfl, h, hN, k⟩ := h
    have cl_Pairs := T.cl_Pairs
    have na_Pairs_pair_marks := T.na_Pairs_pair_marks
    have na_Pairs_pair_era := T.na_Pairs_pair_era
    have cl_Wood := T.cl_Wood
    have na_Wood_marks := T.na_Wood_marks
    have na_Wood_tops := T.na_Wood_tops
    have na_Wood_now := T.na_Wood_now
    have cl_PartWood := T.cl_PartWood
    have na_PartWood_marks := T.na_PartWood_marks
    have na_PartWood_tops := T.na_PartWood_tops
    have na_PartWood_now := T.na_PartWood_now
    refine ⟨_, (pss_one (ps_ret (pe_lc (own := [("word", 1)]) (by rfl) sc_Wood_words.nd (pi_list (pe_callB (call_sortDict rfl hr.units) rfl T.n_sorted (by decide +kernel) (pa_cons (pe_fld (pv 0) rfl) pa_nil))) (blkOk_by (own := [("word", 1)]) (N := ["self", "word"]) (sc := defScope s_Wood_words) (by decide +kernel)) (fun _ _ _ _ _ => (pg_name (i := 1) sc_Wood_words.nd rfl (Or.inl rfl))) (fun _ _ _ _ _ => pts_nil) (fun _ _ _ _ _ => (pe_tup (pa_cons (pv 1) (pa_cons (pe_fn F_worth_at (hr.mono (by decide)) passL (pa_cons (pe_dget (hu_of hr) (pe_fldK (K := K) rfl (pv 0) rfl) (pv 1) (fun _ _ => rfl)) (pa_cons (pe_fldK (K := K) rfl (pv 0) rfl) pa_nil))) pa_nil))))))), ?_⟩
    obtain ⟨dm, dt, A, ks, B, rfl, hR⟩ := h.openW .here
    clear h
    have W := hR.wdr .here
    have ok := gok_of W
    walk_at "go"
    refine n_lcM (xs := (gKeys (gOf A n)).map V.str) (by assumption) .here (gKeys (gOf A n)) (by rw [List.length_map]) (fun w => dP (w, (gOf A n w).getD 0)) (Nat.le_trans ok.keys.2.2 (by omega)) ?_ ?_
    · intro i v w D zs H' e1 e2 h'
      obtain ⟨w', e3, rfl⟩ := map_get e1
      have e4 : w' = w := Option.some.inj (e3.symm.trans e2)
      subst e4
      have hm : (gOf A n w').isSome = true := (ok.keys.2.1 w').mp (List.mem_of_getElem? e2)
      obtain ⟨m, hA⟩ : ∃ m, A w' = some m := by
        unfold gOf at hm
        cases z : A w' with
        | none => rw [z] at hm; cases hm
        | some m => exact ⟨m, rfl⟩
      have eg : (gOf A n w').getD 0 = wn m n := by unfold gOf; rw [hA]; rfl
      walk_at "go"
      refine ⟨rfl, ?_⟩
      walk_at "go"
      refine' LC.put ?h ?s ?y ?e ?l
      (case h => assumption)
      (case s => walk_at "spl")
      (case y => walk_at "pd")
      · rw [eg]; rfl
      · exact rsM_len (Nat.le_trans ok.keys.2.2 (by omega))
    · intro D zs H' h'
      walk_at "go"
      refine k D H' zs (cast ?_ (show Sep (lisD D zs _ :: wd C_Wood p (gOf A n) n N :: F) H' from by walk_at "sep"))
      congr 3
      unfold rOf
      rw [List.map_map]; rfl
theorem ok_PartWood_words (T : Top K mg C_Pairs C_Wood C_PartWood X_Absent X_NoWord X_Twice cT PT) (F_worth_at : Fn P w K mg base 1 "worth_at" ["mark", "era"] (spWorth K)) : FnM P w K mg base 2 C_PartWood "words" ["self"] [] (spWordsS C_PartWood K) := by
  refine T.me_PartWood_words.ok sc_PartWood_words (fun vs H Q E h => ?_) (fun f cdv A outer s H vs Q E hr h => ?_)
  · obtain ⟨p, g, n, N, F, rfl, h, hN, k⟩ := h; rfl
  · obtain ⟨p, g, n, N, F, rfl, h, hN, k⟩ := h
    have cl_Pairs := T.cl_Pairs
    have na_Pairs_pair_marks := T.na_Pairs_pair_marks
    have na_Pairs_pair_era := T.na_Pairs_pair_era
    have cl_Wood := T.cl_Wood
    have na_Wood_marks := T.na_Wood_marks
    have na_Wood_tops := T.na_Wood_tops
    have na_Wood_now := T.na_Wood_now
    have cl_PartWood := T.cl_PartWood
    have na_PartWood_marks := T.na_PartWood_marks
    have na_PartWood_tops := T.na_PartWood_tops
    have na_PartWood_now := T.na_PartWood_now
    refine ⟨_, (pss_one (ps_ret (pe_lc (own := [("word", 1)]) (by rfl) sc_PartWood_words.nd (pi_list (pe_callB (call_sortDict rfl hr.units) rfl T.n_sorted (by decide +kernel) (pa_cons (pe_fld (pv 0) rfl) pa_nil))) (blkOk_by (own := [("word", 1)]) (N := ["self", "word"]) (sc := defScope s_PartWood_words) (by decide +kernel)) (fun _ _ _ _ _ => (pg_name (i := 1) sc_PartWood_words.nd rfl (Or.inl rfl))) (fun _ _ _ _ _ => pts_nil) (fun _ _ _ _ _ => (pe_tup (pa_cons (pv 1) (pa_cons (pe_fn F_worth_at (hr.mono (by decide)) passL (pa_cons (pe_dget (hu_of hr) (pe_fldK (K := K) rfl (pv 0) rfl) (pv 1) (fun _ _ => rfl)) (pa_cons (pe_fldK (K := K) rfl (pv 0) rfl) pa_nil))) pa_nil))))))), ?_⟩
    obtain ⟨dm, dt, A, ks, B, rfl, hR⟩ := h.openW .here
    clear h
    have W := hR.wdr .here
    have ok := gok_of W
    walk_at "go"
    refine n_lcM (xs := (gKeys (gOf A n)).map V.str) (by assumption) .here (gKeys (gOf A n)) (by rw [List.length_map]) (fun w => dP (w, (gOf A n w).getD 0)) (Nat.le_trans ok.keys.2.2 (by omega)) ?_ ?_
    · intro i v w D zs H' e1 e2 h'
      obtain ⟨w', e3, rfl⟩ := map_get e1
      have e4 : w' = w := Option.some.inj (e3.symm.trans e2)
      subst e4
      have hm : (gOf A n w').isSome = true := (ok.keys.2.1 w').mp (List.mem_of_getElem? e2)
      obtain ⟨m, hA⟩ : ∃ m, A w' = some m := by
        unfold gOf at hm
        cases z : A w' with
        | none => rw [z] at hm; cases hm
        | some m => exact ⟨m, rfl⟩
      have eg : (gOf A n w').getD 0 = wn m n := by unfold gOf; rw [hA]; rfl
      walk_at "go"
      refine ⟨rfl, ?_⟩
      walk_at "go"
      refine' LC.put ?h ?s ?y ?e ?l
      (case h => assumption)
      (case s => walk_at "spl")
      (case y => walk_at "pd")
      · rw [eg]; rfl
      · exact rsM_len (Nat.le_trans ok.keys.2.2 (by omega))
    · intro D zs H' h'
      walk_at "go"
      refine k D H' zs (cast ?_ (show Sep (lisD D zs _ :: wd C_PartWood p (gOf A n) n N :: F) H' from by walk_at "sep"))
      congr 3
      unfold rOf
      rw [List.map_map]; rfl
/-- what a pair is worth now -/
def spPWorth (K : PySem.W.Frag) (C : Addr) : Sp := fun vs H Q _ => ∃ (p d : Addr) (era : Int) (b w : Str) (M : PM) (B : Int) (R : Res) (L : List Res), vs = [.ref p, .str b, .str w] ∧ IsDct R d M ∧ Sep (obj p C [("pair_marks", .ref d), ("pair_era", .int era)] :: R :: L) H ∧ PmOk M era B ∧
  ∀ H', Sep (obj p C [("pair_marks", .ref d), ("pair_era", .int era)] :: R :: L) H' → Q (.int (pwOf M era (b, w))) H'
theorem c_pworth {K : PySem.W.Frag} {C p d : Addr} {era : Int} {b w : Str} {M : PM} {B : Int} {R : Res} {L F F2 : List Res} {H : Hp} {Q : VK} {E : XK} (h : Sep L H) (k : Pick (obj p C [("pair_marks", .ref d), ("pair_era", .int era)]) L F) (hR : IsDct R d M) (k2 : Pick R F F2) (ok : PmOk M era B)
    (q : ∀ H', Sep L H' → Q (.int (pwOf M era (b, w))) H') : spPWorth K C [.ref p, .str b, .str w] H Q E :=
  ⟨p, d, era, b, w, M, B, R, F2, rfl, hR, (h.pick k).pick (.there k2) |>.pick (.there .here), ok, fun H' h' => q H' ((h'.pick (.there .here)).put (.there k2) |>.put k)⟩
local macro_rules | `(tactic| walk_at "s") => `(tactic| first
  | ((with_reducible refine' c_pworth ?h ?k isDct_dct ?k2 ?ok ?q); (case h => assumption); (case k => walk_at "pk"); (case k2 => walk_at "pk"); (case ok => assumption); (case' q => intro _ _))
  | ((with_reducible refine' c_pworth ?h ?k isDct_dctL ?k2 ?ok ?q); (case h => assumption); (case k => walk_at "pk"); (case k2 => walk_at "pk"); (case ok => assumption); (case' q => intro _ _))
  | ((with_reducible refine' c_pworth ?h ?k ?r ?k2 ?ok ?q); (case h => assumption); (case k => walk_at "pk"); (case r => assumption); (case k2 => walk_at "pk"); (case ok => assumption); (case' q => intro _ _)))
theorem ok_Pairs_worth_of (T : Top K mg C_Pairs C_Wood C_PartWood X_Absent X_NoWord X_Twice cT PT) (F_worth_at : Fn P w K mg base 1 "worth_at" ["mark", "era"] (spWorth K)) : FnM P w K mg base 2 C_Pairs "worth_of" ["self", "before", "word"] [] (spPWorth K C_Pairs) := by
  refine T.me_Pairs_worth_of.ok sc_Pairs_worth_of (fun vs H Q E h => ?_) (fun f cdv A outer s H vs Q E hr h => ?_)
  · obtain ⟨p, d, era, b, w, M, B, R, L, rfl, hR, h, ok, k⟩ := h; rfl
  · obtain ⟨p, d, era, b, w, M, B, R, L, rfl, hR, h, ok, k⟩ := h
    have cl_Pairs := T.cl_Pairs
    have na_Pairs_pair_marks := T.na_Pairs_pair_marks
    have na_Pairs_pair_era := T.na_Pairs_pair_era
    have cl_Wood := T.cl_Wood
    have na_Wood_marks := T.na_Wood_marks
    have na_Wood_tops := T.na_Wood_tops
    have na_Wood_now := T.na_Wood_now
    have cl_PartWood := T.cl_PartWood
    have na_PartWood_marks := T.na_PartWood_marks
    have na_PartWood_tops := T.na_PartWood_tops
    have na_PartWood_now := T.na_PartWood_now
    refine ⟨_, (pss_cons (ps_if (pt_cmp (pc_dnotin (hu_of hr) (pe_tup (pa_cons (pv 1) (pa_cons (pv 2) pa_nil))) (pe_fld (pv 0) rfl))) (pss_one (ps_ret (pe_int))) pss_nil)
    (pss_one (ps_ret (pe_fn F_worth_at (hr.mono (by decide)) passL (pa_cons (pe_dget (hu_of hr) (pe_fld (pv 0) rfl) (pe_tup (pa_cons (pv 1) (pa_cons (pv 2) pa_nil))) (fun _ _ => rfl)) (pa_cons (pe_fld (pv 0) rfl) pa_nil)))))), ?_⟩
    walk_at "go"
    cases eM : M (b, w) with
    | none =>
      refine iteTc rfl ?_
      walk_at "go"
      have e : pwOf M era (b, w) = 0 := by unfold pwOf; rw [eM]
      rw [e] at k
      exact k _ (by walk_at "sep")
    | some m =>
      refine iteFc rfl ?_
      have o1 := ok _ m eM
      walk_at "go"
      have e : pwOf M era (b, w) = worth m.1 m.2 era := by unfold pwOf; rw [eM]
      rw [e] at k
      exact k _ (by walk_at "sep")
def qLam : Str := ("ranked" ++ ".<locals>.") ++ "<lambda>"
/-- the rows of a wood's words that begin so, in the words' order -/
noncomputable def rowsR (g : WM) (M : PM) (era : Int) (b x : Str) (l : List RW) : List RW3 := (l.filter fun e => preB x e.1).map fun e => (e.1, pwOf M era (b, e.1), e.2)
noncomputable def rankL (g : WM) (M : PM) (era : Int) (b x : Str) : List RW3 := (rowsR g M era b x (rOf g)).mergeSort leW
theorem rowsR_len {g : WM} {M : PM} {era : Int} {b x : Str} {l : List RW} : (rowsR g M era b x l).length ≤ l.length := by
  unfold rowsR
  rw [List.length_map]
  exact List.length_filter_le _ _
theorem rowsR_more {g : WM} {M : PM} {era : Int} {b x : Str} {l : List RW} {i : Nat} {e : RW} (he : l[i]? = some e) : rowsR g M era b x (l.take (i + 1)) = rowsR g M era b x (l.take i) ++ (if preB x e.1 = true then [(e.1, pwOf M era (b, e.1), e.2)] else []) := by
  unfold rowsR
  rw [take_more he, List.filter_append, List.map_append]
  cases hp : preB x e.1 <;> simp [List.filter, hp]
def spRanked (K : PySem.W.Frag) (C1 C2 CP PT : Addr) : Sp := fun vs H Q _ => ∃ (Cx w0 p d : Addr) (b x : Str) (many : Int) (g : WM) (n : Int) (N : Nat) (M : PM) (era B : Int) (Np : Nat) (L : List Res), vs = [.ref w0, .ref p, .str b, .str x, .int many] ∧ (Cx = C1 ∨ Cx = C2) ∧
  Sep (tab PT qLam :: wd Cx w0 g n N :: obj p CP [("pair_marks", .ref d), ("pair_era", .int era)] :: dct d M Np :: L) H ∧ PmOk M era B ∧ N ≤ 80000 ∧ (1 ≤ many ∧ many ≤ 1000) ∧ x.length ≤ 1000 ∧ (0 ≤ B ∧ B < 2 ^ 60) ∧
  ∀ (l : Addr) (ys : List V) (H' : Hp), Sep (lisD l ys (((rankL g M era b x).take many.toNat).map dW) :: tab PT qLam :: wd Cx w0 g n N :: obj p CP [("pair_marks", .ref d), ("pair_era", .int era)] :: dct d M Np :: L) H' → Q (.ref l) H'
theorem ok_ranked (T : Top K mg C_Pairs C_Wood C_PartWood X_Absent X_NoWord X_Twice cT PT) (TB : LamX.TabB base mg cT PT) (F_Pairs_worth_of : FnM P w K mg base 2 C_Pairs "worth_of" ["self", "before", "word"] [] (spPWorth K C_Pairs)) (F_PartWood_words : FnM P w K mg base 2 C_PartWood "words" ["self"] [] (spWordsS C_PartWood K)) (F_Wood_words : FnM P w K mg base 2 C_Wood "words" ["self"] [] (spWordsS C_Wood K)) : Fn P w K mg base 3 "ranked" ["wood", "pairs", "before", "beginning", "many"] (spRanked K C_Wood C_PartWood C_Pairs PT) := by
  refine T.d_ranked.ok sc_ranked bi_ranked (fun vs H Q E h => ?_) (fun f A outer s H vs Q E hr h => ?_)
  · obtain ⟨Cx, w0, p, d, b, x, many, g, n, N, M, era, B, Np, L, rfl, hCx, h, ok, hN, hm, hx, hB, k⟩ := h; rfl
  · obtain ⟨Cx, w0, p, d, b, x, many, g, n, N, M, era, B, Np, L, rfl, hCx, h, ok, hN, hm, hx, hB, k⟩ := h
    have cl_Pairs := T.cl_Pairs
    have na_Pairs_pair_marks := T.na_Pairs_pair_marks
    have na_Pairs_pair_era := T.na_Pairs_pair_era
    have cl_Wood := T.cl_Wood
    have na_Wood_marks := T.na_Wood_marks
    have na_Wood_tops := T.na_Wood_tops
    have na_Wood_now := T.na_Wood_now
    have cl_PartWood := T.cl_PartWood
    have na_PartWood_marks := T.na_PartWood_marks
    have na_PartWood_tops := T.na_PartWood_tops
    have na_PartWood_now := T.na_PartWood_now
    refine ⟨_, (pss_cons (ps_set (i := 5) sc_ranked.nd rfl (Or.inl rfl) (pe_lst pa_nil))
    (pss_cons (ps_for PassesOwn.never rfl (pi_list (pe_mth02 F_Wood_words F_PartWood_words (hr.mono (by decide)) (hr.mono (by decide)) passL (pv 0))) (pg_tup rfl (pgs_cons (pg_name (i := 6) sc_ranked.nd rfl (Or.inl rfl)) (pgs_cons (pg_name (i := 7) sc_ranked.nd rfl (Or.inl rfl)) pgs_nil))) (pss_one (ps_if (pt_val (pe_m1 PySem.F.slot_str_startswith PySem.F.type_str_startswith mt_startswith (pv 6) (pv 3))) (pss_one (ps_expr (pe_bm PySem.F.plainAttrs_list PySem.F.slot_list_append PySem.F.type_list_append mt_append (pv 5) (pa_cons (pe_tup (pa_cons (pv 6) (pa_cons (pe_mth F_Pairs_worth_of (hr.mono (by decide)) passL (pv 1) (pa_cons (pv 2) (pa_cons (pv 6) pa_nil))) (pa_cons (pv 7) pa_nil)))) pa_nil)))) pss_nil)))
    (pss_one (ps_ret (pe_slice sl_list (pe_sortKey (by rfl) T.n_sorted (pv 5) TB (by rfl) hr.units hr.depth) po_none (po_some (pv 4))))))), ?_⟩
    have hxl : x.length ≤ sizeLine := sz hx
    walk_at "go"
    rename_i rp H1 h1
    refine n_mth2 (fun c => spWordsS c K) h1 (by walk_at "pk") hCx (by decide +kernel) (by decide +kernel) (by decide +kernel) ?_
    walk_at "go"
    rename_i pr xr H2 h2
    have okg := h2.gok (g := g) (N := N) (p := w0) (n := n) (C := Cx) (by walk_at "pk")
    have hol := okg.len
    have h3 : Sep (lisD pr xr ((rOf g).map dP) :: lisD rp [] ((rowsR g M era b x ((rOf g).take 0)).map dW) :: tab PT qLam :: wd Cx w0 g n N :: obj p C_Pairs [("pair_marks", .ref d), ("pair_era", .int era)] :: dct d M Np :: L) H2 := h2.toD (ds := ([] : List RW3).map dW) (.there .here) .nil
    clear h2 h1
    refine' n_forL (R := lisD pr xr ((rOf g).map dP)) (xs := xr) (fun i σ Z => ∃ (zs : List V) (v6 v7 : Option V), σ = [some (.ref w0), some (.ref p), some (.str b), some (.str x), some (.int many), some (.ref rp), v6, v7] ∧ Z = lisD rp zs ((rowsR g M era b x ((rOf g).take i)).map dW) :: tab PT qLam :: wd Cx w0 g n N :: obj p C_Pairs [("pair_marks", .ref d), ("pair_era", .int era)] :: dct d M Np :: L) h3 (.cons .here .refl .nil) ⟨[], none, none, rfl, rfl⟩ ?hs4 ?hd4
    case hs4 =>
      rintro i y σ Z H4 hi ⟨zs, v6, v7, rfl, rfl⟩ h4
      obtain ⟨r, hr, hpr⟩ := PDs.item (h4.pds .here) hi
      obtain ⟨tr, rfl, htr⟩ := dP_inv2 hpr
      have hgr := okg.mem.mp (List.mem_of_getElem? hr)
      have hrw := (okg.ok r.1 r.2 hgr).1
      have hrl := (Tx.word hrw).len
      have hrz : r.1.length ≤ sizeLine := sz (by omega)
      have h5 := h4.addTpl htr
      clear h4
      walk_at "go"
      refine bT (fun hp => ?_) (fun hp => ?_)
      · walk_at "go"
        rename_i H6 h6 pt H7 h7
        refine n_appD (d := dW (r.1, pwOf M era (b, r.1), r.2)) h7 (by walk_at "chg") (h7.dat .here) (by
          have h8 := rowsR_len (g := g) (M := M) (era := era) (b := b) (x := x) (l := (rOf g).take i)
          rw [List.length_take] at h8
          rw [List.length_map, sizeLine_eq]; omega) fun H8 h8 => ?_
        refine ⟨_, ⟨zs ++ [V.ref pt], _, _, rfl, rfl⟩, ?_⟩
        rw [rowsR_more hr, if_pos hp, List.map_append]
        walk_at "sep"
      · walk_at "go"
        refine ⟨_, ⟨zs, _, _, rfl, rfl⟩, ?_⟩
        rw [rowsR_more hr, if_neg (by rw [hp]; simp), List.append_nil]
        walk_at "sep"
    case hd4 =>
      rintro σ Z H4 ⟨zs, v6, v7, rfl, rfl⟩ h4
      have hxr : xr.length = (rOf g).length := by rw [(h4.pds .here).length, List.length_map]
      rw [hxr, List.take_of_length_le (Nat.le_refl _)] at h4
      walk_at "go"
      refine u_sortKey ?_
      walk_at "go"
      refine ⟨_, _, _, rp, zs, rowsR g M era b x (rOf g), rfl, h4, .there (.there .here), .there .here, Nat.le_trans rowsR_len (by omega), fun l ys H5 h5 => ?_⟩
      walk_at "go"
      rename_i pz H6 h6
      rw [← List.map_take] at h6
      exact k pz (ys.take many.toNat) _ (h6.only (by walk_at "spl"))
/-- what a pair is worth, by the law's own marks -/
def spLPW (K : PySem.W.Frag) : Sp := fun vs H Q _ => ∃ (d b : Addr) (era : Int) (s1 s2 : Str) (M : PM) (B : Int) (R : Res) (L : List Res), vs = [.ref d, .int era, .ref b] ∧ IsDct R d M ∧ Sep (R :: L) H ∧ PD H (.ref b) (.tuple [.str s1, .str s2]) ∧ PmOk M era B ∧ (0 ≤ B ∧ B < 2 ^ 60) ∧
  ∀ H', Sep (R :: L) H' → Q (.int (pwOf M era (s1, s2))) H'
theorem c_lpw {K : PySem.W.Frag} {d b : Addr} {era : Int} {s1 s2 : Str} {M : PM} {B : Int} {R : Res} {L F : List Res} {H : Hp} {Q : VK} {E : XK} (h : Sep L H) (hb : PD H (.ref b) (.tuple [.str s1, .str s2])) (hR : IsDct R d M) (k : Pick R L F) (ok : PmOk M era B) (hB : 0 ≤ B ∧ B < 2 ^ 60)
    (q : ∀ H', Sep L H' → Q (.int (pwOf M era (s1, s2))) H') : spLPW K [.ref d, .int era, .ref b] H Q E :=
  ⟨d, b, era, s1, s2, M, B, R, F, rfl, hR, h.pick k, hb, ok, hB, fun H' h' => q H' (h'.put k)⟩
local macro_rules | `(tactic| walk_at "s") => `(tactic| first
  | ((with_reducible refine' c_lpw ?h ?b isDct_dct ?k ?ok ?l ?q); (case h => assumption); (case b => walk_at "pd"); (case k => walk_at "pk"); (case ok => assumption); (case l => omega); (case' q => intro _ _))
  | ((with_reducible refine' c_lpw ?h ?b isDct_dctL ?k ?ok ?l ?q); (case h => assumption); (case b => walk_at "pd"); (case k => walk_at "pk"); (case ok => assumption); (case l => omega); (case' q => intro _ _))
  | ((with_reducible refine' c_lpw ?h ?b ?r ?k ?ok ?l ?q); (case h => assumption); (case b => walk_at "pd"); (case r => assumption); (case k => walk_at "pk"); (case ok => assumption); (case l => omega); (case' q => intro _ _)))
theorem ok_law_pair_worth (T : Top K mg C_Pairs C_Wood C_PartWood X_Absent X_NoWord X_Twice cT PT) (F_law_halved : Fn P w K mg base 1 "_law_halved" ["_law_count_here", "_law_times"] spHalvedM) : Fn P w K mg base 2 "_law_pair_worth" ["_law_marks", "_law_era", "_law_pair"] (spLPW K) := by
  refine T.d_law_pair_worth.ok sc_law_pair_worth bi_law_pair_worth (fun vs H Q E h => ?_) (fun f cdv A outer s H vs Q E hr h => ?_)
  · obtain ⟨d, b, era, s1, s2, M, B, R, L, rfl, hR, h, hb, ok, hB, k⟩ := h; rfl
  · obtain ⟨d, b, era, s1, s2, M, B, R, L, rfl, hR, h, hb, ok, hB, k⟩ := h
    have cl_Pairs := T.cl_Pairs
    have na_Pairs_pair_marks := T.na_Pairs_pair_marks
    have na_Pairs_pair_era := T.na_Pairs_pair_era
    have cl_Wood := T.cl_Wood
    have na_Wood_marks := T.na_Wood_marks
    have na_Wood_tops := T.na_Wood_tops
    have na_Wood_now := T.na_Wood_now
    have cl_PartWood := T.cl_PartWood
    have na_PartWood_marks := T.na_PartWood_marks
    have na_PartWood_tops := T.na_PartWood_tops
    have na_PartWood_now := T.na_PartWood_now
    refine ⟨_, (pss_cons (ps_asg (pe_dget2 (hu_of hr) (pv 0) (pv 2) (pe_tup (pa_cons (pe_int) (pa_cons (pv 1) pa_nil))) ⟨rfl, rfl, rfl, rfl⟩) (pg_tup rfl (pgs_cons (pg_name (i := 3) sc_law_pair_worth.nd rfl (Or.inl rfl)) (pgs_cons (pg_name (i := 4) sc_law_pair_worth.nd rfl (Or.inl rfl)) pgs_nil))))
    (pss_one (ps_ret (pe_fn F_law_halved (hr.mono (by decide)) passL (pa_cons (pv 3) (pa_cons (pe_op op_sub (pv 1) (pv 4)) pa_nil)))))), ?_⟩
    have g0 := ok.getD hB.1 (s1, s2)
    have h' := h.addDat hb
    clear h
    walk_at "go"
    rw [pwOf_getD]
    exact k _ (by walk_at "sep")
/-- the rows that are due -/
def spDueR : Sp := fun vs H Q _ => ∃ (rp m dm : Addr) (b x : Str) (xs : List V) (g : WM) (N : Nat) (M : PM) (era B : Int) (Np : Nat) (L : List Res), vs = [.ref rp, .ref m, .str b, .str x] ∧
  Sep (lisD rp xs ((rOf g).map dP) :: dic m (mV dm era none) 3 :: dct dm M Np :: L) H ∧ GOk g N ∧ PmOk M era B ∧ N ≤ 80000 ∧ x.length ≤ 1000 ∧ (0 ≤ B ∧ B < 2 ^ 60) ∧
  ∀ (l : Addr) (ys : List V) (H' : Hp), Sep (lisD l ys ((rankL g M era b x).map dW) :: lisD rp xs ((rOf g).map dP) :: dic m (mV dm era none) 3 :: dct dm M Np :: L) H' → Q (.ref l) H'
theorem ok_law_due (T : Top K mg C_Pairs C_Wood C_PartWood X_Absent X_NoWord X_Twice cT PT) (F_law_pair_worth : Fn P w K mg base 2 "_law_pair_worth" ["_law_marks", "_law_era", "_law_pair"] (spLPW K)) : Fn P w K mg base 3 "_law_due" ["_law_rated_here", "_law_model", "_law_before", "_law_text"] spDueR := by
  refine T.d_law_due.ok sc_law_due bi_law_due (fun vs H Q E h => ?_) (fun f cdv A outer s H vs Q E hr h => ?_)
  · obtain ⟨rp, m, dm, b, x, xs, g, N, M, era, B, Np, L, rfl, h, okg, ok, hN, hx, hB, k⟩ := h; rfl
  · obtain ⟨rp, m, dm, b, x, xs, g, N, M, era, B, Np, L, rfl, h, okg, ok, hN, hx, hB, k⟩ := h
    have cl_Pairs := T.cl_Pairs
    have na_Pairs_pair_marks := T.na_Pairs_pair_marks
    have na_Pairs_pair_era := T.na_Pairs_pair_era
    have cl_Wood := T.cl_Wood
    have na_Wood_marks := T.na_Wood_marks
    have na_Wood_tops := T.na_Wood_tops
    have na_Wood_now := T.na_Wood_now
    have cl_PartWood := T.cl_PartWood
    have na_PartWood_marks := T.na_PartWood_marks
    have na_PartWood_tops := T.na_PartWood_tops
    have na_PartWood_now := T.na_PartWood_now
    refine ⟨_, (pss_cons (ps_set (i := 4) sc_law_due.nd rfl (Or.inl rfl) (pe_lst pa_nil))
    (pss_cons (ps_for PassesOwn.never rfl (pi_list (pv 0)) (pg_tup rfl (pgs_cons (pg_name (i := 5) sc_law_due.nd rfl (Or.inl rfl)) (pgs_cons (pg_name (i := 6) sc_law_due.nd rfl (Or.inl rfl)) pgs_nil))) (pss_one (ps_if (pt_cmpR op_eq (pe_slice sl_str (pv 5) po_none (po_some (pe_callB call_len_str rfl T.n_len (by decide +kernel) (pa_cons (pv 3) pa_nil)))) (pv 3) (nomark _)) (pss_one (ps_expr (pe_bm PySem.F.plainAttrs_list PySem.F.slot_list_append PySem.F.type_list_append mt_append (pv 4) (pa_cons (pe_tup (pa_cons (pe_op op_sub (pe_int) (pe_fn F_law_pair_worth (hr.mono (by decide)) passL (pa_cons (pe_dget (hu_of hr) (pv 1) (pe_str) (fun _ _ => rfl)) (pa_cons (pe_dget (hu_of hr) (pv 1) (pe_str) (fun _ _ => rfl)) (pa_cons (pe_tup (pa_cons (pv 2) (pa_cons (pv 5) pa_nil))) pa_nil))))) (pa_cons (pe_op op_sub (pe_int) (pv 6)) (pa_cons (pv 5) pa_nil)))) pa_nil)))) pss_nil)))
    (pss_one (ps_ret (pe_lc (own := [("_law_row", 7)]) (by rfl) sc_law_due.nd (pi_list (pe_callB (cr_sortD hr.units) rfl T.n_sorted (by decide +kernel) (pa_cons (pv 4) pa_nil))) (blkOk_by (own := [("_law_row", 7)]) (N := ["_law_rated_here", "_law_model", "_law_before", "_law_text", "_law_rows", "_law_word_here", "_law_worth", "_law_row"]) (sc := defScope s_law_due) (by decide +kernel)) (fun _ _ _ _ _ => (pg_name (i := 7) sc_law_due.nd rfl (Or.inl rfl))) (fun _ _ _ _ _ => pts_nil) (fun _ _ _ _ _ => (pe_tup (pa_cons (pe_ix (ix_tupK (K := K) rfl) (pv 7) (pe_int) (fun _ _ => rfl)) (pa_cons (pe_op op_sub (pe_int) (pe_ix (ix_tupK (K := K) rfl) (pv 7) (pe_int) (fun _ _ => rfl))) (pa_cons (pe_op op_sub (pe_int) (pe_ix (ix_tupK (K := K) rfl) (pv 7) (pe_int) (fun _ _ => rfl))) pa_nil)))))))))), ?_⟩
    have hxl : x.length ≤ sizeLine := sz hx
    have hol := okg.len
    walk_at "go"
    rename_i rq H1 h1
    have h3 : Sep (lisD rp xs ((rOf g).map dP) :: lisD rq [] ((rowsR g M era b x ((rOf g).take 0)).map kW) :: dic m (mV dm era none) 3 :: dct dm M Np :: L) H1 := (h1.toD (ds := ([] : List RW3).map kW) .here .nil).only (by walk_at "spl")
    clear h1 h
    refine' n_forL (R := lisD rp xs ((rOf g).map dP)) (xs := xs) (fun i σ Z => ∃ (zs : List V) (v5 v6 : Option V), σ = [some (.ref rp), some (.ref m), some (.str b), some (.str x), some (.ref rq), v5, v6, none] ∧ Z = lisD rq zs ((rowsR g M era b x ((rOf g).take i)).map kW) :: dic m (mV dm era none) 3 :: dct dm M Np :: L) h3 (.cons .here .refl .nil) ⟨[], none, none, rfl, rfl⟩ ?hs4 ?hd4
    case hs4 =>
      rintro i y σ Z H4 hi ⟨zs, v5, v6, rfl, rfl⟩ h4
      obtain ⟨r, hr, hpr⟩ := PDs.item (h4.pds .here) hi
      obtain ⟨tr, rfl, htr⟩ := dP_inv2 hpr
      have hgr := okg.mem.mp (List.mem_of_getElem? hr)
      have hrw := (okg.ok r.1 r.2 hgr).1
      have hrl := (Tx.word hrw).len
      have hrz : r.1.length ≤ sizeLine := sz (by omega)
      have h5 := h4.addTpl htr
      clear h4
      walk_at "go"
      rw [pre_test]
      refine bT (fun hp => ?_) (fun hp => ?_)
      · walk_at "go"
        rename_i pk H6 h6 H7 h7 pt H8 h8
        refine n_appD (d := kW (r.1, pwOf M era (b, r.1), r.2)) h8 (by walk_at "chg") (h8.dat .here) (by
          have h8 := rowsR_len (g := g) (M := M) (era := era) (b := b) (x := x) (l := (rOf g).take i)
          rw [List.length_take] at h8
          rw [List.length_map, sizeLine_eq]; omega) fun H9 h9 => ?_
        refine ⟨_, ⟨zs ++ [V.ref pt], _, _, rfl, rfl⟩, ?_⟩
        rw [rowsR_more hr, if_pos hp, List.map_append]
        walk_at "sep"
      · walk_at "go"
        refine ⟨_, ⟨zs, _, _, rfl, rfl⟩, ?_⟩
        rw [rowsR_more hr, if_neg (by rw [hp]; simp), List.append_nil]
        walk_at "sep"
    case hd4 =>
      rintro σ Z H4 ⟨zs, v5, v6, rfl, rfl⟩ h4
      have hxr : xs.length = (rOf g).length := by rw [(h4.pds .here).length, List.length_map]
      rw [hxr, List.take_of_length_le (Nat.le_refl _)] at h4
      walk_at "go"
      refine n_sortW h4 (.there .here) fun ps ys H5 h5 => ?_
      have hrl2 : (rankL g M era b x).length ≤ 80000 := by
        unfold rankL
        rw [List.length_mergeSort]
        exact Nat.le_trans rowsR_len (by omega)
      have hyl : ys.length = (rankL g M era b x).length := by
        have := (h5.pds .here).length
        rw [List.length_map] at this
        exact this
      refine n_lcM (R := lisD ps ys ((rankL g M era b x).map kW)) (xs := ys) h5 .here (rankL g M era b x) hyl dW (by omega) ?_ ?_
      · intro i y r D zs3 H6 e1 e2 h6
        obtain ⟨r', e3, hy⟩ := PDs.item (h6.pds (.there .here)) e1
        have : r' = r := Option.some.inj (e3.symm.trans e2)
        subst this
        obtain ⟨t, rfl, ht⟩ := kW_inv hy
        have h7 := h6.addTpl ht
        clear h6
        walk_at "go"
        refine ⟨rfl, ?_⟩
        walk_at "go"
        walk_at "lc"
        · have e5 : dW r' = .tuple [.str r'.1, .int (0 - (0 - r'.2.1)), .int (0 - (0 - r'.2.2))] := by
            unfold dW
            rw [show (0 : Int) - (0 - r'.2.1) = r'.2.1 by omega, show (0 : Int) - (0 - r'.2.2) = r'.2.2 by omega]
          rw [e5]
        · exact rsM_len (by omega)
      · intro D zs3 H6 h6
        walk_at "go"
        exact k D zs3 _ (h6.only (by walk_at "spl"))
def spPLetGo (C : Addr) : Sp := fun vs H Q _ => ∃ (p d : Addr) (era : Int) (w : Str) (M : PM) (N : Nat) (L : List Res), vs = [.ref p, .str w] ∧ Sep (obj p C [("pair_marks", .ref d), ("pair_era", .int era)] :: dct d M N :: L) H ∧ N < 1000000 ∧
  ∀ (d' : Addr) (H' : Hp), Sep (obj p C [("pair_marks", .ref d'), ("pair_era", .int era)] :: dct d' (delP M w) N :: L) H' → Q .non H'
theorem c_letgo {C p d : Addr} {era : Int} {w : Str} {M : PM} {N : Nat} {L F F2 : List Res} {H : Hp} {Q : VK} {E : XK} (h : Sep L H) (k : Pick (obj p C [("pair_marks", .ref d), ("pair_era", .int era)]) L F) (k2 : Pick (dct d M N) F F2) (hN : N < 1000000)
    (q : ∀ (d' : Addr) (H' : Hp), Sep (obj p C [("pair_marks", .ref d'), ("pair_era", .int era)] :: dct d' (delP M w) N :: F2) H' → Q .non H') : spPLetGo C [.ref p, .str w] H Q E :=
  ⟨p, d, era, w, M, N, F2, rfl, (h.pick k).pick (.there k2) |>.pick (.there .here), hN, q⟩
local macro_rules | `(tactic| walk_at "s") => `(tactic| ((with_reducible refine' c_letgo ?h ?k ?k2 ?b ?q); (case h => assumption); (case k => walk_at "pk"); (case k2 => walk_at "pk"); (case b => omega); (case' q => intro _ _ _)))
theorem ok_Pairs_let_go (T : Top K mg C_Pairs C_Wood C_PartWood X_Absent X_NoWord X_Twice cT PT)  : FnM P w K mg base 1 C_Pairs "let_go" ["self", "word"] [] (spPLetGo C_Pairs) := by
  refine T.me_Pairs_let_go.ok sc_Pairs_let_go (fun vs H Q E h => ?_) (fun f cdv A outer s H vs Q E hr h => ?_)
  · obtain ⟨p, d, era, w, M, N, L, rfl, h, hN, k⟩ := h; rfl
  · obtain ⟨p, d, era, w, M, N, L, rfl, h, hN, k⟩ := h
    have cl_Pairs := T.cl_Pairs
    have na_Pairs_pair_marks := T.na_Pairs_pair_marks
    have na_Pairs_pair_era := T.na_Pairs_pair_era
    have cl_Wood := T.cl_Wood
    have na_Wood_marks := T.na_Wood_marks
    have na_Wood_tops := T.na_Wood_tops
    have na_Wood_now := T.na_Wood_now
    have cl_PartWood := T.cl_PartWood
    have na_PartWood_marks := T.na_PartWood_marks
    have na_PartWood_tops := T.na_PartWood_tops
    have na_PartWood_now := T.na_PartWood_now
    refine ⟨_, (pss_cons (ps_set (i := 2) sc_Pairs_let_go.nd rfl (Or.inl rfl) (pe_dnewT))
    (pss_cons (ps_lock (ps_for PassesOwn.never rfl (pi_itemsT (pe_fld (pv 0) rfl)) (pg_tup rfl (pgs_cons (pg_name (i := 3) sc_Pairs_let_go.nd rfl (Or.inl rfl)) (pgs_cons (pg_name (i := 4) sc_Pairs_let_go.nd rfl (Or.inl rfl)) pgs_nil))) (pss_one (ps_if (pt_cmpR op_notIn_seq (pv 1) (pv 3) rfl) (pss_one (ps_dput (hu_of hr) (pv 2) (pv 3) (pv 4) rfl)) pss_nil))))
    (pss_one (ps_fld (pv 0) (pv 2) rfl)))), ?_⟩
    walk_at "go"
    rename_i kp H1 h1
    refine n_forI h1 (.there (.there .here)) (fun od kvs ks G R h9 r => by walk_at "go"; exact r) (fun ks i σ M' => ∃ (v3 v4 : Option V), σ = [some (.ref p), some (.str w), some (.ref kp), v3, v4] ∧ M' = dct kp (restP M w (ks.take i)) i :: obj p C_Pairs [("pair_marks", .ref d), ("pair_era", .int era)] :: L) (fun ks _ _ _ => ⟨none, none, rfl, by rw [List.take_zero, restP_nil]⟩) ?_ ?_
    · rintro ks kvs od nd hm hl i ⟨w1, w2⟩ m σ M' H2 T b t hi hM ⟨v3, v4, rfl, rfl⟩ h2
      have hlt : i < ks.length := (List.getElem?_eq_some_iff.mp hi).1
      walk_at "go"
      by_cases z : w1 = w ∨ w2 = w
      · refine iteFc (by simp [z]) ?_
        walk_at "go"
        refine ⟨_, ⟨_, _, rfl, rfl⟩, ?_⟩
        rw [restP_no hi z]
        walk_at "sep"
      · refine iteTc (by simp [z]) ?_
        walk_at "go"
        refine n_tput (c := m.1) (e := m.2) h2 (key_pd (h2.tpl (.there .here))) (mark_pd (h2.tpl (.there (.there .here)))) (by walk_at "chg") (by omega) fun H3 h3 => ?_
        refine ⟨_, ⟨_, _, rfl, rfl⟩, ?_⟩
        rw [restP_yes hi hM z]
        walk_at "sep"
    · rintro ks σ M' H2 nd hm hl ⟨v3, v4, rfl, rfl⟩ h2
      rw [restP_all hm] at h2
      walk_at "go"
      rename_i H3 h3
      exact k _ H3 ((h3.only (Rs := obj p C_Pairs [("pair_marks", .ref kp), ("pair_era", .int era)] :: dct kp (delP M w) ks.length :: L) (by walk_at "spl")).weaken (.there .here) (ent_dct hl))
/-- an instance of Pairs -/
abbrev pF (d : Addr) (era : Int) : List (Str × V) := [("pair_marks", .ref d), ("pair_era", .int era)]
/-- a word chosen behind another one -/
def spPChoose (C : Addr) : Sp := fun vs H Q _ => ∃ (p d : Addr) (era : Int) (b w : Str) (M : PM) (B : Int) (N : Nat) (L : List Res), vs = [.ref p, .str b, .str w] ∧ Sep (obj p C [("pair_marks", .ref d), ("pair_era", .int era)] :: dct d M N :: L) H ∧ PmOk M era B ∧ (0 ≤ B ∧ B < 2 ^ 60) ∧ N < 1000000 ∧
  ∀ H', Sep (obj p C [("pair_marks", .ref d), ("pair_era", .int era)] :: dct d (setP M (b, w) (pwOf M era (b, w) + 1, era)) (N + 1) :: L) H' → Q .non H'
theorem c_choose {C p d : Addr} {era : Int} {b w : Str} {M : PM} {B : Int} {N : Nat} {L F F2 : List Res} {H : Hp} {Q : VK} {E : XK} (h : Sep L H) (k : Pick (obj p C [("pair_marks", .ref d), ("pair_era", .int era)]) L F) (k2 : Pick (dct d M N) F F2) (ok : PmOk M era B) (hB : (0 ≤ B ∧ B < 2 ^ 60) ∧ N < 1000000)
    (q : ∀ H', Sep (obj p C [("pair_marks", .ref d), ("pair_era", .int era)] :: dct d (setP M (b, w) (pwOf M era (b, w) + 1, era)) (N + 1) :: F2) H' → Q .non H') : spPChoose C [.ref p, .str b, .str w] H Q E :=
  ⟨p, d, era, b, w, M, B, N, F2, rfl, (h.pick k).pick (.there k2) |>.pick (.there .here), ok, hB.1, hB.2, q⟩
local macro_rules | `(tactic| walk_at "s") => `(tactic| ((with_reducible refine' c_choose ?h ?k ?k2 ?ok ?b ?q); (case h => assumption); (case k => walk_at "pk"); (case k2 => walk_at "pk"); (case ok => assumption); (case b => omega); (case' q => intro _ _)))
theorem ok_Pairs_choose (T : Top K mg C_Pairs C_Wood C_PartWood X_Absent X_NoWord X_Twice cT PT) (F_used_mark : Fn P w K mg base 2 "used_mark" ["mark", "era", "times"] (spUsed K)) : FnM P w K mg base 3 C_Pairs "choose" ["self", "before", "word"] [] (spPChoose C_Pairs) := by
  refine T.me_Pairs_choose.ok sc_Pairs_choose (fun vs H Q E h => ?_) (fun f cdv A outer s H vs Q E hr h => ?_)
  · obtain ⟨p, d, era, b, w, M, B, N, L, rfl, h, ok, hB, hN, k⟩ := h; rfl
  · obtain ⟨p, d, era, b, w, M, B, N, L, rfl, h, ok, hB, hN, k⟩ := h
    have cl_Pairs := T.cl_Pairs
    have na_Pairs_pair_marks := T.na_Pairs_pair_marks
    have na_Pairs_pair_era := T.na_Pairs_pair_era
    have cl_Wood := T.cl_Wood
    have na_Wood_marks := T.na_Wood_marks
    have na_Wood_tops := T.na_Wood_tops
    have na_Wood_now := T.na_Wood_now
    have cl_PartWood := T.cl_PartWood
    have na_PartWood_marks := T.na_PartWood_marks
    have na_PartWood_tops := T.na_PartWood_tops
    have na_PartWood_now := T.na_PartWood_now
    refine ⟨_, (pss_cons (ps_set (i := 3) sc_Pairs_choose.nd rfl (Or.inl rfl) (pe_dget2 (hu_of hr) (pe_fld (pv 0) rfl) (pe_tup (pa_cons (pv 1) (pa_cons (pv 2) pa_nil))) (pe_tup (pa_cons (pe_int) (pa_cons (pe_fld (pv 0) rfl) pa_nil))) ⟨rfl, rfl, rfl, rfl⟩))
    (pss_one (ps_dput (hu_of hr) (pe_fld (pv 0) rfl) (pe_tup (pa_cons (pv 1) (pa_cons (pv 2) pa_nil))) (pe_fn F_used_mark (hr.mono (by decide)) passL (pa_cons (pv 3) (pa_cons (pe_fld (pv 0) rfl) (pa_cons (pe_int) pa_nil)))) rfl))), ?_⟩
    have g0 := ok.getD hB.1 (b, w)
    walk_at "go"
    rename_i H9 h9
    rw [pwOf_getD] at h9
    exact k _ (by walk_at "sep")
/-- a deed on pairs and on their model alike -/
def spPDeed (C : Addr) : Sp := fun vs H Q _ => ∃ (f p d m dm pl : Addr) (ss : List Str) (kf : Int) (M : PM) (era B : Int) (N : Nat) (L : List Res), vs = [.ref f, .ref p, .ref m, .ref pl] ∧
  Sep (fdr kf f :: lis pl (ss.map V.str) :: obj p C [("pair_marks", .ref d), ("pair_era", .int era)] :: dct d M N :: dic m (mV dm era none) 3 :: dct dm M N :: L) H ∧ PmOk M era B ∧ (0 ≤ B ∧ B < 2 ^ 50) ∧ N ≤ 100000 ∧ (ss ≠ [] ∧ ss.length ≤ 1000) ∧ kf ≤ 900000000 ∧
  ∀ (d' dm' : Addr) (M' : PM) (era' : Int) (H' : Hp), PmOk M' era' (B + 300) → (PmIn M ss → PmIn M' ss) → Sep (fdr (kf + 10) f :: lis pl (ss.map V.str) :: obj p C [("pair_marks", .ref d'), ("pair_era", .int era')] :: dct d' M' (N + 300) :: dic m (mV dm' era' none) 3 :: dct dm' M' (N + 300) :: L) H' → Q (.bl true) H'
theorem ok_law_deed (T : Top K mg C_Pairs C_Wood C_PartWood X_Absent X_NoWord X_Twice cT PT) (F_Pairs_choose : FnM P w K mg base 3 C_Pairs "choose" ["self", "before", "word"] [] (spPChoose C_Pairs)) (F_Pairs_fade : FnM P w K mg base 1 C_Pairs "fade" ["self", "times"] [V.int 1] (spPFade C_Pairs)) (F_Pairs_let_go : FnM P w K mg base 1 C_Pairs "let_go" ["self", "word"] [] (spPLetGo C_Pairs)) (F_law_draw : Fn P w K mg base 1 "_law_draw" ["_law_feed_here", "_law_many"] spDraw) (F_law_pair_worth : Fn P w K mg base 2 "_law_pair_worth" ["_law_marks", "_law_era", "_law_pair"] (spLPW K)) : Fn P w K mg base 4 "_law_deed" ["_law_feed_here", "_law_pairs", "_law_model", "_law_words_here"] (spPDeed C_Pairs) := by
  refine T.d_law_deed.ok sc_law_deed bi_law_deed (fun vs H Q E h => ?_) (fun f cdv A outer s H vs Q E hr h => ?_)
  · obtain ⟨f, p, d, m, dm, pl, ss, kf, M, era, B, N, L, rfl, h, ok, hB, hN, hsl, hkf, k⟩ := h; rfl
  · obtain ⟨f, p, d, m, dm, pl, ss, kf, M, era, B, N, L, rfl, h, ok, hB, hN, hsl, hkf, k⟩ := h
    have cl_Pairs := T.cl_Pairs
    have na_Pairs_pair_marks := T.na_Pairs_pair_marks
    have na_Pairs_pair_era := T.na_Pairs_pair_era
    have cl_Wood := T.cl_Wood
    have na_Wood_marks := T.na_Wood_marks
    have na_Wood_tops := T.na_Wood_tops
    have na_Wood_now := T.na_Wood_now
    have cl_PartWood := T.cl_PartWood
    have na_PartWood_marks := T.na_PartWood_marks
    have na_PartWood_tops := T.na_PartWood_tops
    have na_PartWood_now := T.na_PartWood_now
    refine ⟨_, (pss_cons (ps_set (i := 4) sc_law_deed.nd rfl (Or.inl rfl) (pe_fn F_law_draw (hr.mono (by decide)) passL (pa_cons (pv 0) (pa_cons (pe_int) pa_nil))))
    (pss_cons (ps_set (i := 5) sc_law_deed.nd rfl (Or.inl rfl) (pe_ix ix_list (pe_op op_cat (pv 3) (pe_lst (pa_cons (pe_str) pa_nil))) (pe_fn F_law_draw (hr.mono (by decide)) passL (pa_cons (pv 0) (pa_cons (pe_op op_add (pe_callB call_len_seq rfl T.n_len (by decide +kernel) (pa_cons (pv 3) pa_nil)) (pe_int)) pa_nil))) (fun _ _ => rfl)))
    (pss_cons (ps_set (i := 6) sc_law_deed.nd rfl (Or.inl rfl) (pe_ix ix_list (pv 3) (pe_fn F_law_draw (hr.mono (by decide)) passL (pa_cons (pv 0) (pa_cons (pe_callB call_len_seq rfl T.n_len (by decide +kernel) (pa_cons (pv 3) pa_nil)) pa_nil))) (fun _ _ => rfl)))
    (pss_cons (ps_set (i := 7) sc_law_deed.nd rfl (Or.inl rfl) (pe_dget (hu_of hr) (pv 2) (pe_str) (fun _ _ => rfl)))
    (pss_cons (ps_if (pt_cmpR op_lt (pv 4) (pe_int) (nomark _)) (pss_cons (ps_set (i := 8) sc_law_deed.nd rfl (Or.inl rfl) (pe_lst pa_nil))
    (pss_cons (ps_set (i := 9) sc_law_deed.nd rfl (Or.inl rfl) (pe_int))
    (Evl.pss_cut (ps_if (pt_cmpR op_eq (pv 4) (pe_int) (nomark _)) (pss_one (ps_set (i := 9) sc_law_deed.nd rfl (Or.inl rfl) (pe_ix ix_list (pe_lst (pa_cons (pe_op op_add (pe_int) (pe_fn F_law_draw (hr.mono (by decide)) passL (pa_cons (pv 0) (pa_cons (pe_int) pa_nil)))) (pa_cons (pe_int) pa_nil))) (pe_callTy call_int1 rfl T.n_int (by decide +kernel) (pa_cons (pe_cmpR op_eq (pe_fn F_law_draw (hr.mono (by decide)) passL (pa_cons (pv 0) (pa_cons (pe_int) pa_nil))) (pe_int) (nomark _)) pa_nil)) (fun _ _ => rfl)))) pss_nil)
    (pss_cons (ps_for PassesOwn.never rfl (pi_range1 rfl T.n_range (pa_cons (pv 9) pa_nil)) (pg_name (i := 10) sc_law_deed.nd rfl (Or.inl rfl)) (pss_cons (ps_expr (pe_bm PySem.F.plainAttrs_list PySem.F.slot_list_append PySem.F.type_list_append mt_append (pv 8) (pa_cons (pe_mth F_Pairs_choose (hr.mono (by decide)) passL (pv 1) (pa_cons (pv 5) (pa_cons (pv 6) pa_nil))) pa_nil)))
    (pss_one (ps_dput (hu_of hr) (pe_dget (hu_of hr) (pv 2) (pe_str) (fun _ _ => rfl)) (pe_tup (pa_cons (pv 5) (pa_cons (pv 6) pa_nil))) (pe_tup (pa_cons (pe_op op_add (pe_fn F_law_pair_worth (hr.mono (by decide)) passL (pa_cons (pe_dget (hu_of hr) (pv 2) (pe_str) (fun _ _ => rfl)) (pa_cons (pv 7) (pa_cons (pe_tup (pa_cons (pv 5) (pa_cons (pv 6) pa_nil))) pa_nil)))) (pe_int)) (pa_cons (pv 7) pa_nil))) rfl))))
    (pss_one (ps_ret (pe_cmpR (op_eqD hr.units) (pv 8) (pe_op op_rep (pe_lst (pa_cons (pe_non) pa_nil)) (pe_callB call_len_seq rfl T.n_len (by decide +kernel) (pa_cons (pv 8) pa_nil))) (nomark _)))))))) pss_nil)
    (pss_cons (ps_if (pt_cmpR op_eq (pv 4) (pe_int) (nomark _)) (pss_cons (ps_set (i := 9) sc_law_deed.nd rfl (Or.inl rfl) (pe_ix ix_list (pe_lst (pa_cons (pe_int) (pa_cons (pe_op op_add (pe_int) (pe_fn F_law_draw (hr.mono (by decide)) passL (pa_cons (pv 0) (pa_cons (pe_int) pa_nil)))) (pa_cons (pe_op op_pow (pe_int) (pe_int)) pa_nil)))) (pe_fn F_law_draw (hr.mono (by decide)) passL (pa_cons (pv 0) (pa_cons (pe_int) pa_nil))) (fun _ _ => rfl)))
    (pss_cons (ps_dput (hu_of hr) (pv 2) (pe_str) (pe_op op_add (pv 7) (pv 9)) rfl)
    (pss_one (ps_ret (pe_cmpR op_isN (pe_ifExp (pt_cmpR op_eq (pv 9) (pe_int) (nomark _)) (pe_mthD0 F_Pairs_fade (hr.mono (by decide)) passL (pv 1)) (pe_mth F_Pairs_fade (hr.mono (by decide)) passL (pv 1) (pa_cons (pv 9) pa_nil))) (pe_non) (nomark _)))))) pss_nil)
    (pss_cons (ps_if (pt_cmpR op_eq (pv 4) (pe_int) (nomark _)) (pss_cons (ps_set (i := 11) sc_law_deed.nd rfl (Or.inl rfl) (pe_dnewT))
    (pss_cons (ps_lock (ps_for PassesOwn.never rfl (pi_itemsT (pe_dget (hu_of hr) (pv 2) (pe_str) (fun _ _ => rfl))) (pg_tup rfl (pgs_cons (pg_name (i := 12) sc_law_deed.nd rfl (Or.inl rfl)) (pgs_cons (pg_name (i := 13) sc_law_deed.nd rfl (Or.inl rfl)) pgs_nil))) (pss_one (ps_if (pt_cmpR op_notIn_seq (pv 6) (pv 12) rfl) (pss_one (ps_dput (hu_of hr) (pv 11) (pv 12) (pv 13) rfl)) pss_nil))))
    (pss_cons (ps_dput (hu_of hr) (pv 2) (pe_str) (pv 11) rfl)
    (pss_one (ps_ret (pe_cmpR op_isN (pe_mth F_Pairs_let_go (hr.mono (by decide)) passL (pv 1) (pa_cons (pv 6) pa_nil)) (pe_non) (nomark _))))))) pss_nil)
    (pss_one (ps_ret (pe_bl)))))))))), ?_⟩
    have hsl1 := hsl.1
    have hsl2 := hsl.2
    have hsl0 : 0 < ss.length := List.length_pos_iff.mpr hsl1
    have epw : (10 : Int) ^ Int.toNat 6 = 1000000 := by decide
    have bd1 := ok.mono (Int.le_refl era) (show B ≤ B + 300 by omega)
    have FIN : ∀ (d' dm' : Addr) (M' : PM) (era' : Int) (N1 N2 : Nat) (k' : Int) (H' : Hp), PmOk M' era' (B + 300) → (PmIn M ss → PmIn M' ss) → N1 ≤ N + 300 → N2 ≤ N + 300 → k' ≤ kf + 10 → Sep (fdr k' f :: lis pl (ss.map V.str) :: obj p C_Pairs [("pair_marks", .ref d'), ("pair_era", .int era')] :: dct d' M' N1 :: dic m (mV dm' era' none) 3 :: dct dm' M' N2 :: L) H' → Q (.bl true) H' := fun d' dm' M' era' N1 N2 k' H' z1 z2 z3 z4 z5 hz =>
      k d' dm' M' era' H' z1 z2 (((hz.weaken .here (ent_fdr z5)).weaken (.there (.there (.there .here))) (ent_dct z3)).weaken (.there (.there (.there (.there (.there .here))))) (ent_dct z4))
    walk_at "go"
    rename_i kd _ hkd _ p1 _ _ p2 H1 h1
    rw [List.length_map]
    walk_at "go"
    rename_i r2 H2 hr2 h2
    obtain ⟨xb, hat2, hm2⟩ := atI_get' (l := ss.map V.str ++ [V.str (Str.ofString "")]) hr2.1 (by rw [List.length_append, List.length_map]; exact hr2.2)
    obtain ⟨b, rfl⟩ : ∃ b, xb = V.str b := by
      rcases List.mem_append.mp hm2 with z | z
      · obtain ⟨b, _, rfl⟩ := List.mem_map.mp z; exact ⟨b, rfl⟩
      · exact ⟨_, List.mem_singleton.mp z⟩
    refine s_ixL (SqL.of (h2.lis (by walk_at "pk"))) hat2 ?_
    walk_at "go"
    rw [List.length_map]
    walk_at "go"
    rename_i r3 H3 hr3 h3
    obtain ⟨xw, hat3, hm3⟩ := atI_get' (l := ss.map V.str) hr3.1 (by rw [List.length_map]; exact hr3.2)
    obtain ⟨w, hm4, rfl⟩ := List.mem_map.mp hm3
    refine s_ixL (SqL.of (h3.lis (by walk_at "pk"))) hat3 ?_
    walk_at "go"
    by_cases hk : kd < 6
    · refine iteTc (decide_eq_true hk) ?_
      walk_at "go"
      rename_i tl H4 h4
      refine u_cut (M := fun σ' H' => ∃ t : Int, σ' = [some (.ref f), some (.ref p), some (.ref m), some (.ref pl), some (.int kd), some (.str b), some (.str w), some (.int era), some (.ref tl), some (.int t), none, none, none, none] ∧ (1 ≤ t ∧ t ≤ 300) ∧ Sep (lis tl [] :: fdr (kf + 5) f :: lis pl (ss.map V.str) :: obj p C_Pairs [("pair_marks", .ref d), ("pair_era", .int era)] :: dct d M N :: dic m (mV dm era none) 3 :: dct dm M N :: L) H') ?_ ?_
      · walk_at "go"
        refine dT (fun e5 => ?_) (fun e5 => ?_)
        · walk_at "go"
          rename_i r4 _ hr4 _ la _ _ r5 H6 hr5 h6
          refine .inr ⟨_, rfl, ?_⟩
          obtain ⟨r6, hx6, ht6⟩ : ∃ t : Int, atI [V.int (1 + r4), V.int 300] (if decide (V.int r5 = V.int 7) then 1 else 0) = some (.int t) ∧ 1 ≤ t ∧ t ≤ 300 := by
            by_cases z : V.int r5 = V.int 7
            · rw [if_pos (decide_eq_true z)]; exact ⟨300, rfl, by omega⟩
            · rw [if_neg (by simpa using z)]; exact ⟨1 + r4, rfl, by omega⟩
          refine s_ixL (SqL.of (h6.lis .here)) hx6 ?_
          walk_at "go"
          exact ⟨r6, rfl, ht6, h6.only (Rs := lis tl [] :: fdr (kf + 1 + 1 + 1 + 1 + 1) f :: lis pl (ss.map V.str) :: obj p C_Pairs [("pair_marks", .ref d), ("pair_era", .int era)] :: dct d M N :: dic m (mV dm era none) 3 :: dct dm M N :: L) (by walk_at "spl") |>.weaken (.there .here) (ent_fdr (by omega))⟩
        · walk_at "go"
          exact ⟨1, rfl, by omega, (h4.only (Rs := lis tl [] :: fdr (kf + 1 + 1 + 1) f :: lis pl (ss.map V.str) :: obj p C_Pairs [("pair_marks", .ref d), ("pair_era", .int era)] :: dct d M N :: dic m (mV dm era none) 3 :: dct dm M N :: L) (by walk_at "spl")).weaken (.there .here) (ent_fdr (by omega))⟩
      rintro σ' H' ⟨t, rfl, ht, h5⟩
      walk_at "go"
      refine ⟨by omega, by omega, n_rng (lo := 0) (n := Int.toNat t) (fun i σ M' => ∃ (v10 : Option V) (M2 : PM), σ = [some (.ref f), some (.ref p), some (.ref m), some (.ref pl), some (.int kd), some (.str b), some (.str w), some (.int era), some (.ref tl), some (.int t), v10, none, none, none] ∧ M' = lis tl (List.replicate i V.non) :: fdr (kf + 5) f :: lis pl (ss.map V.str) :: obj p C_Pairs [("pair_marks", .ref d), ("pair_era", .int era)] :: dct d M2 (N + i) :: dic m (mV dm era none) 3 :: dct dm M2 (N + i) :: L ∧ PmOk M2 era (B + i) ∧ (PmIn M ss → PmIn M2 ss)) h5 ⟨none, M, rfl, rfl, ok.mono (Int.le_refl _) (by omega), id⟩ ?_ ?_⟩
      · rintro i σ M' H6 hi ⟨v10, M2, rfl, rfl, ok2, hin⟩ h6
        have hi2 : i < 300 := by omega
        have pw := ok2.pw (k := (b, w)) (by omega)
        walk_at "go"
        rename_i H7 h7
        refine n_app h7 (by walk_at "chg") (by rw [List.length_replicate, sizeLine_eq]; omega) fun H8 h8 => ?_
        walk_at "go"
        rename_i H9 h9
        refine ⟨_, ⟨_, setP M2 (b, w) (pwOf M2 era (b, w) + 1, era), rfl, rfl, ok2.mono (Int.le_refl _) (by push_cast; omega) |>.set (by show 0 ≤ pwOf M2 era (b, w) + 1; omega) (by show pwOf M2 era (b, w) + 1 ≤ _; push_cast; omega) (Int.le_refl _), fun z => (hin z).set hm4⟩, ?_⟩
        rw [List.replicate_succ']
        walk_at "sep"
      · rintro σ M' H6 ⟨v10, M2, rfl, rfl, ok2, hin⟩ h6
        have ht0 : t.toNat ≤ 300 := by omega
        walk_at "go"
        rename_i p8 H8 h8
        rw [List.length_replicate]
        walk_at "go"
        rename_i p9 H9 h9
        rw [show (((t.toNat : Nat) : Int)).toNat = t.toNat from rfl] at h9
        refine n_eqNons h9 (by walk_at "pk") (i := t.toNat) (by walk_at "pk") ?_
        walk_at "go"
        exact FIN d dm M2 era (N + t.toNat) (N + t.toNat) _ H9 (ok2.mono (Int.le_refl _) (by omega)) hin (by omega) (by omega) (show kf + 5 ≤ kf + 10 by omega) (h9.only (Rs := fdr (kf + 5) f :: lis pl (ss.map V.str) :: obj p C_Pairs [("pair_marks", .ref d), ("pair_era", .int era)] :: dct d M2 (N + t.toNat) :: dic m (mV dm era none) 3 :: dct dm M2 (N + t.toNat) :: L) (by walk_at "spl"))
    refine iteFc (decide_eq_false hk) ?_
    walk_at "go"
    refine dT (fun e6 => ?_) (fun e6 => ?_)
    · walk_at "go"
      rename_i ra _ hra _ p3 _ _ rb H4 hrb h4
      obtain ⟨tm, hat3, htm⟩ : ∃ tm : Int, atI [V.int 1, V.int (1 + ra), V.int ((10 : Int) ^ Int.toNat 6)] rb = some (.int tm) ∧ 1 ≤ tm ∧ tm ≤ 1000000 := by
        rcases (by omega : rb = 0 ∨ rb = 1 ∨ rb = 2) with rfl | rfl | rfl
        · exact ⟨_, rfl, by omega⟩
        · exact ⟨_, rfl, by omega⟩
        · exact ⟨_, rfl, by omega⟩
      refine s_ixL (SqL.of (h4.lis .here)) hat3 ?_
      walk_at "go"
      refine dT (fun e1 => ?_) (fun e1 => ?_)
      · cases e1
        walk_at "go"
        rename_i H8 h8
        refine c_pfade h8 (by walk_at "pk") fun H9 h9 => ?_
        walk_at "go"
        exact FIN d dm M (era + 1) N N _ H9 (bd1.mono (by omega) (Int.le_refl _)) id (by omega) (by omega) (show kf + 1 + 1 + 1 + 1 + 1 ≤ kf + 10 by omega) (h9.only (Rs := fdr (kf + 1 + 1 + 1 + 1 + 1) f :: lis pl (ss.map V.str) :: obj p C_Pairs [("pair_marks", .ref d), ("pair_era", .int (era + 1))] :: dct d M N :: dic m (mV dm (era + 1) none) 3 :: dct dm M N :: L) (by walk_at "spl"))
      · walk_at "go"
        rename_i H9 h9
        exact FIN d dm M (era + tm) N N _ H9 (bd1.mono (by omega) (Int.le_refl _)) id (by omega) (by omega) (show kf + 1 + 1 + 1 + 1 + 1 ≤ kf + 10 by omega) (h9.only (Rs := fdr (kf + 1 + 1 + 1 + 1 + 1) f :: lis pl (ss.map V.str) :: obj p C_Pairs [("pair_marks", .ref d), ("pair_era", .int (era + tm))] :: dct d M N :: dic m (mV dm (era + tm) none) 3 :: dct dm M N :: L) (by walk_at "spl"))
    walk_at "go"
    refine dT (fun e7 => ?_) (fun e7 => ?_)
    · walk_at "go"
      rename_i lf H4 h4
      have h5 := h4.only (Rs := dct lf (fun _ => none) 0 :: fdr (kf + 1 + 1 + 1) f :: lis pl (ss.map V.str) :: obj p C_Pairs [("pair_marks", .ref d), ("pair_era", .int era)] :: dct d M N :: dic m (mV dm era none) 3 :: dct dm M N :: L) (by walk_at "spl")
      clear h4
      refine n_forI h5 (.there (.there (.there (.there (.there (.there .here)))))) (fun od kvs ks G R h9 r => by walk_at "go"; exact r) (fun ks i σ M' => ∃ (v12 v13 : Option V), σ = [some (.ref f), some (.ref p), some (.ref m), some (.ref pl), some (.int kd), some (.str b), some (.str w), some (.int era), none, none, none, some (.ref lf), v12, v13] ∧ M' = dct lf (restP M w (ks.take i)) i :: fdr (kf + 1 + 1 + 1) f :: lis pl (ss.map V.str) :: obj p C_Pairs [("pair_marks", .ref d), ("pair_era", .int era)] :: dct d M N :: dic m (mV dm era none) 3 :: L) (fun ks _ _ _ => ⟨none, none, rfl, by rw [List.take_zero, restP_nil]⟩) ?_ ?_
      · rintro ks kvs od nd hm hl i ⟨w1, w2⟩ mk σ M' H2 T b t hi hM ⟨v3, v4, rfl, rfl⟩ h2
        have hlt : i < ks.length := (List.getElem?_eq_some_iff.mp hi).1
        walk_at "go"
        by_cases z : w1 = w ∨ w2 = w
        · refine iteFc (by simp [z]) ?_
          walk_at "go"
          refine ⟨_, ⟨_, _, rfl, rfl⟩, ?_⟩
          rw [restP_no hi z]
          walk_at "sep"
        · refine iteTc (by simp [z]) ?_
          walk_at "go"
          refine n_tput (c := mk.1) (e := mk.2) h2 (key_pd (h2.tpl (.there .here))) (mark_pd (h2.tpl (.there (.there .here)))) (by walk_at "chg") (by omega) fun H3 h3 => ?_
          refine ⟨_, ⟨_, _, rfl, rfl⟩, ?_⟩
          rw [restP_yes hi hM z]
          walk_at "sep"
      · rintro ks σ M' H2 nd hm hl ⟨v3, v4, rfl, rfl⟩ h2
        rw [restP_all hm] at h2
        walk_at "go"
        rename_i d' H9 h9
        exact FIN d' lf (delP M w) era N ks.length _ H9 bd1.del PmIn.del (by omega) (by omega) (show kf + 1 + 1 + 1 ≤ kf + 10 by omega) (h9.only (Rs := fdr (kf + 1 + 1 + 1) f :: lis pl (ss.map V.str) :: obj p C_Pairs [("pair_marks", .ref d'), ("pair_era", .int era)] :: dct d' (delP M w) N :: dic m (mV lf era none) 3 :: dct lf (delP M w) ks.length :: L) (by walk_at "spl"))
    walk_at "go"
    exact FIN d dm M era N N _ H3 bd1 id (by omega) (by omega) (show kf + 1 + 1 + 1 ≤ kf + 10 by omega) (h3.only (Rs := fdr (kf + 1 + 1 + 1) f :: lis pl (ss.map V.str) :: obj p C_Pairs [("pair_marks", .ref d), ("pair_era", .int era)] :: dct d M N :: dic m (mV dm era none) 3 :: dct dm M N :: L) (by walk_at "spl"))
/-- the rated words of a model, rising -/
def spRatedM : Sp := fun vs H Q _ => ∃ (m dm : Addr) (n : Int) (dh : Option Addr) (A : MarkM) (B : Int) (N : Nat) (L : List Res), vs = [.ref m] ∧ Sep (dic m (mV dm n dh) 3 :: mks dm A N :: L) H ∧ MarksOk A n ∧ bdM A B ∧ B < 2 ^ 60 ∧ N ≤ 80000 ∧
  ∀ (q : Addr) (xs : List V) (H' : Hp), Sep (lisD q xs ((rOf (gOf A n)).map dP) :: dic m (mV dm n dh) 3 :: mks dm A N :: L) H' → Q (.ref q) H'
theorem c_ratedM {m dm : Addr} {n : Int} {dh : Option Addr} {A : MarkM} {B : Int} {N : Nat} {L F F2 : List Res} {H : Hp} {Q : VK} {E : XK} (h : Sep L H) (k : Pick (dic m (mV dm n dh) 3) L F) (k2 : Pick (mks dm A N) F F2) (ok : MarksOk A n) (bd : bdM A B) (hB : B < 2 ^ 60 ∧ N ≤ 80000)
    (q : ∀ (q : Addr) (xs : List V) (H' : Hp), Sep (lisD q xs ((rOf (gOf A n)).map dP) :: L) H' → Q (.ref q) H') : spRatedM [.ref m] H Q E :=
  ⟨m, dm, n, dh, A, B, N, F2, rfl, (((h.pick k).pick (.there k2)).pick (.there .here)), ok, bd, hB.1, hB.2, fun r xs H' h' => q r xs H' (((h'.pick (.there (.there .here))).put (.there (.there k2))).pick (.there .here) |>.put (.there k))⟩
local macro_rules | `(tactic| walk_at "s") => `(tactic| ((with_reducible refine' c_ratedM ?h ?k ?k2 ?ok ?bd ?hB ?q); (case h => assumption); (case k => walk_at "pk"); (case k2 => walk_at "pk"); (case ok => assumption); (case bd => assumption); (case hB => omega); (case' q => intro _ _ _ _)))
theorem ok_law_rated (T : Top K mg C_Pairs C_Wood C_PartWood X_Absent X_NoWord X_Twice cT PT) (F_law_halved : Fn P w K mg base 1 "_law_halved" ["_law_count_here", "_law_times"] spHalvedM) : Fn P w K mg base 2 "_law_rated" ["_law_model"] spRatedM := by
  refine T.d_law_rated.ok sc_law_rated bi_law_rated (fun vs H Q E h => ?_) (fun f cdv A outer s H vs Q E hr h => ?_)
  · obtain ⟨m, dm, n, dh, A, B, N, L, rfl, h, ok, bd, hB, hN, k⟩ := h; rfl
  · obtain ⟨m, dm, n, dh, A, B, N, L, rfl, h, ok, bd, hB, hN, k⟩ := h
    have cl_Pairs := T.cl_Pairs
    have na_Pairs_pair_marks := T.na_Pairs_pair_marks
    have na_Pairs_pair_era := T.na_Pairs_pair_era
    have cl_Wood := T.cl_Wood
    have na_Wood_marks := T.na_Wood_marks
    have na_Wood_tops := T.na_Wood_tops
    have na_Wood_now := T.na_Wood_now
    have cl_PartWood := T.cl_PartWood
    have na_PartWood_marks := T.na_PartWood_marks
    have na_PartWood_tops := T.na_PartWood_tops
    have na_PartWood_now := T.na_PartWood_now
    refine ⟨_, (pss_cons (ps_set (i := 1) sc_law_rated.nd rfl (Or.inr rfl) (pe_dget (hu_of hr) (pv 0) (pe_str) (fun _ _ => rfl)))
    (pss_one (ps_ret (pe_lc (own := [("_law_word_here", 2)]) (by rfl) sc_law_rated.nd (pi_list (pe_callB (call_sortDict rfl hr.units) rfl T.n_sorted (by decide +kernel) (pa_cons (pv 1) pa_nil))) (blkOk_by (own := [("_law_word_here", 2)]) (N := ["_law_model", "_law_marks", "_law_word_here"]) (sc := defScope s_law_rated) (by decide +kernel)) (fun _ _ _ _ _ => (pg_name (i := 2) sc_law_rated.nd rfl (Or.inl rfl))) (fun _ _ _ _ _ => pts_nil) (fun _ _ _ _ _ => (pe_tup (pa_cons (pv 2) (pa_cons (pe_fn F_law_halved (hr.mono (by decide)) passL (pa_cons (pe_ix (ix_tupK (K := K) rfl) (pe_dget (hu_of hr) (pv 1) (pv 2) (fun _ _ => rfl)) (pe_int) (fun _ _ => rfl)) (pa_cons (pe_op op_sub (pe_dget (hu_of hr) (pv 0) (pe_str) (fun _ _ => rfl)) (pe_ix (ix_tupK (K := K) rfl) (pe_dget (hu_of hr) (pv 1) (pv 2) (fun _ _ => rfl)) (pe_int) (fun _ _ => rfl))) pa_nil))) pa_nil)))))))), ?_⟩
    walk_at "go"
    refine n_msort (n := n) h (.there .here) fun sk H1 h1 => ?_
    have ok0 := h.mok (.there .here) ok
    refine' n_lcM (R := lis sk ((gKeys (gOf A n)).map V.str)) (xs := (gKeys (gOf A n)).map V.str) h1 ?s (gKeys (gOf A n)) ?el (fun w => dP (w, (gOf A n w).getD 0)) ?hl ?hs ?hd
    case s => exact .here
    case el => rw [List.length_map]
    case hl => have := ok0.keys.2.2; omega
    case hs =>
      intro i y w D zs H3 e1 e2 h3
      rw [List.getElem?_map, e2] at e1
      cases e1
      have hw := (ok0.keys.2.1 w).mp (List.mem_of_getElem? e2)
      rw [gOf_is] at hw
      cases hA : A w with
      | none => rw [hA] at hw; cases hw
      | some mk =>
        have hb := bd _ _ hA
        have ho := ok _ _ hA
        walk_at "go"
        refine ⟨rfl, ?_⟩
        walk_at "go"
        walk_at "lc"
        · rw [gOf_some hA]; rfl
        · exact rsM_len (by have := ok0.keys.2.2; omega)
    case hd =>
      intro D zs H3 h3
      walk_at "go"
      rw [show (gKeys (gOf A n)).map (fun w => dP (w, (gOf A n w).getD 0)) = (rOf (gOf A n)).map dP by unfold rOf; rw [List.map_map]; rfl] at h3
      exact k _ _ _ (by walk_at "sep")
theorem n_disp2 {p dm : Addr} {e : Int} {H : Hp} {L M : List Res} {Q : VK} (h : Sep L H) (k : Chg (dic p (fun _ => none) 0) (dic p (mV dm e none) 3) L M) (q : ∀ H', Sep M H' → Q (.ref p) H') :
    DispEnd p Q [(V.str "marks", V.ref dm), (V.str "era", V.int e)] H := by
  refine n_disp [("marks", .ref dm), ("era", .int e)] (M := dic p (mV dm e none) 2 :: (k.picks).choose) (h.pick (k.picks).choose_spec.1) .here rfl (by simp) mV_new2 fun H' h' => q H' ?_
  exact (h'.weaken .here (ent_dic (by decide))).put (k.picks).choose_spec.2
theorem c_rowsW {a c : Addr} {xs ys : List V} {l : List RW3} {L F F' : List Res} {H : Hp} {Q : VK} {E : XK} (h : Sep L H) (k1 : Pick (lisD a xs (l.map dW)) L F) (k2 : Pick (lisD c ys (l.map dW)) L F') (hr : Rw3Ok l) (hl : l.length ≤ 50000) (z : ∀ (H' : Hp), Sep L H' → Q (.bl true) H') : spIsToldR [.ref a, .ref c] H Q E :=
  ⟨a, c, .list (l.map dW), L, rfl, h, ⟨xs, _, F, k1⟩, fun K G hG => ⟨hG.dpL k1, hG.dpL k2⟩, list_showable fun e he => dW_show (hr e he), list_plain fun e _ => rfl, list_depth fun e _ => Nat.le_refl 1, list_shown (fun e he => dW_len (hr e he)) hl, z⟩
theorem bd_g33 {A : MarkM} {n B : Int} (ok : MarksOk A n) (bd : bdM A B) : Bd (gOf A n) B := fun w v e => by
  unfold gOf at e
  cases hA : A w with
  | none => rw [hA] at e; cases e
  | some m =>
    rw [hA] at e
    have : wn m n = v := Option.some.inj e
    rw [← this]
    exact bd.wn ok hA
theorem rank_ok {g : WM} {N : Nat} {M : PM} {era B B2 : Int} {b x : Str} (okg : GOk g N) (bd : Bd g B) (ok : PmOk M era B2) (h0 : 0 ≤ B2) (hB : B < 2 ^ 62 ∧ B2 < 2 ^ 62) : Rw3Ok (rankL g M era b x) := fun r hr => by
  have h1 := (List.mergeSort_perm _ _).mem_iff.mp hr
  obtain ⟨e, he, rfl⟩ := List.mem_map.mp h1
  have hg := okg.mem.mp (List.mem_filter.mp he).1
  have hp := ok.pw (k := (b, e.1)) h0
  have hv := okg.ok e.1 e.2 hg
  have hb := bd _ _ hg
  exact ⟨hv.1, ⟨hp.1, Int.lt_of_le_of_lt hp.2 hB.2⟩, hv.2, Int.lt_of_le_of_lt hb hB.1⟩
theorem rank_take {g : WM} {M : PM} {era : Int} {b x : Str} {k : Nat} (h : Rw3Ok (rankL g M era b x)) : Rw3Ok ((rankL g M era b x).take k) := fun r hr => h r (List.mem_of_mem_take hr)
theorem rank_len {g : WM} {N : Nat} {M : PM} {era : Int} {b x : Str} (okg : GOk g N) : (rankL g M era b x).length ≤ N := by
  unfold rankL
  rw [List.length_mergeSort]
  exact Nat.le_trans rowsR_len okg.len
local macro_rules | `(tactic| walk_at "s") => `(tactic| ((with_reducible refine' n_disp2 ?h ?k ?q); (case h => assumption); (case k => walk_at "chg"); (case' q => intro _ _)))
theorem okF_law {fa : Addr} {fd : FuncData} (T : Top K mg C_Pairs C_Wood C_PartWood X_Absent X_NoWord X_Twice cT PT) (F : Fun K "law" "law" s_law fa fd) (F_Pairs___init__ : FnI P w K mg base 1 C_Pairs "Pairs" ["self"] (spPInit C_Pairs)) (F_PartWood___init__ : FnI P w K mg base 1 C_PartWood "PartWood" ["self"] (spWInit C_PartWood)) (F_PartWood_words : FnM P w K mg base 2 C_PartWood "words" ["self"] [] (spWordsS C_PartWood K)) (F_Wood___init__ : FnI P w K mg base 1 C_Wood "Wood" ["self"] (spWInit C_Wood)) (F_Wood_words : FnM P w K mg base 2 C_Wood "words" ["self"] [] (spWordsS C_Wood K)) (F_law_beginning : Fn P w K mg base 2 "_law_beginning" ["_law_feed_here", "_law_words_here"] spBegF) (F_law_deed : Fn P w K mg base 4 "_law_deed" ["_law_feed_here", "_law_pairs", "_law_model", "_law_words_here"] (spPDeed C_Pairs)) (F_law_draw : Fn P w K mg base 1 "_law_draw" ["_law_feed_here", "_law_many"] spDraw) (F_law_due : Fn P w K mg base 3 "_law_due" ["_law_rated_here", "_law_model", "_law_before", "_law_text"] spDueR) (F_law_feed : Fn P w K mg base 1 "_law_feed" ["_law_script"] (spFeed K)) (F_law_is_told : FnG P w K mg base 1 "_law_is_told" ["_law_found", "_law_due_here"] spIsToldR) (F_law_rated : Fn P w K mg base 2 "_law_rated" ["_law_model"] spRatedM) (F_law_wood_deed : Fn P w K mg base 5 "_law_wood_deed" ["_law_feed_here", "_law_wood", "_law_model", "_law_words_here"] (spWoodDeedH C_Wood C_PartWood)) (F_law_words : Fn P w K mg base 4 "_law_words" ["_law_feed_here", "_law_many"] (spWordsF K)) (F_ranked : Fn P w K mg base 3 "ranked" ["wood", "pairs", "before", "beginning", "many"] (spRanked K C_Wood C_PartWood C_Pairs PT)) : OkG P w K mg base 6 fa fd ["_law_script"] (spLawT K PT qLam) := by
  refine Fun.okG F sc_law (fun vs H Q E h => ?_) (fun cdv A outer s H vs Q E hgd hr h => ?_)
  · obtain ⟨a, ns, rfl, h0, hl, kk⟩ := h; rfl
  · obtain ⟨a, ns, rfl, h0, hl, kk⟩ := h
    have cl_Pairs := T.cl_Pairs
    have na_Pairs_pair_marks := T.na_Pairs_pair_marks
    have na_Pairs_pair_era := T.na_Pairs_pair_era
    have cl_Wood := T.cl_Wood
    have na_Wood_marks := T.na_Wood_marks
    have na_Wood_tops := T.na_Wood_tops
    have na_Wood_now := T.na_Wood_now
    have cl_PartWood := T.cl_PartWood
    have na_PartWood_marks := T.na_PartWood_marks
    have na_PartWood_tops := T.na_PartWood_tops
    have na_PartWood_now := T.na_PartWood_now
    refine ⟨_, (pss_cons (ps_set (i := 1) sc_law.nd rfl (Or.inl rfl) (pe_fn F_law_feed (hr.mono (by decide)) passL (pa_cons (pv 0) pa_nil)))
    (pss_cons (ps_set (i := 2) sc_law.nd rfl (Or.inl rfl) (pe_fn F_law_words (hr.mono (by decide)) passL (pa_cons (pv 1) (pa_cons (pe_op op_add (pe_int) (pe_fn F_law_draw (hr.mono (by decide)) passL (pa_cons (pv 1) (pa_cons (pe_int) pa_nil)))) pa_nil))))
    (pss_cons (ps_set (i := 3) sc_law.nd rfl (Or.inl rfl) (pe_nw0 F_Wood___init__ (hr.mono (by decide)) passL))
    (Evl.pss_cut (ps_if (pt_cmpR op_eq (pe_fn F_law_draw (hr.mono (by decide)) passL (pa_cons (pv 1) (pa_cons (pe_int) pa_nil))) (pe_int) (nomark _)) (pss_one (ps_set (i := 3) sc_law.nd rfl (Or.inl rfl) (pe_nw0 F_PartWood___init__ (hr.mono (by decide)) passL))) pss_nil)
    (pss_cons (ps_set (i := 4) sc_law.nd rfl (Or.inl rfl) (pe_nw0 F_Pairs___init__ (hr.mono (by decide)) passL))
    (pss_cons (ps_set (i := 5) sc_law.nd rfl (Or.inl rfl) (pe_lst (pa_cons (pe_disp (pps_cons (pe_str) (pe_dnewK) (pps_cons (pe_str) (pe_int) pps_nil)) rfl rfl (by simp) (by decide)) (pa_cons (pe_disp (pps_cons (pe_str) (pe_dnewT) (pps_cons (pe_str) (pe_int) pps_nil)) rfl rfl (by simp) (by decide)) pa_nil))))
    (pss_cons (ps_for PassesOwn.never rfl (pi_range1 rfl T.n_range (pa_cons (pe_op op_add (pe_int) (pe_fn F_law_draw (hr.mono (by decide)) passL (pa_cons (pv 1) (pa_cons (pe_int) pa_nil)))) pa_nil)) (pg_name (i := 6) sc_law.nd rfl (Or.inl rfl)) (pss_cons (ps_expr (pe_fn F_law_wood_deed (hr.mono (by decide)) passL (pa_cons (pv 1) (pa_cons (pv 3) (pa_cons (pe_ix ix_list (pv 5) (pe_int) (fun _ _ => rfl)) (pa_cons (pv 2) pa_nil))))))
    (pss_cons (ps_if (pt_not (pt_val (pe_fn F_law_deed (hr.mono (by decide)) passL (pa_cons (pv 1) (pa_cons (pv 4) (pa_cons (pe_ix ix_list (pv 5) (pe_int) (fun _ _ => rfl)) (pa_cons (pv 2) pa_nil))))))) (pss_one (ps_ret (pe_bl))) pss_nil)
    (pss_cons (ps_set (i := 7) sc_law.nd rfl (Or.inl rfl) (pe_ix ix_list (pe_op op_cat (pv 2) (pe_lst (pa_cons (pe_str) (pa_cons (pe_str) pa_nil)))) (pe_fn F_law_draw (hr.mono (by decide)) passL (pa_cons (pv 1) (pa_cons (pe_op op_add (pe_callB call_len_seq rfl T.n_len (by decide +kernel) (pa_cons (pv 2) pa_nil)) (pe_int)) pa_nil))) (fun _ _ => rfl)))
    (pss_cons (ps_set (i := 8) sc_law.nd rfl (Or.inl rfl) (pe_fn F_law_beginning (hr.mono (by decide)) passL (pa_cons (pv 1) (pa_cons (pv 2) pa_nil))))
    (pss_cons (ps_set (i := 9) sc_law.nd rfl (Or.inl rfl) (pe_ix ix_list (pe_lst (pa_cons (pe_op op_add (pe_int) (pe_fn F_law_draw (hr.mono (by decide)) passL (pa_cons (pv 1) (pa_cons (pe_int) pa_nil)))) (pa_cons (pe_int) pa_nil))) (pe_fn F_law_draw (hr.mono (by decide)) passL (pa_cons (pv 1) (pa_cons (pe_int) pa_nil))) (fun _ _ => rfl)))
    (pss_cons (ps_for PassesOwn.never rfl (pi_list (pe_lst (pa_cons (pv 8) (pa_cons (pe_str) pa_nil)))) (pg_name (i := 10) sc_law.nd rfl (Or.inl rfl)) (pss_cons (ps_set (i := 11) sc_law.nd rfl (Or.inl rfl) (pe_slice sl_list (pe_fn F_law_due (hr.mono (by decide)) passL (pa_cons (pe_fn F_law_rated (hr.mono (by decide)) passL (pa_cons (pe_ix ix_list (pv 5) (pe_int) (fun _ _ => rfl)) pa_nil)) (pa_cons (pe_ix ix_list (pv 5) (pe_int) (fun _ _ => rfl)) (pa_cons (pv 7) (pa_cons (pv 10) pa_nil))))) po_none (po_some (pv 9))))
    (pss_cons (ps_set (i := 12) sc_law.nd rfl (Or.inl rfl) (pe_fn F_ranked (hr.mono (by decide)) passL (pa_cons (pv 3) (pa_cons (pv 4) (pa_cons (pv 7) (pa_cons (pv 10) (pa_cons (pv 9) pa_nil)))))))
    (pss_cons (ps_if (pt_not (pt_val (pe_fnG F_law_is_told hgd (hr.mono (by decide)) passL (pa_cons (pv 12) (pa_cons (pv 11) pa_nil))))) (pss_one (ps_ret (pe_bl))) pss_nil)
    (pss_cons (ps_expr (pe_bm PySem.F.plainAttrs_list PySem.F.slot_list_append PySem.F.type_list_append mt_append (pv 12) (pa_cons (pe_tup (pa_cons (pe_str) (pa_cons (pe_int) (pa_cons (pe_int) pa_nil)))) pa_nil)))
    (pss_one (ps_expr (pe_bm0 PySem.F.plainAttrs_list PySem.F.slot_list_reverse PySem.F.type_list_reverse mt_reverse (pv 12)))))))))
    (pss_one (ps_if (pt_not (pt_val (pe_fnG F_law_is_told hgd (hr.mono (by decide)) passL (pa_cons (pe_mth02 F_Wood_words F_PartWood_words (hr.mono (by decide)) (hr.mono (by decide)) passL (pv 3)) (pa_cons (pe_fn F_law_rated (hr.mono (by decide)) passL (pa_cons (pe_ix ix_list (pv 5) (pe_int) (fun _ _ => rfl)) pa_nil)) pa_nil))))) (pss_one (ps_ret (pe_bl))) pss_nil)))))))))
    (pss_one (ps_ret (pe_fnG F_law_is_told hgd (hr.mono (by decide)) passL (pa_cons (pe_fn F_ranked (hr.mono (by decide)) passL (pa_cons (pv 3) (pa_cons (pv 4) (pa_cons (pe_str) (pa_cons (pe_str) (pa_cons (pe_int) pa_nil)))))) (pa_cons (pe_fn F_law_due (hr.mono (by decide)) passL (pa_cons (pe_fn F_law_rated (hr.mono (by decide)) passL (pa_cons (pe_ix ix_list (pv 5) (pe_int) (fun _ _ => rfl)) pa_nil)) (pa_cons (pe_ix ix_list (pv 5) (pe_int) (fun _ _ => rfl)) (pa_cons (pe_str) (pa_cons (pe_str) pa_nil))))) pa_nil)))))))))))), ?_⟩
    walk_at "go"
    rename_i b H1 h1 r0 H2 hr0 h2
    refine c_wordsF h2 (by walk_at "pk") (by omega) ⟨by omega, by omega⟩ fun pl ss H3 hn hne hsl hw' h3 => ?_
    replace h3 := h3.weaken (.there .here) (ent_fdr (k' := 3000) (by omega))
    walk_at "go"
    rename_i p1 _ _ H4 h4
    refine u_cut (M := fun σ' H' => ∃ (Cx w0 : Addr), (Cx = C_Wood ∨ Cx = C_PartWood) ∧ σ' = [some (.ref a), some (.ref b), some (.ref pl), some (.ref w0), none, none, none, none, none, none, none, none, none] ∧ Sep (fdr 3001 b :: lis pl (ss.map V.str) :: tab PT qLam :: wd Cx w0 (gOf (fun _ => none) 0) 0 (27 * 0) :: []) H') ?_ ?_
    · walk_at "go"
      rename_i r1 H5 hr1 h5
      refine dT (fun e1 => ?_) (fun e1 => ?_)
      · walk_at "go"
        rename_i p2 _ _ H6 h6
        exact ⟨C_PartWood, p2, .inr rfl, rfl, h6.only (Rs := fdr (3000 + 1) b :: lis pl (ss.map V.str) :: tab PT qLam :: wd C_PartWood p2 (fun _ => none) 0 0 :: []) (by walk_at "spl") |>.weaken .here (ent_fdr (by omega))⟩
      · walk_at "go"
        exact ⟨C_Wood, p1, .inl rfl, rfl, h5.only (Rs := fdr (3000 + 1) b :: lis pl (ss.map V.str) :: tab PT qLam :: wd C_Wood p1 (fun _ => none) 0 0 :: []) (by walk_at "spl") |>.weaken .here (ent_fdr (by omega))⟩
    rintro σ H5 ⟨Cx, w0, hCx, rfl, h5⟩
    clear h4 h3 h2 h1 h0
    walk_at "go"
    rename_i p _ _ d _ _ m1 _ _ d1 _ _ _ _ m2 _ _ dm _ _ _ _ ms _ _ r H6 hr h6
    have h7 : Sep (fdr (3002 + 60 * ((0 : Nat) : Int)) b :: lis pl (ss.map V.str) :: tab PT qLam :: wd Cx w0 (gOf (fun _ => none) 0) 0 (27 * 0) :: dic m1 (mV d1 0 none) 3 :: mks d1 (fun _ => none) (27 * 0) :: lis ms [.ref m1, .ref m2] :: obj p C_Pairs [("pair_marks", .ref d), ("pair_era", .int 0)] :: dct d (fun _ => none) (300 * 0) :: dic m2 (mV dm 0 none) 3 :: dct dm (fun _ => none) (300 * 0) :: []) H6 := ((h6.only (Rs := fdr (3001 + 1) b :: lis pl (ss.map V.str) :: tab PT qLam :: wd Cx w0 (gOf (fun _ => none) 0) 0 (27 * 0) :: dic m1 (mV d1 0 none) 3 :: dic d1 (fun _ => none) 0 :: lis ms [.ref m1, .ref m2] :: obj p C_Pairs [("pair_marks", .ref d), ("pair_era", .int 0)] :: dct d (fun _ => none) 0 :: dic m2 (mV dm 0 none) 3 :: dct dm (fun _ => none) 0 :: []) (by walk_at "spl")).weaken (.there (.there (.there (.there (.there .here))))) ent_mnew).weaken .here (ent_fdr (by omega))
    clear h6 h5
    have hsl9 : ss.length ≤ 9 := by omega
    have pok0 : PmOk (fun _ => none) 0 (300 * ((0 : Nat) : Int)) := fun _ _ z => nomatch z
    refine ⟨by omega, by omega, n_rng (lo := 0) (n := (3 + r).toNat) (fun i σ Z => ∃ (A : MarkM) (n : Int) (d dm : Addr) (M : PM) (era : Int) (v6 v7 v8 v9 v10 v11 v12 : Option V), σ = [some (.ref a), some (.ref b), some (.ref pl), some (.ref w0), some (.ref p), some (.ref ms), v6, v7, v8, v9, v10, v11, v12] ∧ (MarksOk A n ∧ bdM A (1000000000 + 1000000 * (i : Nat)) ∧ PmOk M era (300 * (i : Nat))) ∧ Z = fdr (3002 + 60 * (i : Nat)) b :: lis pl (ss.map V.str) :: tab PT qLam :: wd Cx w0 (gOf A n) n (27 * i) :: dic m1 (mV d1 n none) 3 :: mks d1 A (27 * i) :: lis ms [.ref m1, .ref m2] :: obj p C_Pairs [("pair_marks", .ref d), ("pair_era", .int era)] :: dct d M (300 * i) :: dic m2 (mV dm era none) 3 :: dct dm M (300 * i) :: []) h7 ⟨fun _ => none, 0, d, dm, fun _ => none, 0, _, _, _, _, _, _, _, rfl, ⟨(fun w m z => nomatch z), (fun w m z => nomatch z), pok0⟩, rfl⟩ ?_ ?_⟩
    · clear h7
      rintro i σ Z H10 hi ⟨A, n, d, dm, M, era, v6, v7, v8, v9, v10, v11, v12, rfl, ⟨ok0, bd0, pok⟩, rfl⟩ h10
      have hi26 : i < 17 := by omega
      walk_at "go"
      refine ⟨Cx, b, w0, m1, d1, pl, ss, 3002 + 60 * (i : Nat), A, n, 1000000000 + 1000000 * (i : Nat), 27 * i, tab PT qLam :: lis ms [.ref m1, .ref m2] :: obj p C_Pairs [("pair_marks", .ref d), ("pair_era", .int era)] :: dct d M (300 * i) :: dic m2 (mV dm era none) 3 :: dct dm M (300 * i) :: [], rfl, hCx, by walk_at "sep", ok0, bd0, by omega, by omega, hw', ⟨hne, by omega⟩, by omega, fun A1 n1 H13 ok1 bd1 h13 => ?_⟩
      walk_at "go"
      refine ⟨b, p, d, m2, dm, pl, ss, 3002 + 60 * (i : Nat) + 10, M, era, 300 * (i : Nat), 300 * i, tab PT qLam :: lis ms [.ref m1, .ref m2] :: wd Cx w0 (gOf A1 n1) n1 (27 * i + 27) :: dic m1 (mV d1 n1 none) 3 :: mks d1 A1 (27 * i + 27) :: [], rfl, by walk_at "sep", pok, by omega, by omega, ⟨hne, by omega⟩, by omega, fun d2 dm2 M2 era2 H14 pok2 _ h14 => ?_⟩
      have h15 : Sep (fdr (3002 + 60 * (i : Nat) + 10 + 10) b :: lis pl (ss.map V.str) :: tab PT qLam :: wd Cx w0 (gOf A1 n1) n1 (27 * i + 27) :: dic m1 (mV d1 n1 none) 3 :: mks d1 A1 (27 * i + 27) :: lis ms [.ref m1, .ref m2] :: obj p C_Pairs [("pair_marks", .ref d2), ("pair_era", .int era2)] :: dct d2 M2 (300 * i + 300) :: dic m2 (mV dm2 era2 none) 3 :: dct dm2 M2 (300 * i + 300) :: []) H14 := h14.only (by walk_at "spl")
      clear h14 h13 h10
      walk_at "go"
      rw [List.length_map]
      walk_at "go"
      rename_i pa _ _ pb _ _ rb H16 hrb h16
      obtain ⟨bw, hatb⟩ : ∃ bw : Str, atI (ss.map V.str ++ [V.str (Str.ofString ""), V.str (Str.ofString "qq")]) rb = some (.str bw) := by
        obtain ⟨xb, h1, h2⟩ := atI_get' (l := ss.map V.str ++ [V.str (Str.ofString ""), V.str (Str.ofString "qq")]) hrb.1 (by rw [List.length_append, List.length_map]; exact hrb.2)
        rcases List.mem_append.mp h2 with z | z
        · obtain ⟨w, _, rfl⟩ := List.mem_map.mp z
          exact ⟨w, h1⟩
        · simp only [List.mem_cons, List.not_mem_nil, or_false] at z
          rcases z with rfl | rfl
          · exact ⟨_, h1⟩
          · exact ⟨_, h1⟩
      refine s_ixL (SqL.of (h16.lis .here)) hatb ?_
      have h17 : Sep (fdr (3002 + 60 * (i : Nat) + 10 + 10 + 1) b :: lis pl (ss.map V.str) :: tab PT qLam :: wd Cx w0 (gOf A1 n1) n1 (27 * i + 27) :: dic m1 (mV d1 n1 none) 3 :: mks d1 A1 (27 * i + 27) :: lis ms [.ref m1, .ref m2] :: obj p C_Pairs [("pair_marks", .ref d2), ("pair_era", .int era2)] :: dct d2 M2 (300 * i + 300) :: dic m2 (mV dm2 era2 none) 3 :: dct dm2 M2 (300 * i + 300) :: []) H16 := h16.only (by walk_at "spl")
      clear h16 h15
      walk_at "go"
      refine c_begF h17 .here (.there .here) (by omega) hne (by omega) hw' fun bg H18 htx h18 => ?_
      walk_at "go"
      rename_i ra _ hra _ pc _ _ rd H19 hrd h19
      obtain ⟨mn, hat3, hmn⟩ : ∃ mn : Int, atI [V.int (1 + ra), V.int 1000] rd = some (.int mn) ∧ 1 ≤ mn ∧ mn ≤ 1000 := by
        rcases (by omega : rd = 0 ∨ rd = 1) with rfl | rfl
        · exact ⟨_, rfl, by omega⟩
        · exact ⟨_, rfl, by omega⟩
      refine s_ixL (SqL.of (h19.lis (by walk_at "pk"))) hat3 ?_
      walk_at "go"
      rename_i q H20 h20
      have h21 : Sep (lis q [V.str bg, V.str (Str.ofString "")] :: fdr (3002 + 60 * ((i + 1 : Nat) : Int)) b :: lis pl (ss.map V.str) :: tab PT qLam :: wd Cx w0 (gOf A1 n1) n1 (27 * i + 27) :: dic m1 (mV d1 n1 none) 3 :: mks d1 A1 (27 * i + 27) :: lis ms [.ref m1, .ref m2] :: obj p C_Pairs [("pair_marks", .ref d2), ("pair_era", .int era2)] :: dct d2 M2 (300 * i + 300) :: dic m2 (mV dm2 era2 none) 3 :: dct dm2 M2 (300 * i + 300) :: []) H20 := (h20.only (Rs := lis q [V.str bg, V.str (Str.ofString "")] :: fdr (3002 + 60 * (i : Nat) + 10 + 10 + 1 + 10 + 1 + 1) b :: lis pl (ss.map V.str) :: tab PT qLam :: wd Cx w0 (gOf A1 n1) n1 (27 * i + 27) :: dic m1 (mV d1 n1 none) 3 :: mks d1 A1 (27 * i + 27) :: lis ms [.ref m1, .ref m2] :: obj p C_Pairs [("pair_marks", .ref d2), ("pair_era", .int era2)] :: dct d2 M2 (300 * i + 300) :: dic m2 (mV dm2 era2 none) 3 :: dct dm2 M2 (300 * i + 300) :: []) (by walk_at "spl")).weaken (.there .here) (ent_fdr (by omega))
      clear h20 h19 h18 h17
      have okg := h21.mok (A := A1) (n := n1) (a := d1) (N := 27 * i + 27) (by walk_at "pk") ok1
      have bdg := bd_g33 ok1 bd1
      refine n_forL (R := lis q [V.str bg, V.str (Str.ofString "")]) (xs := [V.str bg, V.str (Str.ofString "")]) (fun j σ Z => ∃ (v10 v11 v12 : Option V), σ = [some (.ref a), some (.ref b), some (.ref pl), some (.ref w0), some (.ref p), some (.ref ms), some (.int (0 + (i : Int))), some (.str bw), some (.str bg), some (.int mn), v10, v11, v12] ∧ Z = fdr (3002 + 60 * ((i + 1 : Nat) : Int)) b :: lis pl (ss.map V.str) :: tab PT qLam :: wd Cx w0 (gOf A1 n1) n1 (27 * i + 27) :: dic m1 (mV d1 n1 none) 3 :: mks d1 A1 (27 * i + 27) :: lis ms [.ref m1, .ref m2] :: obj p C_Pairs [("pair_marks", .ref d2), ("pair_era", .int era2)] :: dct d2 M2 (300 * i + 300) :: dic m2 (mV dm2 era2 none) 3 :: dct dm2 M2 (300 * i + 300) :: []) h21 (.cons .here .refl .nil) ⟨_, _, _, rfl, rfl⟩ ?_ ?_
      · rintro j y σ Z H22 hj ⟨v10, v11, v12, rfl, rfl⟩ h22
        obtain ⟨t, rfl, ht⟩ : ∃ t : Str, y = .str t ∧ t.length ≤ 24 := by
          have z := List.mem_of_getElem? hj
          simp only [List.mem_cons, List.not_mem_nil, or_false] at z
          rcases z with rfl | rfl
          · exact ⟨_, rfl, htx.len⟩
          · exact ⟨_, rfl, by decide +kernel⟩
        clear hj
        walk_at "go"
        rename_i rq xq H23 h23
        refine ⟨rq, m2, dm2, bw, t, xq, gOf A1 n1, 27 * i + 27, M2, era2, 300 * (i : Nat) + 300, 300 * i + 300, lis q [V.str bg, V.str (Str.ofString "")] :: fdr (3002 + 60 * ((i + 1 : Nat) : Int)) b :: lis pl (ss.map V.str) :: tab PT qLam :: wd Cx w0 (gOf A1 n1) n1 (27 * i + 27) :: dic m1 (mV d1 n1 none) 3 :: mks d1 A1 (27 * i + 27) :: lis ms [.ref m1, .ref m2] :: obj p C_Pairs [("pair_marks", .ref d2), ("pair_era", .int era2)] :: dct d2 M2 (300 * i + 300) :: [], rfl, by walk_at "sep", okg, pok2, by omega, by omega, by omega, fun l yl H24 h24 => ?_⟩
        walk_at "go"
        rename_i ps H25 h25
        rw [← List.map_take] at h25
        have h26 : Sep (lisD ps (yl.take mn.toNat) (((rankL (gOf A1 n1) M2 era2 bw t).take mn.toNat).map dW) :: lis q [V.str bg, V.str (Str.ofString "")] :: fdr (3002 + 60 * ((i + 1 : Nat) : Int)) b :: lis pl (ss.map V.str) :: tab PT qLam :: wd Cx w0 (gOf A1 n1) n1 (27 * i + 27) :: dic m1 (mV d1 n1 none) 3 :: mks d1 A1 (27 * i + 27) :: lis ms [.ref m1, .ref m2] :: obj p C_Pairs [("pair_marks", .ref d2), ("pair_era", .int era2)] :: dct d2 M2 (300 * i + 300) :: dic m2 (mV dm2 era2 none) 3 :: dct dm2 M2 (300 * i + 300) :: []) H25 := h25.only (by walk_at "spl")
        clear h25 h24 h23 h22
        walk_at "go"
        refine ⟨Cx, w0, p, d2, bw, t, mn, gOf A1 n1, n1, 27 * i + 27, M2, era2, 300 * (i : Nat) + 300, 300 * i + 300, lisD ps (yl.take mn.toNat) (((rankL (gOf A1 n1) M2 era2 bw t).take mn.toNat).map dW) :: lis q [V.str bg, V.str (Str.ofString "")] :: fdr (3002 + 60 * ((i + 1 : Nat) : Int)) b :: lis pl (ss.map V.str) :: dic m1 (mV d1 n1 none) 3 :: mks d1 A1 (27 * i + 27) :: lis ms [.ref m1, .ref m2] :: dic m2 (mV dm2 era2 none) 3 :: dct dm2 M2 (300 * i + 300) :: [], rfl, hCx, by walk_at "sep", pok2, by omega, hmn, by omega, by omega, fun lf yf H27 h27 => ?_⟩
        clear h26
        walk_at "go"
        have hrk := rank_ok (b := bw) (x := t) okg bdg pok2 (by omega) ⟨by omega, by omega⟩
        have hrn := rank_len (M := M2) (era := era2) (b := bw) (x := t) okg
        refine c_rowsW (l := (rankL (gOf A1 n1) M2 era2 bw t).take mn.toNat) h27 (by walk_at "pk") (by walk_at "pk") (rank_take hrk) (by rw [List.length_take]; omega) fun H28 h28 => ?_
        clear h27
        walk_at "go"
        rename_i pt H29 h29
        refine n_appD h29 (by walk_at "chg") (h29.dat .here) (by rw [List.length_map, List.length_take, sizeLine_eq]; omega) fun H30 h30 => ?_
        clear h29 h28
        walk_at "go"
        rename_i H31 h31
        exact ⟨_, ⟨_, _, _, rfl, rfl⟩, h31.only (Rs := lis q [V.str bg, V.str (Str.ofString "")] :: fdr (3002 + 60 * ((i + 1 : Nat) : Int)) b :: lis pl (ss.map V.str) :: tab PT qLam :: wd Cx w0 (gOf A1 n1) n1 (27 * i + 27) :: dic m1 (mV d1 n1 none) 3 :: mks d1 A1 (27 * i + 27) :: lis ms [.ref m1, .ref m2] :: obj p C_Pairs [("pair_marks", .ref d2), ("pair_era", .int era2)] :: dct d2 M2 (300 * i + 300) :: dic m2 (mV dm2 era2 none) 3 :: dct dm2 M2 (300 * i + 300) :: []) (by walk_at "spl")⟩
      · rintro σ Z H22 ⟨v10, v11, v12, rfl, rfl⟩ h22
        walk_at "go"
        refine n_mth2 (fun c => spWordsS c K) h22 (by walk_at "pk") hCx (by decide +kernel) (by decide +kernel) (by decide +kernel) ?_
        walk_at "go"
        rename_i lw xw H23 h23 lr xr H24 h24
        have hol := okg.len
        refine c_rowsP (l := rOf (gOf A1 n1)) h24 (.there .here) .here (fun r hr => by
          have hg := okg.mem.mp hr
          exact ⟨(okg.ok _ _ hg).1, (okg.ok _ _ hg).2, Int.lt_of_le_of_lt (bdg _ _ hg) (by omega)⟩) (by omega) fun H25 h25 => ?_
        clear h24 h23 h22
        walk_at "go"
        have h26 : Sep (fdr (3002 + 60 * ((i + 1 : Nat) : Int)) b :: lis pl (ss.map V.str) :: tab PT qLam :: wd Cx w0 (gOf A1 n1) n1 (27 * i + 27) :: dic m1 (mV d1 n1 none) 3 :: mks d1 A1 (27 * i + 27) :: lis ms [.ref m1, .ref m2] :: obj p C_Pairs [("pair_marks", .ref d2), ("pair_era", .int era2)] :: dct d2 M2 (300 * i + 300) :: dic m2 (mV dm2 era2 none) 3 :: dct dm2 M2 (300 * i + 300) :: []) H25 := h25.only (by walk_at "spl")
        refine ⟨_, ⟨A1, n1, d2, dm2, M2, era2, _, _, _, _, _, _, _, rfl, ⟨ok1, bd1.mono (by push_cast; omega), pok2.mono (Int.le_refl _) (by push_cast; omega)⟩, rfl⟩, ?_⟩
        rw [show 27 * (i + 1) = 27 * i + 27 by omega, show 300 * (i + 1) = 300 * i + 300 by omega]
        exact h26
    rintro σ Z H10 ⟨A, n, d, dm, M, era, v6, v7, v8, v9, v10, v11, v12, rfl, ⟨ok0, bd0, pok⟩, rfl⟩ h10
    have hr17 : (3 + r).toNat ≤ 16 := by omega
    have okg := h10.mok (A := A) (n := n) (a := d1) (N := 27 * (3 + r).toNat) (by walk_at "pk") ok0
    have bdg := bd_g33 ok0 bd0
    have l0 : (Str.ofString "").length ≤ 1000 := by decide +kernel
    generalize hrN : (3 + r).toNat = NN at h10 okg bdg bd0 pok hr17
    walk_at "go"
    refine ⟨Cx, w0, p, d, Str.ofString "", Str.ofString "", 1000, gOf A n, n, 27 * NN, M, era, 300 * (NN : Int), 300 * NN, fdr (3002 + 60 * (NN : Int)) b :: lis pl (ss.map V.str) :: dic m1 (mV d1 n none) 3 :: mks d1 A (27 * NN) :: lis ms [.ref m1, .ref m2] :: dic m2 (mV dm era none) 3 :: dct dm M (300 * NN) :: [], rfl, hCx, by walk_at "sep", pok, by omega, ⟨by omega, by omega⟩, l0, by omega, fun lf yf H27 h27 => ?_⟩
    clear h10
    have hrk := rank_ok (b := Str.ofString "") (x := Str.ofString "") okg bdg pok (by omega) ⟨by omega, by omega⟩
    have hrn := rank_len (M := M) (era := era) (b := Str.ofString "") (x := Str.ofString "") okg
    rw [List.take_of_length_le (show (rankL (gOf A n) M era (Str.ofString "") (Str.ofString "")).length ≤ (1000 : Int).toNat by show _ ≤ 1000; omega)] at h27
    walk_at "go"
    rename_i rq xq H28 h28
    refine ⟨rq, m2, dm, Str.ofString "", Str.ofString "", xq, gOf A n, 27 * NN, M, era, 300 * (NN : Int), 300 * NN, lisD lf yf ((rankL (gOf A n) M era (Str.ofString "") (Str.ofString "")).map dW) :: fdr (3002 + 60 * (NN : Int)) b :: lis pl (ss.map V.str) :: tab PT qLam :: wd Cx w0 (gOf A n) n (27 * NN) :: dic m1 (mV d1 n none) 3 :: mks d1 A (27 * NN) :: lis ms [.ref m1, .ref m2] :: obj p C_Pairs [("pair_marks", .ref d), ("pair_era", .int era)] :: dct d M (300 * NN) :: [], rfl, by walk_at "sep", okg, pok, by omega, l0, by omega, fun l yl H29 h29 => ?_⟩
    walk_at "go"
    refine c_rowsW (l := (rankL (gOf A n) M era (Str.ofString "") (Str.ofString ""))) h29 (by walk_at "pk") (by walk_at "pk") hrk (by omega) fun H30 h30 => ?_
    exact kk _
end
theorem all_mk {l : PySem.W.OpenLaw} {w : World} {K : PySem.W.Frag} {h : Heap} {mg : Str → Option Value} {fa : Addr} (X : K.In h) (G : h.Ns mainGlobals mg) (hfa : mg "law" = some (.ref fa))
    {C_Pairs : Addr} {C_Wood : Addr} {C_PartWood : Addr} {X_Absent : Addr} {X_NoWord : Addr} {X_Twice : Addr} {f_Wood___init__ : Addr} {od_Wood___init__ an_Wood___init__ : Option Addr} {sl_Wood___init__ : Array (Option Value)} {oc_Wood___init__ kV_Wood___init__ dc_Wood___init__ pm_Wood___init__ cd_Wood___init__ ct_Wood___init__ : Value} {f_Pairs___init__ : Addr} {od_Pairs___init__ an_Pairs___init__ : Option Addr} {sl_Pairs___init__ : Array (Option Value)} {oc_Pairs___init__ kV_Pairs___init__ dc_Pairs___init__ pm_Pairs___init__ cd_Pairs___init__ ct_Pairs___init__ : Value} {f_PartWood___init__ : Addr} {od_PartWood___init__ an_PartWood___init__ : Option Addr} {sl_PartWood___init__ : Array (Option Value)} {oc_PartWood___init__ kV_PartWood___init__ dc_PartWood___init__ pm_PartWood___init__ cd_PartWood___init__ ct_PartWood___init__ : Value} {f_Wood_longer_by_one : Addr} {od_Wood_longer_by_one an_Wood_longer_by_one : Option Addr} {sl_Wood_longer_by_one : Array (Option Value)} {oc_Wood_longer_by_one kV_Wood_longer_by_one dc_Wood_longer_by_one pm_Wood_longer_by_one cd_Wood_longer_by_one ct_Wood_longer_by_one : Value} {f_PartWood_longer_by_one : Addr} {od_PartWood_longer_by_one an_PartWood_longer_by_one : Option Addr} {sl_PartWood_longer_by_one : Array (Option Value)} {oc_PartWood_longer_by_one kV_PartWood_longer_by_one dc_PartWood_longer_by_one pm_PartWood_longer_by_one cd_PartWood_longer_by_one ct_PartWood_longer_by_one : Value} {f_Wood_renew_tops : Addr} {od_Wood_renew_tops an_Wood_renew_tops : Option Addr} {sl_Wood_renew_tops : Array (Option Value)} {oc_Wood_renew_tops kV_Wood_renew_tops dc_Wood_renew_tops pm_Wood_renew_tops cd_Wood_renew_tops ct_Wood_renew_tops : Value} {f_PartWood_renew_tops : Addr} {od_PartWood_renew_tops an_PartWood_renew_tops : Option Addr} {sl_PartWood_renew_tops : Array (Option Value)} {oc_PartWood_renew_tops kV_PartWood_renew_tops dc_PartWood_renew_tops pm_PartWood_renew_tops cd_PartWood_renew_tops ct_PartWood_renew_tops : Value} {f_Wood_put : Addr} {od_Wood_put an_Wood_put : Option Addr} {sl_Wood_put : Array (Option Value)} {oc_Wood_put kV_Wood_put dc_Wood_put pm_Wood_put cd_Wood_put ct_Wood_put : Value} {f_PartWood_put : Addr} {od_PartWood_put an_PartWood_put : Option Addr} {sl_PartWood_put : Array (Option Value)} {oc_PartWood_put kV_PartWood_put dc_PartWood_put pm_PartWood_put cd_PartWood_put ct_PartWood_put : Value} {f_Pairs_fade : Addr} {od_Pairs_fade an_Pairs_fade : Option Addr} {sl_Pairs_fade : Array (Option Value)} {oc_Pairs_fade kV_Pairs_fade dc_Pairs_fade pm_Pairs_fade cd_Pairs_fade ct_Pairs_fade : Value} {td_Pairs_fade : Addr} {tn_Pairs_fade : Nat} {tc_Pairs_fade : Value} {to_Pairs_fade : Option Addr} {ts_Pairs_fade : Array (Option Value)} {tt_Pairs_fade : Tok} {f_Wood_fade : Addr} {od_Wood_fade an_Wood_fade : Option Addr} {sl_Wood_fade : Array (Option Value)} {oc_Wood_fade kV_Wood_fade dc_Wood_fade pm_Wood_fade cd_Wood_fade ct_Wood_fade : Value} {td_Wood_fade : Addr} {tn_Wood_fade : Nat} {tc_Wood_fade : Value} {to_Wood_fade : Option Addr} {ts_Wood_fade : Array (Option Value)} {tt_Wood_fade : Tok} {f_PartWood_fade : Addr} {od_PartWood_fade an_PartWood_fade : Option Addr} {sl_PartWood_fade : Array (Option Value)} {oc_PartWood_fade kV_PartWood_fade dc_PartWood_fade pm_PartWood_fade cd_PartWood_fade ct_PartWood_fade : Value} {td_PartWood_fade : Addr} {tn_PartWood_fade : Nat} {tc_PartWood_fade : Value} {to_PartWood_fade : Option Addr} {ts_PartWood_fade : Array (Option Value)} {tt_PartWood_fade : Tok} {f_Wood_ask_there : Addr} {od_Wood_ask_there an_Wood_ask_there : Option Addr} {sl_Wood_ask_there : Array (Option Value)} {oc_Wood_ask_there kV_Wood_ask_there dc_Wood_ask_there pm_Wood_ask_there cd_Wood_ask_there ct_Wood_ask_there : Value} {f_PartWood_ask_there : Addr} {od_PartWood_ask_there an_PartWood_ask_there : Option Addr} {sl_PartWood_ask_there : Array (Option Value)} {oc_PartWood_ask_there kV_PartWood_ask_there dc_PartWood_ask_there pm_PartWood_ask_there cd_PartWood_ask_there ct_PartWood_ask_there : Value} {f_Wood_strike : Addr} {od_Wood_strike an_Wood_strike : Option Addr} {sl_Wood_strike : Array (Option Value)} {oc_Wood_strike kV_Wood_strike dc_Wood_strike pm_Wood_strike cd_Wood_strike ct_Wood_strike : Value} {f_PartWood_strike : Addr} {od_PartWood_strike an_PartWood_strike : Option Addr} {sl_PartWood_strike : Array (Option Value)} {oc_PartWood_strike kV_PartWood_strike dc_PartWood_strike pm_PartWood_strike cd_PartWood_strike ct_PartWood_strike : Value} {f_Wood_use : Addr} {od_Wood_use an_Wood_use : Option Addr} {sl_Wood_use : Array (Option Value)} {oc_Wood_use kV_Wood_use dc_Wood_use pm_Wood_use cd_Wood_use ct_Wood_use : Value} {td_Wood_use : Addr} {tn_Wood_use : Nat} {tc_Wood_use : Value} {to_Wood_use : Option Addr} {ts_Wood_use : Array (Option Value)} {tt_Wood_use : Tok} {f_PartWood_use : Addr} {od_PartWood_use an_PartWood_use : Option Addr} {sl_PartWood_use : Array (Option Value)} {oc_PartWood_use kV_PartWood_use dc_PartWood_use pm_PartWood_use cd_PartWood_use ct_PartWood_use : Value} {td_PartWood_use : Addr} {tn_PartWood_use : Nat} {tc_PartWood_use : Value} {to_PartWood_use : Option Addr} {ts_PartWood_use : Array (Option Value)} {tt_PartWood_use : Tok} {f_Wood_words : Addr} {od_Wood_words an_Wood_words : Option Addr} {sl_Wood_words : Array (Option Value)} {oc_Wood_words kV_Wood_words dc_Wood_words pm_Wood_words cd_Wood_words ct_Wood_words : Value} {f_PartWood_words : Addr} {od_PartWood_words an_PartWood_words : Option Addr} {sl_PartWood_words : Array (Option Value)} {oc_PartWood_words kV_PartWood_words dc_PartWood_words pm_PartWood_words cd_PartWood_words ct_PartWood_words : Value} {f_Pairs_worth_of : Addr} {od_Pairs_worth_of an_Pairs_worth_of : Option Addr} {sl_Pairs_worth_of : Array (Option Value)} {oc_Pairs_worth_of kV_Pairs_worth_of dc_Pairs_worth_of pm_Pairs_worth_of cd_Pairs_worth_of ct_Pairs_worth_of : Value} {f_Pairs_let_go : Addr} {od_Pairs_let_go an_Pairs_let_go : Option Addr} {sl_Pairs_let_go : Array (Option Value)} {oc_Pairs_let_go kV_Pairs_let_go dc_Pairs_let_go pm_Pairs_let_go cd_Pairs_let_go ct_Pairs_let_go : Value} {f_Pairs_choose : Addr} {od_Pairs_choose an_Pairs_choose : Option Addr} {sl_Pairs_choose : Array (Option Value)} {oc_Pairs_choose kV_Pairs_choose dc_Pairs_choose pm_Pairs_choose cd_Pairs_choose ct_Pairs_choose : Value} {f_law_feed : Addr} {od_law_feed an_law_feed : Option Addr} {sl_law_feed : Array (Option Value)} {oc_law_feed kV_law_feed dc_law_feed pm_law_feed cd_law_feed ct_law_feed : Value} {f_law_draw : Addr} {od_law_draw an_law_draw : Option Addr} {sl_law_draw : Array (Option Value)} {oc_law_draw kV_law_draw dc_law_draw pm_law_draw cd_law_draw ct_law_draw : Value} {f_law_is_fit : Addr} {od_law_is_fit an_law_is_fit : Option Addr} {sl_law_is_fit : Array (Option Value)} {oc_law_is_fit kV_law_is_fit dc_law_is_fit pm_law_is_fit cd_law_is_fit ct_law_is_fit : Value} {f_law_part : Addr} {od_law_part an_law_part : Option Addr} {sl_law_part : Array (Option Value)} {oc_law_part kV_law_part dc_law_part pm_law_part cd_law_part ct_law_part : Value} {f_law_word : Addr} {od_law_word an_law_word : Option Addr} {sl_law_word : Array (Option Value)} {oc_law_word kV_law_word dc_law_word pm_law_word cd_law_word ct_law_word : Value} {f_law_words : Addr} {od_law_words an_law_words : Option Addr} {sl_law_words : Array (Option Value)} {oc_law_words kV_law_words dc_law_words pm_law_words cd_law_words ct_law_words : Value} {f_law_is_told : Addr} {od_law_is_told an_law_is_told : Option Addr} {sl_law_is_told : Array (Option Value)} {oc_law_is_told kV_law_is_told dc_law_is_told pm_law_is_told cd_law_is_told ct_law_is_told : Value} {f_law_count : Addr} {od_law_count an_law_count : Option Addr} {sl_law_count : Array (Option Value)} {oc_law_count kV_law_count dc_law_count pm_law_count cd_law_count ct_law_count : Value} {f_worth_at : Addr} {od_worth_at an_worth_at : Option Addr} {sl_worth_at : Array (Option Value)} {oc_worth_at kV_worth_at dc_worth_at pm_worth_at cd_worth_at ct_worth_at : Value} {f_greatest_at : Addr} {od_greatest_at an_greatest_at : Option Addr} {sl_greatest_at : Array (Option Value)} {oc_greatest_at kV_greatest_at dc_greatest_at pm_greatest_at cd_greatest_at ct_greatest_at : Value} {f_is_part : Addr} {od_is_part an_is_part : Option Addr} {sl_is_part : Array (Option Value)} {oc_is_part kV_is_part dc_is_part pm_is_part cd_is_part ct_is_part : Value} {f_is_word : Addr} {od_is_word an_is_word : Option Addr} {sl_is_word : Array (Option Value)} {oc_is_word kV_is_word dc_is_word pm_is_word cd_is_word ct_is_word : Value} {f_used_mark : Addr} {od_used_mark an_used_mark : Option Addr} {sl_used_mark : Array (Option Value)} {oc_used_mark kV_used_mark dc_used_mark pm_used_mark cd_used_mark ct_used_mark : Value} {f_law_halved : Addr} {od_law_halved an_law_halved : Option Addr} {sl_law_halved : Array (Option Value)} {oc_law_halved kV_law_halved dc_law_halved pm_law_halved cd_law_halved ct_law_halved : Value} {f_law_wood_deed : Addr} {od_law_wood_deed an_law_wood_deed : Option Addr} {sl_law_wood_deed : Array (Option Value)} {oc_law_wood_deed kV_law_wood_deed dc_law_wood_deed pm_law_wood_deed cd_law_wood_deed ct_law_wood_deed : Value} {f_law_beginning : Addr} {od_law_beginning an_law_beginning : Option Addr} {sl_law_beginning : Array (Option Value)} {oc_law_beginning kV_law_beginning dc_law_beginning pm_law_beginning cd_law_beginning ct_law_beginning : Value} {oT : Value} {ddT : Option Addr} {vsT : Array Value} {slT : Array (Option Value)} {cT PT f_ranked : Addr} {od_ranked an_ranked : Option Addr} {sl_ranked : Array (Option Value)} {oc_ranked kV_ranked dc_ranked pm_ranked ct_ranked : Value} {f_law_pair_worth : Addr} {od_law_pair_worth an_law_pair_worth : Option Addr} {sl_law_pair_worth : Array (Option Value)} {oc_law_pair_worth kV_law_pair_worth dc_law_pair_worth pm_law_pair_worth cd_law_pair_worth ct_law_pair_worth : Value} {f_law_due : Addr} {od_law_due an_law_due : Option Addr} {sl_law_due : Array (Option Value)} {oc_law_due kV_law_due dc_law_due pm_law_due cd_law_due ct_law_due : Value} {f_law_deed : Addr} {od_law_deed an_law_deed : Option Addr} {sl_law_deed : Array (Option Value)} {oc_law_deed kV_law_deed dc_law_deed pm_law_deed cd_law_deed ct_law_deed : Value} {f_law_rated : Addr} {od_law_rated an_law_rated : Option Addr} {sl_law_rated : Array (Option Value)} {oc_law_rated kV_law_rated dc_law_rated pm_law_rated cd_law_rated ct_law_rated : Value} {f_law : Addr} {od_law an_law : Option Addr} {sl_law : Array (Option Value)} {oc_law kV_law dc_law pm_law cd_law ct_law : Value} {tk_LETTERS : Tok} {tk_SIGNS : Tok}
    (a_Pairs : PySem.W.nsIn K mainGlobals "Pairs" = some (some (.ref C_Pairs)))
    (pg_Pairs : PySem.W.plainGet K C_Pairs Str.empty = true)
    (hd_Pairs : PySem.W.hasDictIn K C_Pairs = true)
    (po_Pairs : PySem.W.plainOver K C_Pairs = true)
    (sa_Pairs : PySem.W.findIn K (.ref C_Pairs) "__setattr__" = some (some (.builtin "object.__setattr__")))
    (mk_Pairs : PySem.W.makesIn K C_Pairs = true)
    (kc_Pairs : PySem.W.keepIn K (.ref C_Pairs) = true)
    (na_Pairs_pair_marks : PySem.W.findIn K (.ref C_Pairs) "pair_marks" = some none)
    (na_Pairs_pair_era : PySem.W.findIn K (.ref C_Pairs) "pair_era" = some none)
    (a_Wood : PySem.W.nsIn K mainGlobals "Wood" = some (some (.ref C_Wood)))
    (pg_Wood : PySem.W.plainGet K C_Wood Str.empty = true)
    (hd_Wood : PySem.W.hasDictIn K C_Wood = true)
    (po_Wood : PySem.W.plainOver K C_Wood = true)
    (sa_Wood : PySem.W.findIn K (.ref C_Wood) "__setattr__" = some (some (.builtin "object.__setattr__")))
    (mk_Wood : PySem.W.makesIn K C_Wood = true)
    (kc_Wood : PySem.W.keepIn K (.ref C_Wood) = true)
    (na_Wood_marks : PySem.W.findIn K (.ref C_Wood) "marks" = some none)
    (na_Wood_tops : PySem.W.findIn K (.ref C_Wood) "tops" = some none)
    (na_Wood_now : PySem.W.findIn K (.ref C_Wood) "now" = some none)
    (a_PartWood : PySem.W.nsIn K mainGlobals "PartWood" = some (some (.ref C_PartWood)))
    (pg_PartWood : PySem.W.plainGet K C_PartWood Str.empty = true)
    (hd_PartWood : PySem.W.hasDictIn K C_PartWood = true)
    (po_PartWood : PySem.W.plainOver K C_PartWood = true)
    (sa_PartWood : PySem.W.findIn K (.ref C_PartWood) "__setattr__" = some (some (.builtin "object.__setattr__")))
    (mk_PartWood : PySem.W.makesIn K C_PartWood = true)
    (kc_PartWood : PySem.W.keepIn K (.ref C_PartWood) = true)
    (na_PartWood_marks : PySem.W.findIn K (.ref C_PartWood) "marks" = some none)
    (na_PartWood_tops : PySem.W.findIn K (.ref C_PartWood) "tops" = some none)
    (na_PartWood_now : PySem.W.findIn K (.ref C_PartWood) "now" = some none)
    (a_Absent : PySem.W.nsIn K mainGlobals "Absent" = some (some (.ref X_Absent)))
    (xc_Absent : PySem.W.excIn K X_Absent [.type "ValueError", .type "Exception", .type "BaseException", .type "object"] "ValueError.__new__" = true)
    (kc_Absent : PySem.W.keepIn K (.ref X_Absent) = true)
    (sb_Absent : PySem.W.subIn K (.ref X_Absent) (.type "BaseException") = some true)
    (ty_Absent : PySem.W.typeIn K (.ref X_Absent) = some (.type "type"))
    (a_NoWord : PySem.W.nsIn K mainGlobals "NoWord" = some (some (.ref X_NoWord)))
    (xc_NoWord : PySem.W.excIn K X_NoWord [.type "ValueError", .type "Exception", .type "BaseException", .type "object"] "ValueError.__new__" = true)
    (kc_NoWord : PySem.W.keepIn K (.ref X_NoWord) = true)
    (sb_NoWord : PySem.W.subIn K (.ref X_NoWord) (.type "BaseException") = some true)
    (ty_NoWord : PySem.W.typeIn K (.ref X_NoWord) = some (.type "type"))
    (a_Twice : PySem.W.nsIn K mainGlobals "Twice" = some (some (.ref X_Twice)))
    (xc_Twice : PySem.W.excIn K X_Twice [.type "ValueError", .type "Exception", .type "BaseException", .type "object"] "ValueError.__new__" = true)
    (kc_Twice : PySem.W.keepIn K (.ref X_Twice) = true)
    (sb_Twice : PySem.W.subIn K (.ref X_Twice) (.type "BaseException") = some true)
    (ty_Twice : PySem.W.typeIn K (.ref X_Twice) = some (.type "type"))
    (a_Wood___init__ : PySem.W.findIn K (.ref C_Wood) "__init__" = some (some (.ref f_Wood___init__)))
    (i_Wood___init__ : PySem.W.isFn K (.ref f_Wood___init__) = true)
    (l_Wood___init__ : K.lookup f_Wood___init__ = some ⟨oc_Wood___init__, od_Wood___init__, .func (PySem.W.fnOf "__init__" "Wood.__init__" (defArgs s_Wood___init__) (defBody s_Wood___init__) (defScope s_Wood___init__) .none kV_Wood___init__ dc_Wood___init__ pm_Wood___init__ an_Wood___init__ cd_Wood___init__ ct_Wood___init__), sl_Wood___init__⟩)
    (q_Wood___init__ : PySem.W.codeIn K cd_Wood___init__ "Wood.__init__" = true)
    (k_Wood___init__ : PySem.W.keepIn K (.ref f_Wood___init__) = true)
    (a_Pairs___init__ : PySem.W.findIn K (.ref C_Pairs) "__init__" = some (some (.ref f_Pairs___init__)))
    (i_Pairs___init__ : PySem.W.isFn K (.ref f_Pairs___init__) = true)
    (l_Pairs___init__ : K.lookup f_Pairs___init__ = some ⟨oc_Pairs___init__, od_Pairs___init__, .func (PySem.W.fnOf "__init__" "Pairs.__init__" (defArgs s_Pairs___init__) (defBody s_Pairs___init__) (defScope s_Pairs___init__) .none kV_Pairs___init__ dc_Pairs___init__ pm_Pairs___init__ an_Pairs___init__ cd_Pairs___init__ ct_Pairs___init__), sl_Pairs___init__⟩)
    (q_Pairs___init__ : PySem.W.codeIn K cd_Pairs___init__ "Pairs.__init__" = true)
    (k_Pairs___init__ : PySem.W.keepIn K (.ref f_Pairs___init__) = true)
    (a_PartWood___init__ : PySem.W.findIn K (.ref C_PartWood) "__init__" = some (some (.ref f_PartWood___init__)))
    (i_PartWood___init__ : PySem.W.isFn K (.ref f_PartWood___init__) = true)
    (l_PartWood___init__ : K.lookup f_PartWood___init__ = some ⟨oc_PartWood___init__, od_PartWood___init__, .func (PySem.W.fnOf "__init__" "Wood.__init__" (defArgs s_PartWood___init__) (defBody s_PartWood___init__) (defScope s_PartWood___init__) .none kV_PartWood___init__ dc_PartWood___init__ pm_PartWood___init__ an_PartWood___init__ cd_PartWood___init__ ct_PartWood___init__), sl_PartWood___init__⟩)
    (q_PartWood___init__ : PySem.W.codeIn K cd_PartWood___init__ "Wood.__init__" = true)
    (k_PartWood___init__ : PySem.W.keepIn K (.ref f_PartWood___init__) = true)
    (a_Wood_longer_by_one : PySem.W.findIn K (.ref C_Wood) "longer_by_one" = some (some (.ref f_Wood_longer_by_one)))
    (i_Wood_longer_by_one : PySem.W.isFn K (.ref f_Wood_longer_by_one) = true)
    (l_Wood_longer_by_one : K.lookup f_Wood_longer_by_one = some ⟨oc_Wood_longer_by_one, od_Wood_longer_by_one, .func (PySem.W.fnOf "longer_by_one" "Wood.longer_by_one" (defArgs s_Wood_longer_by_one) (defBody s_Wood_longer_by_one) (defScope s_Wood_longer_by_one) .none kV_Wood_longer_by_one dc_Wood_longer_by_one pm_Wood_longer_by_one an_Wood_longer_by_one cd_Wood_longer_by_one ct_Wood_longer_by_one), sl_Wood_longer_by_one⟩)
    (q_Wood_longer_by_one : PySem.W.codeIn K cd_Wood_longer_by_one "Wood.longer_by_one" = true)
    (k_Wood_longer_by_one : PySem.W.keepIn K (.ref f_Wood_longer_by_one) = true)
    (a_PartWood_longer_by_one : PySem.W.findIn K (.ref C_PartWood) "longer_by_one" = some (some (.ref f_PartWood_longer_by_one)))
    (i_PartWood_longer_by_one : PySem.W.isFn K (.ref f_PartWood_longer_by_one) = true)
    (l_PartWood_longer_by_one : K.lookup f_PartWood_longer_by_one = some ⟨oc_PartWood_longer_by_one, od_PartWood_longer_by_one, .func (PySem.W.fnOf "longer_by_one" "Wood.longer_by_one" (defArgs s_PartWood_longer_by_one) (defBody s_PartWood_longer_by_one) (defScope s_PartWood_longer_by_one) .none kV_PartWood_longer_by_one dc_PartWood_longer_by_one pm_PartWood_longer_by_one an_PartWood_longer_by_one cd_PartWood_longer_by_one ct_PartWood_longer_by_one), sl_PartWood_longer_by_one⟩)
    (q_PartWood_longer_by_one : PySem.W.codeIn K cd_PartWood_longer_by_one "Wood.longer_by_one" = true)
    (k_PartWood_longer_by_one : PySem.W.keepIn K (.ref f_PartWood_longer_by_one) = true)
    (a_Wood_renew_tops : PySem.W.findIn K (.ref C_Wood) "renew_tops" = some (some (.ref f_Wood_renew_tops)))
    (i_Wood_renew_tops : PySem.W.isFn K (.ref f_Wood_renew_tops) = true)
    (l_Wood_renew_tops : K.lookup f_Wood_renew_tops = some ⟨oc_Wood_renew_tops, od_Wood_renew_tops, .func (PySem.W.fnOf "renew_tops" "Wood.renew_tops" (defArgs s_Wood_renew_tops) (defBody s_Wood_renew_tops) (defScope s_Wood_renew_tops) .none kV_Wood_renew_tops dc_Wood_renew_tops pm_Wood_renew_tops an_Wood_renew_tops cd_Wood_renew_tops ct_Wood_renew_tops), sl_Wood_renew_tops⟩)
    (q_Wood_renew_tops : PySem.W.codeIn K cd_Wood_renew_tops "Wood.renew_tops" = true)
    (k_Wood_renew_tops : PySem.W.keepIn K (.ref f_Wood_renew_tops) = true)
    (a_PartWood_renew_tops : PySem.W.findIn K (.ref C_PartWood) "renew_tops" = some (some (.ref f_PartWood_renew_tops)))
    (i_PartWood_renew_tops : PySem.W.isFn K (.ref f_PartWood_renew_tops) = true)
    (l_PartWood_renew_tops : K.lookup f_PartWood_renew_tops = some ⟨oc_PartWood_renew_tops, od_PartWood_renew_tops, .func (PySem.W.fnOf "renew_tops" "Wood.renew_tops" (defArgs s_PartWood_renew_tops) (defBody s_PartWood_renew_tops) (defScope s_PartWood_renew_tops) .none kV_PartWood_renew_tops dc_PartWood_renew_tops pm_PartWood_renew_tops an_PartWood_renew_tops cd_PartWood_renew_tops ct_PartWood_renew_tops), sl_PartWood_renew_tops⟩)
    (q_PartWood_renew_tops : PySem.W.codeIn K cd_PartWood_renew_tops "Wood.renew_tops" = true)
    (k_PartWood_renew_tops : PySem.W.keepIn K (.ref f_PartWood_renew_tops) = true)
    (a_Wood_put : PySem.W.findIn K (.ref C_Wood) "put" = some (some (.ref f_Wood_put)))
    (i_Wood_put : PySem.W.isFn K (.ref f_Wood_put) = true)
    (l_Wood_put : K.lookup f_Wood_put = some ⟨oc_Wood_put, od_Wood_put, .func (PySem.W.fnOf "put" "Wood.put" (defArgs s_Wood_put) (defBody s_Wood_put) (defScope s_Wood_put) .none kV_Wood_put dc_Wood_put pm_Wood_put an_Wood_put cd_Wood_put ct_Wood_put), sl_Wood_put⟩)
    (q_Wood_put : PySem.W.codeIn K cd_Wood_put "Wood.put" = true)
    (k_Wood_put : PySem.W.keepIn K (.ref f_Wood_put) = true)
    (a_PartWood_put : PySem.W.findIn K (.ref C_PartWood) "put" = some (some (.ref f_PartWood_put)))
    (i_PartWood_put : PySem.W.isFn K (.ref f_PartWood_put) = true)
    (l_PartWood_put : K.lookup f_PartWood_put = some ⟨oc_PartWood_put, od_PartWood_put, .func (PySem.W.fnOf "put" "Wood.put" (defArgs s_PartWood_put) (defBody s_PartWood_put) (defScope s_PartWood_put) .none kV_PartWood_put dc_PartWood_put pm_PartWood_put an_PartWood_put cd_PartWood_put ct_PartWood_put), sl_PartWood_put⟩)
    (q_PartWood_put : PySem.W.codeIn K cd_PartWood_put "Wood.put" = true)
    (k_PartWood_put : PySem.W.keepIn K (.ref f_PartWood_put) = true)
    (a_Pairs_fade : PySem.W.findIn K (.ref C_Pairs) "fade" = some (some (.ref f_Pairs_fade)))
    (i_Pairs_fade : PySem.W.isFn K (.ref f_Pairs_fade) = true)
    (l_Pairs_fade : K.lookup f_Pairs_fade = some ⟨oc_Pairs_fade, od_Pairs_fade, .func (PySem.W.fnOf "fade" "Pairs.fade" (defArgs s_Pairs_fade) (defBody s_Pairs_fade) (defScope s_Pairs_fade) (.ref td_Pairs_fade) kV_Pairs_fade dc_Pairs_fade pm_Pairs_fade an_Pairs_fade cd_Pairs_fade ct_Pairs_fade), sl_Pairs_fade⟩)
    (q_Pairs_fade : PySem.W.codeIn K cd_Pairs_fade "Pairs.fade" = true)
    (k_Pairs_fade : PySem.W.keepIn K (.ref f_Pairs_fade) = true)
    (t_Pairs_fade : K.lookup td_Pairs_fade = some ⟨tc_Pairs_fade, to_Pairs_fade, .seq #[.int 1 tt_Pairs_fade] tn_Pairs_fade, ts_Pairs_fade⟩)
    (a_Wood_fade : PySem.W.findIn K (.ref C_Wood) "fade" = some (some (.ref f_Wood_fade)))
    (i_Wood_fade : PySem.W.isFn K (.ref f_Wood_fade) = true)
    (l_Wood_fade : K.lookup f_Wood_fade = some ⟨oc_Wood_fade, od_Wood_fade, .func (PySem.W.fnOf "fade" "Wood.fade" (defArgs s_Wood_fade) (defBody s_Wood_fade) (defScope s_Wood_fade) (.ref td_Wood_fade) kV_Wood_fade dc_Wood_fade pm_Wood_fade an_Wood_fade cd_Wood_fade ct_Wood_fade), sl_Wood_fade⟩)
    (q_Wood_fade : PySem.W.codeIn K cd_Wood_fade "Wood.fade" = true)
    (k_Wood_fade : PySem.W.keepIn K (.ref f_Wood_fade) = true)
    (t_Wood_fade : K.lookup td_Wood_fade = some ⟨tc_Wood_fade, to_Wood_fade, .seq #[.int 1 tt_Wood_fade] tn_Wood_fade, ts_Wood_fade⟩)
    (a_PartWood_fade : PySem.W.findIn K (.ref C_PartWood) "fade" = some (some (.ref f_PartWood_fade)))
    (i_PartWood_fade : PySem.W.isFn K (.ref f_PartWood_fade) = true)
    (l_PartWood_fade : K.lookup f_PartWood_fade = some ⟨oc_PartWood_fade, od_PartWood_fade, .func (PySem.W.fnOf "fade" "Wood.fade" (defArgs s_PartWood_fade) (defBody s_PartWood_fade) (defScope s_PartWood_fade) (.ref td_PartWood_fade) kV_PartWood_fade dc_PartWood_fade pm_PartWood_fade an_PartWood_fade cd_PartWood_fade ct_PartWood_fade), sl_PartWood_fade⟩)
    (q_PartWood_fade : PySem.W.codeIn K cd_PartWood_fade "Wood.fade" = true)
    (k_PartWood_fade : PySem.W.keepIn K (.ref f_PartWood_fade) = true)
    (t_PartWood_fade : K.lookup td_PartWood_fade = some ⟨tc_PartWood_fade, to_PartWood_fade, .seq #[.int 1 tt_PartWood_fade] tn_PartWood_fade, ts_PartWood_fade⟩)
    (a_Wood_ask_there : PySem.W.findIn K (.ref C_Wood) "ask_there" = some (some (.ref f_Wood_ask_there)))
    (i_Wood_ask_there : PySem.W.isFn K (.ref f_Wood_ask_there) = true)
    (l_Wood_ask_there : K.lookup f_Wood_ask_there = some ⟨oc_Wood_ask_there, od_Wood_ask_there, .func (PySem.W.fnOf "ask_there" "Wood.ask_there" (defArgs s_Wood_ask_there) (defBody s_Wood_ask_there) (defScope s_Wood_ask_there) .none kV_Wood_ask_there dc_Wood_ask_there pm_Wood_ask_there an_Wood_ask_there cd_Wood_ask_there ct_Wood_ask_there), sl_Wood_ask_there⟩)
    (q_Wood_ask_there : PySem.W.codeIn K cd_Wood_ask_there "Wood.ask_there" = true)
    (k_Wood_ask_there : PySem.W.keepIn K (.ref f_Wood_ask_there) = true)
    (a_PartWood_ask_there : PySem.W.findIn K (.ref C_PartWood) "ask_there" = some (some (.ref f_PartWood_ask_there)))
    (i_PartWood_ask_there : PySem.W.isFn K (.ref f_PartWood_ask_there) = true)
    (l_PartWood_ask_there : K.lookup f_PartWood_ask_there = some ⟨oc_PartWood_ask_there, od_PartWood_ask_there, .func (PySem.W.fnOf "ask_there" "Wood.ask_there" (defArgs s_PartWood_ask_there) (defBody s_PartWood_ask_there) (defScope s_PartWood_ask_there) .none kV_PartWood_ask_there dc_PartWood_ask_there pm_PartWood_ask_there an_PartWood_ask_there cd_PartWood_ask_there ct_PartWood_ask_there), sl_PartWood_ask_there⟩)
    (q_PartWood_ask_there : PySem.W.codeIn K cd_PartWood_ask_there "Wood.ask_there" = true)
    (k_PartWood_ask_there : PySem.W.keepIn K (.ref f_PartWood_ask_there) = true)
    (a_Wood_strike : PySem.W.findIn K (.ref C_Wood) "strike" = some (some (.ref f_Wood_strike)))
    (i_Wood_strike : PySem.W.isFn K (.ref f_Wood_strike) = true)
    (l_Wood_strike : K.lookup f_Wood_strike = some ⟨oc_Wood_strike, od_Wood_strike, .func (PySem.W.fnOf "strike" "Wood.strike" (defArgs s_Wood_strike) (defBody s_Wood_strike) (defScope s_Wood_strike) .none kV_Wood_strike dc_Wood_strike pm_Wood_strike an_Wood_strike cd_Wood_strike ct_Wood_strike), sl_Wood_strike⟩)
    (q_Wood_strike : PySem.W.codeIn K cd_Wood_strike "Wood.strike" = true)
    (k_Wood_strike : PySem.W.keepIn K (.ref f_Wood_strike) = true)
    (a_PartWood_strike : PySem.W.findIn K (.ref C_PartWood) "strike" = some (some (.ref f_PartWood_strike)))
    (i_PartWood_strike : PySem.W.isFn K (.ref f_PartWood_strike) = true)
    (l_PartWood_strike : K.lookup f_PartWood_strike = some ⟨oc_PartWood_strike, od_PartWood_strike, .func (PySem.W.fnOf "strike" "Wood.strike" (defArgs s_PartWood_strike) (defBody s_PartWood_strike) (defScope s_PartWood_strike) .none kV_PartWood_strike dc_PartWood_strike pm_PartWood_strike an_PartWood_strike cd_PartWood_strike ct_PartWood_strike), sl_PartWood_strike⟩)
    (q_PartWood_strike : PySem.W.codeIn K cd_PartWood_strike "Wood.strike" = true)
    (k_PartWood_strike : PySem.W.keepIn K (.ref f_PartWood_strike) = true)
    (a_Wood_use : PySem.W.findIn K (.ref C_Wood) "use" = some (some (.ref f_Wood_use)))
    (i_Wood_use : PySem.W.isFn K (.ref f_Wood_use) = true)
    (l_Wood_use : K.lookup f_Wood_use = some ⟨oc_Wood_use, od_Wood_use, .func (PySem.W.fnOf "use" "Wood.use" (defArgs s_Wood_use) (defBody s_Wood_use) (defScope s_Wood_use) (.ref td_Wood_use) kV_Wood_use dc_Wood_use pm_Wood_use an_Wood_use cd_Wood_use ct_Wood_use), sl_Wood_use⟩)
    (q_Wood_use : PySem.W.codeIn K cd_Wood_use "Wood.use" = true)
    (k_Wood_use : PySem.W.keepIn K (.ref f_Wood_use) = true)
    (t_Wood_use : K.lookup td_Wood_use = some ⟨tc_Wood_use, to_Wood_use, .seq #[.int 1 tt_Wood_use] tn_Wood_use, ts_Wood_use⟩)
    (a_PartWood_use : PySem.W.findIn K (.ref C_PartWood) "use" = some (some (.ref f_PartWood_use)))
    (i_PartWood_use : PySem.W.isFn K (.ref f_PartWood_use) = true)
    (l_PartWood_use : K.lookup f_PartWood_use = some ⟨oc_PartWood_use, od_PartWood_use, .func (PySem.W.fnOf "use" "Wood.use" (defArgs s_PartWood_use) (defBody s_PartWood_use) (defScope s_PartWood_use) (.ref td_PartWood_use) kV_PartWood_use dc_PartWood_use pm_PartWood_use an_PartWood_use cd_PartWood_use ct_PartWood_use), sl_PartWood_use⟩)
    (q_PartWood_use : PySem.W.codeIn K cd_PartWood_use "Wood.use" = true)
    (k_PartWood_use : PySem.W.keepIn K (.ref f_PartWood_use) = true)
    (t_PartWood_use : K.lookup td_PartWood_use = some ⟨tc_PartWood_use, to_PartWood_use, .seq #[.int 1 tt_PartWood_use] tn_PartWood_use, ts_PartWood_use⟩)
    (a_Wood_words : PySem.W.findIn K (.ref C_Wood) "words" = some (some (.ref f_Wood_words)))
    (i_Wood_words : PySem.W.isFn K (.ref f_Wood_words) = true)
    (l_Wood_words : K.lookup f_Wood_words = some ⟨oc_Wood_words, od_Wood_words, .func (PySem.W.fnOf "words" "Wood.words" (defArgs s_Wood_words) (defBody s_Wood_words) (defScope s_Wood_words) .none kV_Wood_words dc_Wood_words pm_Wood_words an_Wood_words cd_Wood_words ct_Wood_words), sl_Wood_words⟩)
    (q_Wood_words : PySem.W.codeIn K cd_Wood_words "Wood.words" = true)
    (k_Wood_words : PySem.W.keepIn K (.ref f_Wood_words) = true)
    (a_PartWood_words : PySem.W.findIn K (.ref C_PartWood) "words" = some (some (.ref f_PartWood_words)))
    (i_PartWood_words : PySem.W.isFn K (.ref f_PartWood_words) = true)
    (l_PartWood_words : K.lookup f_PartWood_words = some ⟨oc_PartWood_words, od_PartWood_words, .func (PySem.W.fnOf "words" "Wood.words" (defArgs s_PartWood_words) (defBody s_PartWood_words) (defScope s_PartWood_words) .none kV_PartWood_words dc_PartWood_words pm_PartWood_words an_PartWood_words cd_PartWood_words ct_PartWood_words), sl_PartWood_words⟩)
    (q_PartWood_words : PySem.W.codeIn K cd_PartWood_words "Wood.words" = true)
    (k_PartWood_words : PySem.W.keepIn K (.ref f_PartWood_words) = true)
    (a_Pairs_worth_of : PySem.W.findIn K (.ref C_Pairs) "worth_of" = some (some (.ref f_Pairs_worth_of)))
    (i_Pairs_worth_of : PySem.W.isFn K (.ref f_Pairs_worth_of) = true)
    (l_Pairs_worth_of : K.lookup f_Pairs_worth_of = some ⟨oc_Pairs_worth_of, od_Pairs_worth_of, .func (PySem.W.fnOf "worth_of" "Pairs.worth_of" (defArgs s_Pairs_worth_of) (defBody s_Pairs_worth_of) (defScope s_Pairs_worth_of) .none kV_Pairs_worth_of dc_Pairs_worth_of pm_Pairs_worth_of an_Pairs_worth_of cd_Pairs_worth_of ct_Pairs_worth_of), sl_Pairs_worth_of⟩)
    (q_Pairs_worth_of : PySem.W.codeIn K cd_Pairs_worth_of "Pairs.worth_of" = true)
    (k_Pairs_worth_of : PySem.W.keepIn K (.ref f_Pairs_worth_of) = true)
    (a_Pairs_let_go : PySem.W.findIn K (.ref C_Pairs) "let_go" = some (some (.ref f_Pairs_let_go)))
    (i_Pairs_let_go : PySem.W.isFn K (.ref f_Pairs_let_go) = true)
    (l_Pairs_let_go : K.lookup f_Pairs_let_go = some ⟨oc_Pairs_let_go, od_Pairs_let_go, .func (PySem.W.fnOf "let_go" "Pairs.let_go" (defArgs s_Pairs_let_go) (defBody s_Pairs_let_go) (defScope s_Pairs_let_go) .none kV_Pairs_let_go dc_Pairs_let_go pm_Pairs_let_go an_Pairs_let_go cd_Pairs_let_go ct_Pairs_let_go), sl_Pairs_let_go⟩)
    (q_Pairs_let_go : PySem.W.codeIn K cd_Pairs_let_go "Pairs.let_go" = true)
    (k_Pairs_let_go : PySem.W.keepIn K (.ref f_Pairs_let_go) = true)
    (a_Pairs_choose : PySem.W.findIn K (.ref C_Pairs) "choose" = some (some (.ref f_Pairs_choose)))
    (i_Pairs_choose : PySem.W.isFn K (.ref f_Pairs_choose) = true)
    (l_Pairs_choose : K.lookup f_Pairs_choose = some ⟨oc_Pairs_choose, od_Pairs_choose, .func (PySem.W.fnOf "choose" "Pairs.choose" (defArgs s_Pairs_choose) (defBody s_Pairs_choose) (defScope s_Pairs_choose) .none kV_Pairs_choose dc_Pairs_choose pm_Pairs_choose an_Pairs_choose cd_Pairs_choose ct_Pairs_choose), sl_Pairs_choose⟩)
    (q_Pairs_choose : PySem.W.codeIn K cd_Pairs_choose "Pairs.choose" = true)
    (k_Pairs_choose : PySem.W.keepIn K (.ref f_Pairs_choose) = true)
    (a_law_feed : PySem.W.nsIn K mainGlobals "_law_feed" = some (some (.ref f_law_feed)))
    (l_law_feed : K.lookup f_law_feed = some ⟨oc_law_feed, od_law_feed, .func (PySem.W.fnOf "_law_feed" "_law_feed" (defArgs s_law_feed) (defBody s_law_feed) (defScope s_law_feed) .none kV_law_feed dc_law_feed pm_law_feed an_law_feed cd_law_feed ct_law_feed), sl_law_feed⟩)
    (q_law_feed : PySem.W.codeIn K cd_law_feed "_law_feed" = true)
    (k_law_feed : PySem.W.keepIn K (.ref f_law_feed) = true)
    (a_law_draw : PySem.W.nsIn K mainGlobals "_law_draw" = some (some (.ref f_law_draw)))
    (l_law_draw : K.lookup f_law_draw = some ⟨oc_law_draw, od_law_draw, .func (PySem.W.fnOf "_law_draw" "_law_draw" (defArgs s_law_draw) (defBody s_law_draw) (defScope s_law_draw) .none kV_law_draw dc_law_draw pm_law_draw an_law_draw cd_law_draw ct_law_draw), sl_law_draw⟩)
    (q_law_draw : PySem.W.codeIn K cd_law_draw "_law_draw" = true)
    (k_law_draw : PySem.W.keepIn K (.ref f_law_draw) = true)
    (a_law_is_fit : PySem.W.nsIn K mainGlobals "_law_is_fit" = some (some (.ref f_law_is_fit)))
    (l_law_is_fit : K.lookup f_law_is_fit = some ⟨oc_law_is_fit, od_law_is_fit, .func (PySem.W.fnOf "_law_is_fit" "_law_is_fit" (defArgs s_law_is_fit) (defBody s_law_is_fit) (defScope s_law_is_fit) .none kV_law_is_fit dc_law_is_fit pm_law_is_fit an_law_is_fit cd_law_is_fit ct_law_is_fit), sl_law_is_fit⟩)
    (q_law_is_fit : PySem.W.codeIn K cd_law_is_fit "_law_is_fit" = true)
    (k_law_is_fit : PySem.W.keepIn K (.ref f_law_is_fit) = true)
    (a_law_part : PySem.W.nsIn K mainGlobals "_law_part" = some (some (.ref f_law_part)))
    (l_law_part : K.lookup f_law_part = some ⟨oc_law_part, od_law_part, .func (PySem.W.fnOf "_law_part" "_law_part" (defArgs s_law_part) (defBody s_law_part) (defScope s_law_part) .none kV_law_part dc_law_part pm_law_part an_law_part cd_law_part ct_law_part), sl_law_part⟩)
    (q_law_part : PySem.W.codeIn K cd_law_part "_law_part" = true)
    (k_law_part : PySem.W.keepIn K (.ref f_law_part) = true)
    (a_law_word : PySem.W.nsIn K mainGlobals "_law_word" = some (some (.ref f_law_word)))
    (l_law_word : K.lookup f_law_word = some ⟨oc_law_word, od_law_word, .func (PySem.W.fnOf "_law_word" "_law_word" (defArgs s_law_word) (defBody s_law_word) (defScope s_law_word) .none kV_law_word dc_law_word pm_law_word an_law_word cd_law_word ct_law_word), sl_law_word⟩)
    (q_law_word : PySem.W.codeIn K cd_law_word "_law_word" = true)
    (k_law_word : PySem.W.keepIn K (.ref f_law_word) = true)
    (a_law_words : PySem.W.nsIn K mainGlobals "_law_words" = some (some (.ref f_law_words)))
    (l_law_words : K.lookup f_law_words = some ⟨oc_law_words, od_law_words, .func (PySem.W.fnOf "_law_words" "_law_words" (defArgs s_law_words) (defBody s_law_words) (defScope s_law_words) .none kV_law_words dc_law_words pm_law_words an_law_words cd_law_words ct_law_words), sl_law_words⟩)
    (q_law_words : PySem.W.codeIn K cd_law_words "_law_words" = true)
    (k_law_words : PySem.W.keepIn K (.ref f_law_words) = true)
    (a_law_is_told : PySem.W.nsIn K mainGlobals "_law_is_told" = some (some (.ref f_law_is_told)))
    (l_law_is_told : K.lookup f_law_is_told = some ⟨oc_law_is_told, od_law_is_told, .func (PySem.W.fnOf "_law_is_told" "_law_is_told" (defArgs s_law_is_told) (defBody s_law_is_told) (defScope s_law_is_told) .none kV_law_is_told dc_law_is_told pm_law_is_told an_law_is_told cd_law_is_told ct_law_is_told), sl_law_is_told⟩)
    (q_law_is_told : PySem.W.codeIn K cd_law_is_told "_law_is_told" = true)
    (k_law_is_told : PySem.W.keepIn K (.ref f_law_is_told) = true)
    (a_law_count : PySem.W.nsIn K mainGlobals "_law_count" = some (some (.ref f_law_count)))
    (l_law_count : K.lookup f_law_count = some ⟨oc_law_count, od_law_count, .func (PySem.W.fnOf "_law_count" "_law_count" (defArgs s_law_count) (defBody s_law_count) (defScope s_law_count) .none kV_law_count dc_law_count pm_law_count an_law_count cd_law_count ct_law_count), sl_law_count⟩)
    (q_law_count : PySem.W.codeIn K cd_law_count "_law_count" = true)
    (k_law_count : PySem.W.keepIn K (.ref f_law_count) = true)
    (a_worth_at : PySem.W.nsIn K mainGlobals "worth_at" = some (some (.ref f_worth_at)))
    (l_worth_at : K.lookup f_worth_at = some ⟨oc_worth_at, od_worth_at, .func (PySem.W.fnOf "worth_at" "worth_at" (defArgs s_worth_at) (defBody s_worth_at) (defScope s_worth_at) .none kV_worth_at dc_worth_at pm_worth_at an_worth_at cd_worth_at ct_worth_at), sl_worth_at⟩)
    (q_worth_at : PySem.W.codeIn K cd_worth_at "worth_at" = true)
    (k_worth_at : PySem.W.keepIn K (.ref f_worth_at) = true)
    (a_greatest_at : PySem.W.nsIn K mainGlobals "greatest_at" = some (some (.ref f_greatest_at)))
    (l_greatest_at : K.lookup f_greatest_at = some ⟨oc_greatest_at, od_greatest_at, .func (PySem.W.fnOf "greatest_at" "greatest_at" (defArgs s_greatest_at) (defBody s_greatest_at) (defScope s_greatest_at) .none kV_greatest_at dc_greatest_at pm_greatest_at an_greatest_at cd_greatest_at ct_greatest_at), sl_greatest_at⟩)
    (q_greatest_at : PySem.W.codeIn K cd_greatest_at "greatest_at" = true)
    (k_greatest_at : PySem.W.keepIn K (.ref f_greatest_at) = true)
    (a_is_part : PySem.W.nsIn K mainGlobals "is_part" = some (some (.ref f_is_part)))
    (l_is_part : K.lookup f_is_part = some ⟨oc_is_part, od_is_part, .func (PySem.W.fnOf "is_part" "is_part" (defArgs s_is_part) (defBody s_is_part) (defScope s_is_part) .none kV_is_part dc_is_part pm_is_part an_is_part cd_is_part ct_is_part), sl_is_part⟩)
    (q_is_part : PySem.W.codeIn K cd_is_part "is_part" = true)
    (k_is_part : PySem.W.keepIn K (.ref f_is_part) = true)
    (a_is_word : PySem.W.nsIn K mainGlobals "is_word" = some (some (.ref f_is_word)))
    (l_is_word : K.lookup f_is_word = some ⟨oc_is_word, od_is_word, .func (PySem.W.fnOf "is_word" "is_word" (defArgs s_is_word) (defBody s_is_word) (defScope s_is_word) .none kV_is_word dc_is_word pm_is_word an_is_word cd_is_word ct_is_word), sl_is_word⟩)
    (q_is_word : PySem.W.codeIn K cd_is_word "is_word" = true)
    (k_is_word : PySem.W.keepIn K (.ref f_is_word) = true)
    (a_used_mark : PySem.W.nsIn K mainGlobals "used_mark" = some (some (.ref f_used_mark)))
    (l_used_mark : K.lookup f_used_mark = some ⟨oc_used_mark, od_used_mark, .func (PySem.W.fnOf "used_mark" "used_mark" (defArgs s_used_mark) (defBody s_used_mark) (defScope s_used_mark) .none kV_used_mark dc_used_mark pm_used_mark an_used_mark cd_used_mark ct_used_mark), sl_used_mark⟩)
    (q_used_mark : PySem.W.codeIn K cd_used_mark "used_mark" = true)
    (k_used_mark : PySem.W.keepIn K (.ref f_used_mark) = true)
    (a_law_halved : PySem.W.nsIn K mainGlobals "_law_halved" = some (some (.ref f_law_halved)))
    (l_law_halved : K.lookup f_law_halved = some ⟨oc_law_halved, od_law_halved, .func (PySem.W.fnOf "_law_halved" "_law_halved" (defArgs s_law_halved) (defBody s_law_halved) (defScope s_law_halved) .none kV_law_halved dc_law_halved pm_law_halved an_law_halved cd_law_halved ct_law_halved), sl_law_halved⟩)
    (q_law_halved : PySem.W.codeIn K cd_law_halved "_law_halved" = true)
    (k_law_halved : PySem.W.keepIn K (.ref f_law_halved) = true)
    (a_law_wood_deed : PySem.W.nsIn K mainGlobals "_law_wood_deed" = some (some (.ref f_law_wood_deed)))
    (l_law_wood_deed : K.lookup f_law_wood_deed = some ⟨oc_law_wood_deed, od_law_wood_deed, .func (PySem.W.fnOf "_law_wood_deed" "_law_wood_deed" (defArgs s_law_wood_deed) (defBody s_law_wood_deed) (defScope s_law_wood_deed) .none kV_law_wood_deed dc_law_wood_deed pm_law_wood_deed an_law_wood_deed cd_law_wood_deed ct_law_wood_deed), sl_law_wood_deed⟩)
    (q_law_wood_deed : PySem.W.codeIn K cd_law_wood_deed "_law_wood_deed" = true)
    (k_law_wood_deed : PySem.W.keepIn K (.ref f_law_wood_deed) = true)
    (a_law_beginning : PySem.W.nsIn K mainGlobals "_law_beginning" = some (some (.ref f_law_beginning)))
    (l_law_beginning : K.lookup f_law_beginning = some ⟨oc_law_beginning, od_law_beginning, .func (PySem.W.fnOf "_law_beginning" "_law_beginning" (defArgs s_law_beginning) (defBody s_law_beginning) (defScope s_law_beginning) .none kV_law_beginning dc_law_beginning pm_law_beginning an_law_beginning cd_law_beginning ct_law_beginning), sl_law_beginning⟩)
    (q_law_beginning : PySem.W.codeIn K cd_law_beginning "_law_beginning" = true)
    (k_law_beginning : PySem.W.keepIn K (.ref f_law_beginning) = true)
    (a_ranked : PySem.W.nsIn K mainGlobals "ranked" = some (some (.ref f_ranked)))
    (l_ranked : K.lookup f_ranked = some ⟨oc_ranked, od_ranked, .func (PySem.W.fnOf "ranked" "ranked" (defArgs s_ranked) (defBody s_ranked) (defScope s_ranked) .none kV_ranked dc_ranked pm_ranked an_ranked (.ref cT) ct_ranked), sl_ranked⟩)
    (q_ranked : PySem.W.codeIn K (.ref cT) "ranked" = true)
    (k_ranked : PySem.W.keepIn K (.ref f_ranked) = true)
    (v_ranked : K.lookup cT = some ⟨oT, ddT, .fields vsT, slT⟩)
    (y_ranked : vsT[11]? = some (.ref PT))
    (np_ranked : K.lookup PT = none)
    (a_law_pair_worth : PySem.W.nsIn K mainGlobals "_law_pair_worth" = some (some (.ref f_law_pair_worth)))
    (l_law_pair_worth : K.lookup f_law_pair_worth = some ⟨oc_law_pair_worth, od_law_pair_worth, .func (PySem.W.fnOf "_law_pair_worth" "_law_pair_worth" (defArgs s_law_pair_worth) (defBody s_law_pair_worth) (defScope s_law_pair_worth) .none kV_law_pair_worth dc_law_pair_worth pm_law_pair_worth an_law_pair_worth cd_law_pair_worth ct_law_pair_worth), sl_law_pair_worth⟩)
    (q_law_pair_worth : PySem.W.codeIn K cd_law_pair_worth "_law_pair_worth" = true)
    (k_law_pair_worth : PySem.W.keepIn K (.ref f_law_pair_worth) = true)
    (a_law_due : PySem.W.nsIn K mainGlobals "_law_due" = some (some (.ref f_law_due)))
    (l_law_due : K.lookup f_law_due = some ⟨oc_law_due, od_law_due, .func (PySem.W.fnOf "_law_due" "_law_due" (defArgs s_law_due) (defBody s_law_due) (defScope s_law_due) .none kV_law_due dc_law_due pm_law_due an_law_due cd_law_due ct_law_due), sl_law_due⟩)
    (q_law_due : PySem.W.codeIn K cd_law_due "_law_due" = true)
    (k_law_due : PySem.W.keepIn K (.ref f_law_due) = true)
    (a_law_deed : PySem.W.nsIn K mainGlobals "_law_deed" = some (some (.ref f_law_deed)))
    (l_law_deed : K.lookup f_law_deed = some ⟨oc_law_deed, od_law_deed, .func (PySem.W.fnOf "_law_deed" "_law_deed" (defArgs s_law_deed) (defBody s_law_deed) (defScope s_law_deed) .none kV_law_deed dc_law_deed pm_law_deed an_law_deed cd_law_deed ct_law_deed), sl_law_deed⟩)
    (q_law_deed : PySem.W.codeIn K cd_law_deed "_law_deed" = true)
    (k_law_deed : PySem.W.keepIn K (.ref f_law_deed) = true)
    (a_law_rated : PySem.W.nsIn K mainGlobals "_law_rated" = some (some (.ref f_law_rated)))
    (l_law_rated : K.lookup f_law_rated = some ⟨oc_law_rated, od_law_rated, .func (PySem.W.fnOf "_law_rated" "_law_rated" (defArgs s_law_rated) (defBody s_law_rated) (defScope s_law_rated) .none kV_law_rated dc_law_rated pm_law_rated an_law_rated cd_law_rated ct_law_rated), sl_law_rated⟩)
    (q_law_rated : PySem.W.codeIn K cd_law_rated "_law_rated" = true)
    (k_law_rated : PySem.W.keepIn K (.ref f_law_rated) = true)
    (a_law : PySem.W.nsIn K mainGlobals "law" = some (some (.ref f_law)))
    (l_law : K.lookup f_law = some ⟨oc_law, od_law, .func (PySem.W.fnOf "law" "law" (defArgs s_law) (defBody s_law) (defScope s_law) .none kV_law dc_law pm_law an_law cd_law ct_law), sl_law⟩)
    (q_law : PySem.W.codeIn K cd_law "law" = true)
    (k_law : PySem.W.keepIn K (.ref f_law) = true)
    (z_int : PySem.W.nsIn K mainGlobals "int" = some none)
    (z_isinstance : PySem.W.nsIn K mainGlobals "isinstance" = some none)
    (z_len : PySem.W.nsIn K mainGlobals "len" = some none)
    (z_list : PySem.W.nsIn K mainGlobals "list" = some none)
    (z_max : PySem.W.nsIn K mainGlobals "max" = some none)
    (z_min : PySem.W.nsIn K mainGlobals "min" = some none)
    (z_range : PySem.W.nsIn K mainGlobals "range" = some none)
    (z_repr : PySem.W.nsIn K mainGlobals "repr" = some none)
    (z_sorted : PySem.W.nsIn K mainGlobals "sorted" = some none)
    (z_str : PySem.W.nsIn K mainGlobals "str" = some none)
    (z_LETTERS : PySem.W.nsIn K mainGlobals "LETTERS" = some (some (.str "abcdefghijklmnopqrstuvwxyz" tk_LETTERS)))
    (z_SIGNS : PySem.W.nsIn K mainGlobals "SIGNS" = some (some (.str " abcdefghijklmnopqrstuvwxyz" tk_SIGNS))) :
    ∃ (fd : FuncData) (c P : Addr), PySem.W.tabIn K "ranked" = some (c, P) ∧ K.lookup P = none ∧ (∀ (s : Shared) (v : Value), BindsTo s fd ⟨[v], []⟩ [("_law_script", v)]) ∧ ∀ base : Heap, K.In base → base.Ns mainGlobals mg → LamX.TabB base mg c P → OkG l.prog w K mg base 6 fa fd ["_law_script"] (spLawT K P qLam) := by
  have e := hfa.symm.trans (PySem.W.mg_of X G a_law)
  cases e
  have T : Top K mg C_Pairs C_Wood C_PartWood X_Absent X_NoWord X_Twice cT PT := ⟨⟨pg_Pairs, hd_Pairs, po_Pairs, sa_Pairs⟩,
    na_Pairs_pair_marks,
    na_Pairs_pair_era,
    ⟨pg_Wood, hd_Wood, po_Wood, sa_Wood⟩,
    na_Wood_marks,
    na_Wood_tops,
    na_Wood_now,
    ⟨pg_PartWood, hd_PartWood, po_PartWood, sa_PartWood⟩,
    na_PartWood_marks,
    na_PartWood_tops,
    na_PartWood_now,
    ⟨xc_Absent, PySem.W.mg_of X G a_Absent, kc_Absent, sb_Absent, ty_Absent⟩,
    ⟨xc_NoWord, PySem.W.mg_of X G a_NoWord, kc_NoWord, sb_NoWord, ty_NoWord⟩,
    ⟨xc_Twice, PySem.W.mg_of X G a_Twice, kc_Twice, sb_Twice, ty_Twice⟩,
    init_mk (st := s_Pairs___init__) (PySem.W.mg_of X G a_Pairs) mk_Pairs kc_Pairs a_Pairs___init__ i_Pairs___init__ l_Pairs___init__ q_Pairs___init__ k_Pairs___init__ (fun _ _ _ _ _ _ us hl => match us, hl with | [_], _ => rfl),
    meth_mk (st := s_Pairs_choose) ⟨pg_Pairs, hd_Pairs, po_Pairs, sa_Pairs⟩ a_Pairs_choose i_Pairs_choose l_Pairs_choose q_Pairs_choose k_Pairs_choose (fun _ _ _ _ _ _ us hl => match us, hl with | [_, _, _], _ => rfl),
    meth_mkD (st := s_Pairs_fade) ⟨pg_Pairs, hd_Pairs, po_Pairs, sa_Pairs⟩ a_Pairs_fade i_Pairs_fade l_Pairs_fade q_Pairs_fade k_Pairs_fade t_Pairs_fade rfl ⟨_, rfl⟩ 1 rfl (fun _ _ _ _ _ _ _ us its h1 h2 => match us, its, h1, h2 with | [_, _], [_], _, _ => ⟨_, rfl, rfl⟩) (fun _ _ _ _ _ _ _ us its h1 h2 => match us, its, h1, h2 with | [_], [_], _, _ => ⟨_, rfl, rfl⟩),
    meth_mk (st := s_Pairs_let_go) ⟨pg_Pairs, hd_Pairs, po_Pairs, sa_Pairs⟩ a_Pairs_let_go i_Pairs_let_go l_Pairs_let_go q_Pairs_let_go k_Pairs_let_go (fun _ _ _ _ _ _ us hl => match us, hl with | [_, _], _ => rfl),
    meth_mk (st := s_Pairs_worth_of) ⟨pg_Pairs, hd_Pairs, po_Pairs, sa_Pairs⟩ a_Pairs_worth_of i_Pairs_worth_of l_Pairs_worth_of q_Pairs_worth_of k_Pairs_worth_of (fun _ _ _ _ _ _ us hl => match us, hl with | [_, _, _], _ => rfl),
    init_mk (st := s_Wood___init__) (PySem.W.mg_of X G a_Wood) mk_Wood kc_Wood a_Wood___init__ i_Wood___init__ l_Wood___init__ q_Wood___init__ k_Wood___init__ (fun _ _ _ _ _ _ us hl => match us, hl with | [_], _ => rfl),
    meth_mk (st := s_Wood_put) ⟨pg_Wood, hd_Wood, po_Wood, sa_Wood⟩ a_Wood_put i_Wood_put l_Wood_put q_Wood_put k_Wood_put (fun _ _ _ _ _ _ us hl => match us, hl with | [_, _, _], _ => rfl),
    meth_mkD (st := s_Wood_use) ⟨pg_Wood, hd_Wood, po_Wood, sa_Wood⟩ a_Wood_use i_Wood_use l_Wood_use q_Wood_use k_Wood_use t_Wood_use rfl ⟨_, rfl⟩ 2 rfl (fun _ _ _ _ _ _ _ us its h1 h2 => match us, its, h1, h2 with | [_, _, _], [_], _, _ => ⟨_, rfl, rfl⟩) (fun _ _ _ _ _ _ _ us its h1 h2 => match us, its, h1, h2 with | [_, _], [_], _, _ => ⟨_, rfl, rfl⟩),
    meth_mk (st := s_Wood_strike) ⟨pg_Wood, hd_Wood, po_Wood, sa_Wood⟩ a_Wood_strike i_Wood_strike l_Wood_strike q_Wood_strike k_Wood_strike (fun _ _ _ _ _ _ us hl => match us, hl with | [_, _], _ => rfl),
    meth_mkD (st := s_Wood_fade) ⟨pg_Wood, hd_Wood, po_Wood, sa_Wood⟩ a_Wood_fade i_Wood_fade l_Wood_fade q_Wood_fade k_Wood_fade t_Wood_fade rfl ⟨_, rfl⟩ 1 rfl (fun _ _ _ _ _ _ _ us its h1 h2 => match us, its, h1, h2 with | [_, _], [_], _, _ => ⟨_, rfl, rfl⟩) (fun _ _ _ _ _ _ _ us its h1 h2 => match us, its, h1, h2 with | [_], [_], _, _ => ⟨_, rfl, rfl⟩),
    meth_mk (st := s_Wood_words) ⟨pg_Wood, hd_Wood, po_Wood, sa_Wood⟩ a_Wood_words i_Wood_words l_Wood_words q_Wood_words k_Wood_words (fun _ _ _ _ _ _ us hl => match us, hl with | [_], _ => rfl),
    meth_mk (st := s_Wood_ask_there) ⟨pg_Wood, hd_Wood, po_Wood, sa_Wood⟩ a_Wood_ask_there i_Wood_ask_there l_Wood_ask_there q_Wood_ask_there k_Wood_ask_there (fun _ _ _ _ _ _ us hl => match us, hl with | [_, _], _ => rfl),
    meth_mk (st := s_Wood_longer_by_one) ⟨pg_Wood, hd_Wood, po_Wood, sa_Wood⟩ a_Wood_longer_by_one i_Wood_longer_by_one l_Wood_longer_by_one q_Wood_longer_by_one k_Wood_longer_by_one (fun _ _ _ _ _ _ us hl => match us, hl with | [_, _], _ => rfl),
    meth_mk (st := s_Wood_renew_tops) ⟨pg_Wood, hd_Wood, po_Wood, sa_Wood⟩ a_Wood_renew_tops i_Wood_renew_tops l_Wood_renew_tops q_Wood_renew_tops k_Wood_renew_tops (fun _ _ _ _ _ _ us hl => match us, hl with | [_, _], _ => rfl),
    init_mk (st := s_PartWood___init__) (PySem.W.mg_of X G a_PartWood) mk_PartWood kc_PartWood a_PartWood___init__ i_PartWood___init__ l_PartWood___init__ q_PartWood___init__ k_PartWood___init__ (fun _ _ _ _ _ _ us hl => match us, hl with | [_], _ => rfl),
    meth_mk (st := s_PartWood_put) ⟨pg_PartWood, hd_PartWood, po_PartWood, sa_PartWood⟩ a_PartWood_put i_PartWood_put l_PartWood_put q_PartWood_put k_PartWood_put (fun _ _ _ _ _ _ us hl => match us, hl with | [_, _, _], _ => rfl),
    meth_mkD (st := s_PartWood_use) ⟨pg_PartWood, hd_PartWood, po_PartWood, sa_PartWood⟩ a_PartWood_use i_PartWood_use l_PartWood_use q_PartWood_use k_PartWood_use t_PartWood_use rfl ⟨_, rfl⟩ 2 rfl (fun _ _ _ _ _ _ _ us its h1 h2 => match us, its, h1, h2 with | [_, _, _], [_], _, _ => ⟨_, rfl, rfl⟩) (fun _ _ _ _ _ _ _ us its h1 h2 => match us, its, h1, h2 with | [_, _], [_], _, _ => ⟨_, rfl, rfl⟩),
    meth_mk (st := s_PartWood_strike) ⟨pg_PartWood, hd_PartWood, po_PartWood, sa_PartWood⟩ a_PartWood_strike i_PartWood_strike l_PartWood_strike q_PartWood_strike k_PartWood_strike (fun _ _ _ _ _ _ us hl => match us, hl with | [_, _], _ => rfl),
    meth_mkD (st := s_PartWood_fade) ⟨pg_PartWood, hd_PartWood, po_PartWood, sa_PartWood⟩ a_PartWood_fade i_PartWood_fade l_PartWood_fade q_PartWood_fade k_PartWood_fade t_PartWood_fade rfl ⟨_, rfl⟩ 1 rfl (fun _ _ _ _ _ _ _ us its h1 h2 => match us, its, h1, h2 with | [_, _], [_], _, _ => ⟨_, rfl, rfl⟩) (fun _ _ _ _ _ _ _ us its h1 h2 => match us, its, h1, h2 with | [_], [_], _, _ => ⟨_, rfl, rfl⟩),
    meth_mk (st := s_PartWood_words) ⟨pg_PartWood, hd_PartWood, po_PartWood, sa_PartWood⟩ a_PartWood_words i_PartWood_words l_PartWood_words q_PartWood_words k_PartWood_words (fun _ _ _ _ _ _ us hl => match us, hl with | [_], _ => rfl),
    meth_mk (st := s_PartWood_ask_there) ⟨pg_PartWood, hd_PartWood, po_PartWood, sa_PartWood⟩ a_PartWood_ask_there i_PartWood_ask_there l_PartWood_ask_there q_PartWood_ask_there k_PartWood_ask_there (fun _ _ _ _ _ _ us hl => match us, hl with | [_, _], _ => rfl),
    meth_mk (st := s_PartWood_longer_by_one) ⟨pg_PartWood, hd_PartWood, po_PartWood, sa_PartWood⟩ a_PartWood_longer_by_one i_PartWood_longer_by_one l_PartWood_longer_by_one q_PartWood_longer_by_one k_PartWood_longer_by_one (fun _ _ _ _ _ _ us hl => match us, hl with | [_, _], _ => rfl),
    meth_mk (st := s_PartWood_renew_tops) ⟨pg_PartWood, hd_PartWood, po_PartWood, sa_PartWood⟩ a_PartWood_renew_tops i_PartWood_renew_tops l_PartWood_renew_tops q_PartWood_renew_tops k_PartWood_renew_tops (fun _ _ _ _ _ _ us hl => match us, hl with | [_, _], _ => rfl),
    PySem.W.mg_none_of X G z_int,
    PySem.W.mg_none_of X G z_isinstance,
    PySem.W.mg_none_of X G z_len,
    PySem.W.mg_none_of X G z_list,
    PySem.W.mg_none_of X G z_max,
    PySem.W.mg_none_of X G z_min,
    PySem.W.mg_none_of X G z_range,
    PySem.W.mg_none_of X G z_repr,
    PySem.W.mg_none_of X G z_sorted,
    PySem.W.mg_none_of X G z_str,
    ⟨_, PySem.W.mg_of X G z_LETTERS⟩,
    ⟨_, PySem.W.mg_of X G z_SIGNS⟩,
    ⟨_, _, fun_mk (st := s_is_part) l_is_part q_is_part k_is_part, PySem.W.mg_of X G a_is_part⟩,
    ⟨_, _, fun_mk (st := s_is_word) l_is_word q_is_word k_is_word, PySem.W.mg_of X G a_is_word⟩,
    ⟨_, _, fun_mk (st := s_worth_at) l_worth_at q_worth_at k_worth_at, PySem.W.mg_of X G a_worth_at⟩,
    ⟨_, _, fun_mk (st := s_used_mark) l_used_mark q_used_mark k_used_mark, PySem.W.mg_of X G a_used_mark⟩,
    ⟨_, _, fun_mk (st := s_greatest_at) l_greatest_at q_greatest_at k_greatest_at, PySem.W.mg_of X G a_greatest_at⟩,
    ⟨_, _, fun_mk (st := s_ranked) l_ranked q_ranked k_ranked, PySem.W.mg_of X G a_ranked, rfl⟩,
    ⟨_, _, fun_mk (st := s_law_feed) l_law_feed q_law_feed k_law_feed, PySem.W.mg_of X G a_law_feed⟩,
    ⟨_, _, fun_mk (st := s_law_draw) l_law_draw q_law_draw k_law_draw, PySem.W.mg_of X G a_law_draw⟩,
    ⟨_, _, fun_mk (st := s_law_part) l_law_part q_law_part k_law_part, PySem.W.mg_of X G a_law_part⟩,
    ⟨_, _, fun_mk (st := s_law_is_fit) l_law_is_fit q_law_is_fit k_law_is_fit, PySem.W.mg_of X G a_law_is_fit⟩,
    ⟨_, _, fun_mk (st := s_law_word) l_law_word q_law_word k_law_word, PySem.W.mg_of X G a_law_word⟩,
    ⟨_, _, fun_mk (st := s_law_words) l_law_words q_law_words k_law_words, PySem.W.mg_of X G a_law_words⟩,
    ⟨_, _, fun_mk (st := s_law_beginning) l_law_beginning q_law_beginning k_law_beginning, PySem.W.mg_of X G a_law_beginning⟩,
    ⟨_, _, fun_mk (st := s_law_count) l_law_count q_law_count k_law_count, PySem.W.mg_of X G a_law_count⟩,
    ⟨_, _, fun_mk (st := s_law_halved) l_law_halved q_law_halved k_law_halved, PySem.W.mg_of X G a_law_halved⟩,
    ⟨_, _, fun_mk (st := s_law_is_told) l_law_is_told q_law_is_told k_law_is_told, PySem.W.mg_of X G a_law_is_told⟩,
    ⟨_, _, fun_mk (st := s_law_pair_worth) l_law_pair_worth q_law_pair_worth k_law_pair_worth, PySem.W.mg_of X G a_law_pair_worth⟩,
    ⟨_, _, fun_mk (st := s_law_deed) l_law_deed q_law_deed k_law_deed, PySem.W.mg_of X G a_law_deed⟩,
    ⟨_, _, fun_mk (st := s_law_wood_deed) l_law_wood_deed q_law_wood_deed k_law_wood_deed, PySem.W.mg_of X G a_law_wood_deed⟩,
    ⟨_, _, fun_mk (st := s_law_rated) l_law_rated q_law_rated k_law_rated, PySem.W.mg_of X G a_law_rated⟩,
    ⟨_, _, fun_mk (st := s_law_due) l_law_due q_law_due k_law_due, PySem.W.mg_of X G a_law_due⟩⟩
  have F_law_feed := fun (base : Heap) (TB : LamX.TabB base mg cT PT) => ok_law_feed (P := l.prog) (w := w) (base := base) T 
  have F_law_draw := fun (base : Heap) (TB : LamX.TabB base mg cT PT) => ok_law_draw (P := l.prog) (w := w) (base := base) T 
  have F_law_is_fit := fun (base : Heap) (TB : LamX.TabB base mg cT PT) => ok_law_is_fit (P := l.prog) (w := w) (base := base) T 
  have F_law_part := fun (base : Heap) (TB : LamX.TabB base mg cT PT) => ok_law_part (P := l.prog) (w := w) (base := base) T (F_law_draw base TB)
  have F_law_word := fun (base : Heap) (TB : LamX.TabB base mg cT PT) => ok_law_word (P := l.prog) (w := w) (base := base) T (F_law_draw base TB) (F_law_is_fit base TB) (F_law_part base TB)
  have F_law_words := fun (base : Heap) (TB : LamX.TabB base mg cT PT) => ok_law_words (P := l.prog) (w := w) (base := base) T (F_law_draw base TB) (F_law_word base TB)
  have F_Wood___init__ := fun (base : Heap) (TB : LamX.TabB base mg cT PT) => ok_Wood___init__ (P := l.prog) (w := w) (base := base) T 
  have F_Pairs___init__ := fun (base : Heap) (TB : LamX.TabB base mg cT PT) => ok_Pairs___init__ (P := l.prog) (w := w) (base := base) T 
  have F_law_is_told := fun (base : Heap) (TB : LamX.TabB base mg cT PT) => ok_law_is_told (P := l.prog) (w := w) (base := base) T 
  have F_PartWood___init__ := fun (base : Heap) (TB : LamX.TabB base mg cT PT) => ok_PartWood___init__ (P := l.prog) (w := w) (base := base) T 
  have F_law_count := fun (base : Heap) (TB : LamX.TabB base mg cT PT) => ok_law_count (P := l.prog) (w := w) (base := base) T (F_law_draw base TB)
  have F_Wood_longer_by_one := fun (base : Heap) (TB : LamX.TabB base mg cT PT) => ok_Wood_longer_by_one (P := l.prog) (w := w) (base := base) T 
  have F_PartWood_longer_by_one := fun (base : Heap) (TB : LamX.TabB base mg cT PT) => ok_PartWood_longer_by_one (P := l.prog) (w := w) (base := base) T 
  have F_worth_at := fun (base : Heap) (TB : LamX.TabB base mg cT PT) => ok_worth_at (P := l.prog) (w := w) (base := base) T 
  have F_greatest_at := fun (base : Heap) (TB : LamX.TabB base mg cT PT) => ok_greatest_at (P := l.prog) (w := w) (base := base) T (F_worth_at base TB)
  have F_Wood_renew_tops := fun (base : Heap) (TB : LamX.TabB base mg cT PT) => ok_Wood_renew_tops (P := l.prog) (w := w) (base := base) T (F_Wood_longer_by_one base TB) (F_greatest_at base TB)
  have F_PartWood_renew_tops := fun (base : Heap) (TB : LamX.TabB base mg cT PT) => ok_PartWood_renew_tops (P := l.prog) (w := w) (base := base) T (F_PartWood_longer_by_one base TB) (F_greatest_at base TB)
  have F_is_part := fun (base : Heap) (TB : LamX.TabB base mg cT PT) => ok_is_part (P := l.prog) (w := w) (base := base) T 
  have F_is_word := fun (base : Heap) (TB : LamX.TabB base mg cT PT) => ok_is_word (P := l.prog) (w := w) (base := base) T (F_is_part base TB)
  have F_Wood_put := fun (base : Heap) (TB : LamX.TabB base mg cT PT) => ok_Wood_put (P := l.prog) (w := w) (base := base) T (F_Wood_renew_tops base TB) (F_is_word base TB)
  have F_PartWood_put := fun (base : Heap) (TB : LamX.TabB base mg cT PT) => ok_PartWood_put (P := l.prog) (w := w) (base := base) T (F_PartWood_renew_tops base TB) (F_is_word base TB)
  have F_Pairs_fade := fun (base : Heap) (TB : LamX.TabB base mg cT PT) => ok_Pairs_fade (P := l.prog) (w := w) (base := base) T 
  have F_Wood_fade := fun (base : Heap) (TB : LamX.TabB base mg cT PT) => ok_Wood_fade (P := l.prog) (w := w) (base := base) T 
  have F_PartWood_fade := fun (base : Heap) (TB : LamX.TabB base mg cT PT) => ok_PartWood_fade (P := l.prog) (w := w) (base := base) T 
  have F_Wood_ask_there := fun (base : Heap) (TB : LamX.TabB base mg cT PT) => ok_Wood_ask_there (P := l.prog) (w := w) (base := base) T 
  have F_PartWood_ask_there := fun (base : Heap) (TB : LamX.TabB base mg cT PT) => ok_PartWood_ask_there (P := l.prog) (w := w) (base := base) T 
  have F_Wood_strike := fun (base : Heap) (TB : LamX.TabB base mg cT PT) => ok_Wood_strike (P := l.prog) (w := w) (base := base) T (F_Wood_ask_there base TB) (F_Wood_renew_tops base TB)
  have F_PartWood_strike := fun (base : Heap) (TB : LamX.TabB base mg cT PT) => ok_PartWood_strike (P := l.prog) (w := w) (base := base) T (F_PartWood_ask_there base TB) (F_PartWood_renew_tops base TB)
  have F_used_mark := fun (base : Heap) (TB : LamX.TabB base mg cT PT) => ok_used_mark (P := l.prog) (w := w) (base := base) T (F_worth_at base TB)
  have F_Wood_use := fun (base : Heap) (TB : LamX.TabB base mg cT PT) => ok_Wood_use (P := l.prog) (w := w) (base := base) T (F_Wood_ask_there base TB) (F_Wood_renew_tops base TB) (F_used_mark base TB)
  have F_PartWood_use := fun (base : Heap) (TB : LamX.TabB base mg cT PT) => ok_PartWood_use (P := l.prog) (w := w) (base := base) T (F_PartWood_ask_there base TB) (F_PartWood_renew_tops base TB) (F_used_mark base TB)
  have F_law_halved := fun (base : Heap) (TB : LamX.TabB base mg cT PT) => ok_law_halved (P := l.prog) (w := w) (base := base) T 
  have F_law_wood_deed := fun (base : Heap) (TB : LamX.TabB base mg cT PT) => ok_law_wood_deed (P := l.prog) (w := w) (base := base) T (F_PartWood_fade base TB) (F_PartWood_put base TB) (F_PartWood_strike base TB) (F_PartWood_use base TB) (F_Wood_fade base TB) (F_Wood_put base TB) (F_Wood_strike base TB) (F_Wood_use base TB) (F_law_count base TB) (F_law_draw base TB) (F_law_halved base TB)
  have F_law_beginning := fun (base : Heap) (TB : LamX.TabB base mg cT PT) => ok_law_beginning (P := l.prog) (w := w) (base := base) T (F_law_draw base TB)
  have F_Wood_words := fun (base : Heap) (TB : LamX.TabB base mg cT PT) => ok_Wood_words (P := l.prog) (w := w) (base := base) T (F_worth_at base TB)
  have F_PartWood_words := fun (base : Heap) (TB : LamX.TabB base mg cT PT) => ok_PartWood_words (P := l.prog) (w := w) (base := base) T (F_worth_at base TB)
  have F_Pairs_worth_of := fun (base : Heap) (TB : LamX.TabB base mg cT PT) => ok_Pairs_worth_of (P := l.prog) (w := w) (base := base) T (F_worth_at base TB)
  have F_ranked := fun (base : Heap) (TB : LamX.TabB base mg cT PT) => ok_ranked (P := l.prog) (w := w) (base := base) T TB (F_Pairs_worth_of base TB) (F_PartWood_words base TB) (F_Wood_words base TB)
  have F_law_pair_worth := fun (base : Heap) (TB : LamX.TabB base mg cT PT) => ok_law_pair_worth (P := l.prog) (w := w) (base := base) T (F_law_halved base TB)
  have F_law_due := fun (base : Heap) (TB : LamX.TabB base mg cT PT) => ok_law_due (P := l.prog) (w := w) (base := base) T (F_law_pair_worth base TB)
  have F_Pairs_let_go := fun (base : Heap) (TB : LamX.TabB base mg cT PT) => ok_Pairs_let_go (P := l.prog) (w := w) (base := base) T 
  have F_Pairs_choose := fun (base : Heap) (TB : LamX.TabB base mg cT PT) => ok_Pairs_choose (P := l.prog) (w := w) (base := base) T (F_used_mark base TB)
  have F_law_deed := fun (base : Heap) (TB : LamX.TabB base mg cT PT) => ok_law_deed (P := l.prog) (w := w) (base := base) T (F_Pairs_choose base TB) (F_Pairs_fade base TB) (F_Pairs_let_go base TB) (F_law_draw base TB) (F_law_pair_worth base TB)
  have F_law_rated := fun (base : Heap) (TB : LamX.TabB base mg cT PT) => ok_law_rated (P := l.prog) (w := w) (base := base) T (F_law_halved base TB)
  exact ⟨PySem.W.fnOf "law" "law" (defArgs s_law) (defBody s_law) (defScope s_law) .none kV_law dc_law pm_law an_law cd_law ct_law, cT, PT, tabIn_of a_ranked l_ranked rfl v_ranked y_ranked, np_ranked, fun s v => .of_eq rfl, fun base _ _ TB => okF_law (base := base) T (fun_mk (st := s_law) l_law q_law k_law) (F_Pairs___init__ base TB) (F_PartWood___init__ base TB) (F_PartWood_words base TB) (F_Wood___init__ base TB) (F_Wood_words base TB) (F_law_beginning base TB) (F_law_deed base TB) (F_law_draw base TB) (F_law_due base TB) (F_law_feed base TB) (F_law_is_told base TB) (F_law_rated base TB) (F_law_wood_deed base TB) (F_law_words base TB) (F_ranked base TB)⟩
end Ah
open PySem PySem.W PyProof.Rows
set_option maxRecDepth 100000 in
set_option maxHeartbeats 0 in
theorem PySem.Challenge.cw_aheadword_k33_ranked_behind_holds : PySem.Challenge.rw_aheadword_k33_ranked_behind.Holds := by
  w_on; o_law; k_head; (case hw => w_witness2)
  k_fill
  refine Ah.walkGT (l := PySem.Challenge.rw_aheadword_k33_ranked_behind) (k := 6) (x := "_law_script") (y := "ranked") (z := Ah.qLam) rfl rfl ⟨rfl, by decide, by decide⟩ (by rfl) (fun w h Y => PySem.W.km_in_of Y) ?F
  case F =>
    intro w mg fa h KX G hmg
    refine' Ah.all_mk KX G hmg ?a_Pairs ?pg_Pairs ?hd_Pairs ?po_Pairs ?sa_Pairs ?mk_Pairs ?kc_Pairs ?na_Pairs_pair_marks ?na_Pairs_pair_era ?a_Wood ?pg_Wood ?hd_Wood ?po_Wood ?sa_Wood ?mk_Wood ?kc_Wood ?na_Wood_marks ?na_Wood_tops ?na_Wood_now ?a_PartWood ?pg_PartWood ?hd_PartWood ?po_PartWood ?sa_PartWood ?mk_PartWood ?kc_PartWood ?na_PartWood_marks ?na_PartWood_tops ?na_PartWood_now ?a_Absent ?xc_Absent ?kc_Absent ?sb_Absent ?ty_Absent ?a_NoWord ?xc_NoWord ?kc_NoWord ?sb_NoWord ?ty_NoWord ?a_Twice ?xc_Twice ?kc_Twice ?sb_Twice ?ty_Twice ?a_Wood___init__ ?i_Wood___init__ ?l_Wood___init__ ?q_Wood___init__ ?k_Wood___init__ ?a_Pairs___init__ ?i_Pairs___init__ ?l_Pairs___init__ ?q_Pairs___init__ ?k_Pairs___init__ ?a_PartWood___init__ ?i_PartWood___init__ ?l_PartWood___init__ ?q_PartWood___init__ ?k_PartWood___init__ ?a_Wood_longer_by_one ?i_Wood_longer_by_one ?l_Wood_longer_by_one ?q_Wood_longer_by_one ?k_Wood_longer_by_one ?a_PartWood_longer_by_one ?i_PartWood_longer_by_one ?l_PartWood_longer_by_one ?q_PartWood_longer_by_one ?k_PartWood_longer_by_one ?a_Wood_renew_tops ?i_Wood_renew_tops ?l_Wood_renew_tops ?q_Wood_renew_tops ?k_Wood_renew_tops ?a_PartWood_renew_tops ?i_PartWood_renew_tops ?l_PartWood_renew_tops ?q_PartWood_renew_tops ?k_PartWood_renew_tops ?a_Wood_put ?i_Wood_put ?l_Wood_put ?q_Wood_put ?k_Wood_put ?a_PartWood_put ?i_PartWood_put ?l_PartWood_put ?q_PartWood_put ?k_PartWood_put ?a_Pairs_fade ?i_Pairs_fade ?l_Pairs_fade ?q_Pairs_fade ?k_Pairs_fade ?t_Pairs_fade ?a_Wood_fade ?i_Wood_fade ?l_Wood_fade ?q_Wood_fade ?k_Wood_fade ?t_Wood_fade ?a_PartWood_fade ?i_PartWood_fade ?l_PartWood_fade ?q_PartWood_fade ?k_PartWood_fade ?t_PartWood_fade ?a_Wood_ask_there ?i_Wood_ask_there ?l_Wood_ask_there ?q_Wood_ask_there ?k_Wood_ask_there ?a_PartWood_ask_there ?i_PartWood_ask_there ?l_PartWood_ask_there ?q_PartWood_ask_there ?k_PartWood_ask_there ?a_Wood_strike ?i_Wood_strike ?l_Wood_strike ?q_Wood_strike ?k_Wood_strike ?a_PartWood_strike ?i_PartWood_strike ?l_PartWood_strike ?q_PartWood_strike ?k_PartWood_strike ?a_Wood_use ?i_Wood_use ?l_Wood_use ?q_Wood_use ?k_Wood_use ?t_Wood_use ?a_PartWood_use ?i_PartWood_use ?l_PartWood_use ?q_PartWood_use ?k_PartWood_use ?t_PartWood_use ?a_Wood_words ?i_Wood_words ?l_Wood_words ?q_Wood_words ?k_Wood_words ?a_PartWood_words ?i_PartWood_words ?l_PartWood_words ?q_PartWood_words ?k_PartWood_words ?a_Pairs_worth_of ?i_Pairs_worth_of ?l_Pairs_worth_of ?q_Pairs_worth_of ?k_Pairs_worth_of ?a_Pairs_let_go ?i_Pairs_let_go ?l_Pairs_let_go ?q_Pairs_let_go ?k_Pairs_let_go ?a_Pairs_choose ?i_Pairs_choose ?l_Pairs_choose ?q_Pairs_choose ?k_Pairs_choose ?a_law_feed ?l_law_feed ?q_law_feed ?k_law_feed ?a_law_draw ?l_law_draw ?q_law_draw ?k_law_draw ?a_law_is_fit ?l_law_is_fit ?q_law_is_fit ?k_law_is_fit ?a_law_part ?l_law_part ?q_law_part ?k_law_part ?a_law_word ?l_law_word ?q_law_word ?k_law_word ?a_law_words ?l_law_words ?q_law_words ?k_law_words ?a_law_is_told ?l_law_is_told ?q_law_is_told ?k_law_is_told ?a_law_count ?l_law_count ?q_law_count ?k_law_count ?a_worth_at ?l_worth_at ?q_worth_at ?k_worth_at ?a_greatest_at ?l_greatest_at ?q_greatest_at ?k_greatest_at ?a_is_part ?l_is_part ?q_is_part ?k_is_part ?a_is_word ?l_is_word ?q_is_word ?k_is_word ?a_used_mark ?l_used_mark ?q_used_mark ?k_used_mark ?a_law_halved ?l_law_halved ?q_law_halved ?k_law_halved ?a_law_wood_deed ?l_law_wood_deed ?q_law_wood_deed ?k_law_wood_deed ?a_law_beginning ?l_law_beginning ?q_law_beginning ?k_law_beginning ?a_ranked ?l_ranked ?q_ranked ?k_ranked ?v_ranked ?y_ranked ?np_ranked ?a_law_pair_worth ?l_law_pair_worth ?q_law_pair_worth ?k_law_pair_worth ?a_law_due ?l_law_due ?q_law_due ?k_law_due ?a_law_deed ?l_law_deed ?q_law_deed ?k_law_deed ?a_law_rated ?l_law_rated ?q_law_rated ?k_law_rated ?a_law ?l_law ?q_law ?k_law ?z_int ?z_isinstance ?z_len ?z_list ?z_max ?z_min ?z_range ?z_repr ?z_sorted ?z_str ?z_LETTERS ?z_SIGNS
    (case a_Pairs => k_is)
    (case pg_Pairs => k_is)
    (case hd_Pairs => k_is)
    (case po_Pairs => k_is)
    (case sa_Pairs => k_is)
    (case mk_Pairs => k_is)
    (case kc_Pairs => k_is)
    (case na_Pairs_pair_marks => k_is)
    (case na_Pairs_pair_era => k_is)
    (case a_Wood => k_is)
    (case pg_Wood => k_is)
    (case hd_Wood => k_is)
    (case po_Wood => k_is)
    (case sa_Wood => k_is)
    (case mk_Wood => k_is)
    (case kc_Wood => k_is)
    (case na_Wood_marks => k_is)
    (case na_Wood_tops => k_is)
    (case na_Wood_now => k_is)
    (case a_PartWood => k_is)
    (case pg_PartWood => k_is)
    (case hd_PartWood => k_is)
    (case po_PartWood => k_is)
    (case sa_PartWood => k_is)
    (case mk_PartWood => k_is)
    (case kc_PartWood => k_is)
    (case na_PartWood_marks => k_is)
    (case na_PartWood_tops => k_is)
    (case na_PartWood_now => k_is)
    (case a_Absent => k_is)
    (case xc_Absent => k_exc)
    (case kc_Absent => k_is)
    (case sb_Absent => k_is)
    (case ty_Absent => k_is)
    (case a_NoWord => k_is)
    (case xc_NoWord => k_exc)
    (case kc_NoWord => k_is)
    (case sb_NoWord => k_is)
    (case ty_NoWord => k_is)
    (case a_Twice => k_is)
    (case xc_Twice => k_exc)
    (case kc_Twice => k_is)
    (case sb_Twice => k_is)
    (case ty_Twice => k_is)
    (case a_Wood___init__ => k_is)
    (case i_Wood___init__ => k_is)
    (case l_Wood___init__ => k_is)
    (case q_Wood___init__ => k_is)
    (case k_Wood___init__ => k_is)
    (case a_Pairs___init__ => k_is)
    (case i_Pairs___init__ => k_is)
    (case l_Pairs___init__ => k_is)
    (case q_Pairs___init__ => k_is)
    (case k_Pairs___init__ => k_is)
    (case a_PartWood___init__ => k_is)
    (case i_PartWood___init__ => k_is)
    (case l_PartWood___init__ => k_is)
    (case q_PartWood___init__ => k_is)
    (case k_PartWood___init__ => k_is)
    (case a_Wood_longer_by_one => k_is)
    (case i_Wood_longer_by_one => k_is)
    (case l_Wood_longer_by_one => k_is)
    (case q_Wood_longer_by_one => k_is)
    (case k_Wood_longer_by_one => k_is)
    (case a_PartWood_longer_by_one => k_is)
    (case i_PartWood_longer_by_one => k_is)
    (case l_PartWood_longer_by_one => k_is)
    (case q_PartWood_longer_by_one => k_is)
    (case k_PartWood_longer_by_one => k_is)
    (case a_Wood_renew_tops => k_is)
    (case i_Wood_renew_tops => k_is)
    (case l_Wood_renew_tops => k_is)
    (case q_Wood_renew_tops => k_is)
    (case k_Wood_renew_tops => k_is)
    (case a_PartWood_renew_tops => k_is)
    (case i_PartWood_renew_tops => k_is)
    (case l_PartWood_renew_tops => k_is)
    (case q_PartWood_renew_tops => k_is)
    (case k_PartWood_renew_tops => k_is)
    (case a_Wood_put => k_is)
    (case i_Wood_put => k_is)
    (case l_Wood_put => k_is)
    (case q_Wood_put => k_is)
    (case k_Wood_put => k_is)
    (case a_PartWood_put => k_is)
    (case i_PartWood_put => k_is)
    (case l_PartWood_put => k_is)
    (case q_PartWood_put => k_is)
    (case k_PartWood_put => k_is)
    (case a_Pairs_fade => k_is)
    (case i_Pairs_fade => k_is)
    (case l_Pairs_fade => k_is)
    (case q_Pairs_fade => k_is)
    (case k_Pairs_fade => k_is)
    (case t_Pairs_fade => k_is)
    (case a_Wood_fade => k_is)
    (case i_Wood_fade => k_is)
    (case l_Wood_fade => k_is)
    (case q_Wood_fade => k_is)
    (case k_Wood_fade => k_is)
    (case t_Wood_fade => k_is)
    (case a_PartWood_fade => k_is)
    (case i_PartWood_fade => k_is)
    (case l_PartWood_fade => k_is)
    (case q_PartWood_fade => k_is)
    (case k_PartWood_fade => k_is)
    (case t_PartWood_fade => k_is)
    (case a_Wood_ask_there => k_is)
    (case i_Wood_ask_there => k_is)
    (case l_Wood_ask_there => k_is)
    (case q_Wood_ask_there => k_is)
    (case k_Wood_ask_there => k_is)
    (case a_PartWood_ask_there => k_is)
    (case i_PartWood_ask_there => k_is)
    (case l_PartWood_ask_there => k_is)
    (case q_PartWood_ask_there => k_is)
    (case k_PartWood_ask_there => k_is)
    (case a_Wood_strike => k_is)
    (case i_Wood_strike => k_is)
    (case l_Wood_strike => k_is)
    (case q_Wood_strike => k_is)
    (case k_Wood_strike => k_is)
    (case a_PartWood_strike => k_is)
    (case i_PartWood_strike => k_is)
    (case l_PartWood_strike => k_is)
    (case q_PartWood_strike => k_is)
    (case k_PartWood_strike => k_is)
    (case a_Wood_use => k_is)
    (case i_Wood_use => k_is)
    (case l_Wood_use => k_is)
    (case q_Wood_use => k_is)
    (case k_Wood_use => k_is)
    (case t_Wood_use => k_is)
    (case a_PartWood_use => k_is)
    (case i_PartWood_use => k_is)
    (case l_PartWood_use => k_is)
    (case q_PartWood_use => k_is)
    (case k_PartWood_use => k_is)
    (case t_PartWood_use => k_is)
    (case a_Wood_words => k_is)
    (case i_Wood_words => k_is)
    (case l_Wood_words => k_is)
    (case q_Wood_words => k_is)
    (case k_Wood_words => k_is)
    (case a_PartWood_words => k_is)
    (case i_PartWood_words => k_is)
    (case l_PartWood_words => k_is)
    (case q_PartWood_words => k_is)
    (case k_PartWood_words => k_is)
    (case a_Pairs_worth_of => k_is)
    (case i_Pairs_worth_of => k_is)
    (case l_Pairs_worth_of => k_is)
    (case q_Pairs_worth_of => k_is)
    (case k_Pairs_worth_of => k_is)
    (case a_Pairs_let_go => k_is)
    (case i_Pairs_let_go => k_is)
    (case l_Pairs_let_go => k_is)
    (case q_Pairs_let_go => k_is)
    (case k_Pairs_let_go => k_is)
    (case a_Pairs_choose => k_is)
    (case i_Pairs_choose => k_is)
    (case l_Pairs_choose => k_is)
    (case q_Pairs_choose => k_is)
    (case k_Pairs_choose => k_is)
    (case a_law_feed => k_is)
    (case l_law_feed => k_is)
    (case q_law_feed => k_is)
    (case k_law_feed => k_is)
    (case a_law_draw => k_is)
    (case l_law_draw => k_is)
    (case q_law_draw => k_is)
    (case k_law_draw => k_is)
    (case a_law_is_fit => k_is)
    (case l_law_is_fit => k_is)
    (case q_law_is_fit => k_is)
    (case k_law_is_fit => k_is)
    (case a_law_part => k_is)
    (case l_law_part => k_is)
    (case q_law_part => k_is)
    (case k_law_part => k_is)
    (case a_law_word => k_is)
    (case l_law_word => k_is)
    (case q_law_word => k_is)
    (case k_law_word => k_is)
    (case a_law_words => k_is)
    (case l_law_words => k_is)
    (case q_law_words => k_is)
    (case k_law_words => k_is)
    (case a_law_is_told => k_is)
    (case l_law_is_told => k_is)
    (case q_law_is_told => k_is)
    (case k_law_is_told => k_is)
    (case a_law_count => k_is)
    (case l_law_count => k_is)
    (case q_law_count => k_is)
    (case k_law_count => k_is)
    (case a_worth_at => k_is)
    (case l_worth_at => k_is)
    (case q_worth_at => k_is)
    (case k_worth_at => k_is)
    (case a_greatest_at => k_is)
    (case l_greatest_at => k_is)
    (case q_greatest_at => k_is)
    (case k_greatest_at => k_is)
    (case a_is_part => k_is)
    (case l_is_part => k_is)
    (case q_is_part => k_is)
    (case k_is_part => k_is)
    (case a_is_word => k_is)
    (case l_is_word => k_is)
    (case q_is_word => k_is)
    (case k_is_word => k_is)
    (case a_used_mark => k_is)
    (case l_used_mark => k_is)
    (case q_used_mark => k_is)
    (case k_used_mark => k_is)
    (case a_law_halved => k_is)
    (case l_law_halved => k_is)
    (case q_law_halved => k_is)
    (case k_law_halved => k_is)
    (case a_law_wood_deed => k_is)
    (case l_law_wood_deed => k_is)
    (case q_law_wood_deed => k_is)
    (case k_law_wood_deed => k_is)
    (case a_law_beginning => k_is)
    (case l_law_beginning => k_is)
    (case q_law_beginning => k_is)
    (case k_law_beginning => k_is)
    (case a_ranked => k_is)
    (case l_ranked => k_is)
    (case q_ranked => k_is)
    (case k_ranked => k_is)
    (case v_ranked => k_is)
    (case y_ranked => rfl)
    (case np_ranked => kernel_rfl)
    (case a_law_pair_worth => k_is)
    (case l_law_pair_worth => k_is)
    (case q_law_pair_worth => k_is)
    (case k_law_pair_worth => k_is)
    (case a_law_due => k_is)
    (case l_law_due => k_is)
    (case q_law_due => k_is)
    (case k_law_due => k_is)
    (case a_law_deed => k_is)
    (case l_law_deed => k_is)
    (case q_law_deed => k_is)
    (case k_law_deed => k_is)
    (case a_law_rated => k_is)
    (case l_law_rated => k_is)
    (case q_law_rated => k_is)
    (case k_law_rated => k_is)
    (case a_law => k_is)
    (case l_law => k_is)
    (case q_law => k_is)
    (case k_law => k_is)
    (case z_int => k_is)
    (case z_isinstance => k_is)
    (case z_len => k_is)
    (case z_list => k_is)
    (case z_max => k_is)
    (case z_min => k_is)
    (case z_range => k_is)
    (case z_repr => k_is)
    (case z_sorted => k_is)
    (case z_str => k_is)
    (case z_LETTERS => k_is)
    (case z_SIGNS => k_is)
