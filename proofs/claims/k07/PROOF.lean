import PyProof.Rows.All
import Wide.All
import OpenK.AllK
import Wide.FinOn
import KE.KStateDown
import Lean
import HandS.ForMost
import HandS.ForExc
import HandS.More
import HandS.Flow
import HandS.Codes
import HandS.TupAny
import HandS.TupMul
import HandS.IsInst
import HandS.Defaults
import HandS.Head0
import HandS.Head1
import HandS.Head2
import HandS.HeadEnd
import HandS.HeadHook1
import HandS.HeadHook2
import PySem.Challenge.RW_boxfall_k07_plain_rows
set_option Elab.async false
set_option linter.all false
set_option maxRecDepth 100000
set_option maxHeartbeats 4000000
namespace Bx
open PySem PySem.Spec PyProof.Rows L2
/-! ### defs by name -/
/-- a def of the top as it stands behind it -/
def Dfn (K : PySem.W.Frag) (mg : Str → Option Value) (x : Str) (st : Stmt) : Prop :=
  ∃ (f : Addr) (fd : FuncData), FunD K x x (defArgs st) (defBody st) (defScope st) [] [] f fd ∧ mg x = some (.ref f)
/-- how its parameters bind -/
def Bnd (x : Str) (st : Stmt) (ps : List Str) : Prop := ∀ (kV doc pm : Value) (an : Option Addr) (cdv ct : Value) (us : List Value), us.length = ps.length →
  bindArgs (PySem.W.fnOf x x (defArgs st) (defBody st) (defScope st) .none kV doc pm an cdv ct) ⟨us, []⟩ = pure (ps.zip us)
/-- a def that may be called: it raises nothing -/
structure Cal (P : Program) (w : World) (K : PySem.W.Frag) (mg : Str → Option Value) (base : Heap) (k : Nat) (x : Str) (sp : Sp) : Prop where
  ex : ∃ (f : Addr) (fd : FuncData) (ps : List Str), FnOk P w K mg base L2.CX0 k f fd ps sp ∧ mg x = some (.ref f) ∧ PySem.W.keepIn K (.ref f) = true ∧ Binds K fd ps []
section
variable {P : Program} {w : World} {K : PySem.W.Frag} {mg : Str → Option Value} {base : Heap}
theorem cal_mk {x : Str} {st : Stmt} {N ps : List Str} {k : Nat} {sp : Sp} (F : Dfn K mg x st) (b : Bnd x st ps) (S : FnScope N ps (defScope st)) (len : ∀ vs H Q E, sp vs H Q E → vs.length = ps.length)
    (hbody : ∀ (f : Addr) (cdv : Value) (A : Around) (outer : List Env) (s : Shared) (H : Hp) (vs : List V) (Q : VK) (E : XK), Room k (A.deeper (envOfC x (defScope st) s.heap.objs.size f cdv)) → sp vs H Q E →
      ∃ t, PSs (cxOf L2.CX0 P w K mg base N x (defScope st) f cdv A outer s H E).nox (defBody st) t ∧ t { nx := fun _ H' => Q .non H', rt := Q } (start N vs) H) : Cal P w K mg base (k + 1) x sp := by
  obtain ⟨f, fd, F, hm⟩ := F
  refine ⟨f, fd, ps, F.ok S len fun cdv A outer s H vs Q E hr h => ?_, hm, F.kp, F.bindsN b⟩
  obtain ⟨t, ht, hq⟩ := hbody f cdv A outer s H vs Q E hr h
  exact ⟨t, ht.nox, hq⟩
theorem Cal.imp {k : Nat} {x : Str} {sp sp' : Sp} (c : Cal P w K mg base k x sp) (h : ∀ vs H Q E, sp' vs H Q E → sp vs H Q E) : Cal P w K mg base k x sp' := by
  obtain ⟨f, fd, ps, F, a, b, d⟩ := c.ex
  exact ⟨f, fd, ps, F.imp h, a, b, d⟩
theorem Cal.mono {j k : Nat} {x : Str} {sp : Sp} (c : Cal P w K mg base j x sp) (h : j ≤ k) : Cal P w K mg base k x sp := by
  obtain ⟨f, fd, ps, F, a, b, d⟩ := c.ex
  exact ⟨f, fd, ps, F.mono h, a, b, d⟩
end
section
variable {X : Cx} {k j : Nat} {x : Str} {sp : Sp} {p pos : Pos} {e : Expr} {es : List Expr} {t : TA}
theorem pe_cl (c : Cal X.prog X.w X.K X.mg X.base k x sp) (hr : Room j X.A) (hk : k ≤ j) (hg : Gl X x) (ha : PA X (e :: es) t)
    (hdb : (x == ("__debug__" : Str)) = false := by decide) (he : starEach (e :: es) X.env = (false, eval e X.env) :: starEach es X.env := by rfl) (hpl : (backTo pos (starEach es X.env)).any (·.1) = false := by rfl) :
    PE X (.Call (.Name x p) (e :: es) [] pos) (tCall sp [] C8.E0 t) := by
  obtain ⟨f, fd, ps, F, hm, kp, b⟩ := c.ex
  exact pe_call F (hr.mono hk) hg hm kp b .nil C8.pass0 ha hdb he hpl
theorem pe_cl0 (c : Cal X.prog X.w X.K X.mg X.base k x sp) (hr : Room j X.A) (hk : k ≤ j) (hg : Gl X x) (hdb : (x == ("__debug__" : Str)) = false := by decide) : PE X (.Call (.Name x p) [] [] pos) (tCall sp [] C8.E0 tNil) := by
  obtain ⟨f, fd, ps, F, hm, kp, b⟩ := c.ex
  exact pe_call0 F (hr.mono hk) hg hm kp b .nil C8.pass0 hdb
theorem sl_or {r1 r2 : V → Option Int → Option Int → Hp → VK → Prop} (h1 : SlR X r1) (h2 : SlR X r2) : SlR X (fun x lo hi H Q => r1 x lo hi H Q ∨ r2 x lo hi H Q) :=
  fun pins s σ H x v vl vu lo hi sl Q I rx hs pl pu h => h.elim (h1 pins s σ H x v vl vu lo hi sl Q I rx hs pl pu) (h2 pins s σ H x v vl vu lo hi sl Q I rx hs pl pu)
theorem op_alt {f : Value → Value → Sem Value} {r1 r2 : R2} (h1 : OpR X f r1) (h2 : OpR X f r2) : OpR X f (fun x y H Q => r1 x y H Q ∨ r2 x y H Q) :=
  fun pins s σ H x y v u Q I rx ry h => h.elim (h1 pins s σ H x y v u Q I rx ry) (h2 pins s σ H x y v u Q I rx ry)
end
/-! ### readings, step by step -/
section
variable {σ : L2.St} {H : Hp} {Q : VK} {D : Ends} {t u : TS} {te ta tb : TE} {tc td : TT} {v x y : V} {i : Nat} {r : R2}
theorem z_seq (h : t { D with nx := u D } σ H) : tSeq t u D σ H := h
theorem z_asg (h : te σ H fun x H1 => D.nx (σ.set i (some x)) H1) : tAsg te (gName i) D σ H := h
theorem z_asgG {g : TG} (h : te σ H fun x H1 => g x σ H1 D.nx) : tAsg te g D σ H := h
theorem z_gsub {to ti : TE} {rs : V → V → V → Hp → (Hp → Prop) → Prop} {Qs : L2.St → Hp → Prop} (h : to σ H fun o H1 => ti σ H1 fun i H2 => rs o i v H2 fun H3 => Qs σ H3) : gSub to ti rs v σ H Qs := h
theorem z_gname {Qs : L2.St → Hp → Prop} (h : Qs (σ.set i (some v)) H) : gName i v σ H Qs := h
theorem z_ret (h : te σ H D.rt) : tRet te D σ H := h
theorem z_retN (h : D.rt .non H) : tRetN D σ H := h
theorem z_drop (h : te σ H fun _ H1 => D.nx σ H1) : tDrop te D σ H := h
theorem z_ifS (h : tc σ H fun b H1 => if b = true then t D σ H1 else u D σ H1) : tIfS tc t u D σ H := h
theorem z_next (h : D.nx σ H) : tNext D σ H := h
theorem z_brk (h : D.bk σ H) : tBreak D σ H := h
theorem z_ct (h : D.ct σ H) : tCont D σ H := h
theorem z_var (h : σ[i]? = some (some v)) (k : Q v H) : tVar i σ H Q := ⟨v, h, k⟩
theorem z_c (k : Q v H) : tC v σ H Q := k
theorem z_op (h : ta σ H fun x H1 => tb σ H1 fun y H2 => r x y H2 Q) : tOp r ta tb σ H Q := h
theorem z_un {r : V → Hp → VK → Prop} (h : ta σ H fun x H1 => r x H1 Q) : tUn r ta σ H Q := h
theorem z_cb {r : List V → Hp → VK → Prop} {ta : TA} (h : ta σ H fun vs H1 => r vs H1 Q) : tCB r ta σ H Q := h
theorem z_nil {Q : List V → Hp → Prop} (h : Q [] H) : tNil σ H Q := h
theorem z_cons {Q : List V → Hp → Prop} {tr : TA} (h : ta σ H fun x H1 => tr σ H1 fun xs H2 => Q (x :: xs) H2) : tCons ta tr σ H Q := h
theorem z_call {sp : Sp} {dvs : List V} {E : XK} {ta : TA} (h : ta σ H fun vs H1 => sp (vs ++ dvs) H1 Q E) : tCall sp dvs E ta σ H Q := h
theorem z_test {Q : Bool → Hp → Prop} (h : te σ H fun x H1 => ∃ k, x = .bl k ∧ Q k H1) : tTest te σ H Q := h
theorem z_tB {Q : Bool → Hp → Prop} (h : te σ H fun x H1 => ∃ k, x = .bl k ∧ Q k H1) : tB te σ H Q := h
theorem z_and {Q : Bool → Hp → Prop} (h : tc σ H fun c H1 => if c = true then td σ H1 Q else Q false H1) : tAnd tc td σ H Q := h
theorem z_or {Q : Bool → Hp → Prop} (h : tc σ H fun c H1 => if c = true then Q true H1 else td σ H1 Q) : tOr tc td σ H Q := h
theorem z_not {Q : Bool → Hp → Prop} (h : tc σ H fun c H1 => Q (!c) H1) : tNot tc σ H Q := h
theorem z_yes {Q : Bool → Hp → Prop} (h : Q true H) : tYes σ H Q := h
theorem z_andV (h : ta σ H fun x H1 => ∃ c, x = .bl c ∧ if c = true then tb σ H1 Q else Q (.bl false) H1) : tAndV ta tb σ H Q := h
theorem z_orV (h : ta σ H fun x H1 => ∃ c, x = .bl c ∧ if c = true then Q (.bl true) H1 else tb σ H1 Q) : tOrV ta tb σ H Q := h
theorem z_notV (h : ta σ H fun x H1 => ∃ c, x = .bl c ∧ Q (.bl (!c)) H1) : tNotV ta σ H Q := h
theorem z_ifE (h : tc σ H fun c H1 => if c = true then ta σ H1 Q else tb σ H1 Q) : tIf tc ta tb σ H Q := h
theorem z_tup {ta : TA} (h : ta σ H fun xs H1 => xs.length ≤ sizeLine ∧ ∀ p, H1 p = none → Q (.ref p) (upd H1 p (.tup xs))) : tTup ta σ H Q := h
theorem z_lst {ta : TA} (h : ta σ H fun xs H1 => xs.length ≤ sizeLine ∧ ∀ p, H1 p = none → Q (.ref p) (upd H1 p (.lst xs))) : tLst ta σ H Q := h
theorem z_sl {r : V → Option Int → Option Int → Hp → VK → Prop} {tl th : TO} (h : te σ H fun x H1 => tl σ H1 fun l H2 => th σ H2 fun u H3 => r x l u H3 Q) : tSl r te tl th σ H Q := h
theorem z_noPart {Q : Option Int → Hp → Prop} (h : Q none H) : tNoPart σ H Q := h
theorem z_part {Q : Option Int → Hp → Prop} (h : te σ H fun x H1 => ∃ i, x = .int i ∧ Q (some i) H1) : tPart te σ H Q := h
theorem z_pk {i : Int} {P : Int → Prop} (h : P i) : ∃ j, V.int i = .int j ∧ P j := ⟨i, rfl, h⟩
theorem z_int1 {i : Int} {P : Int → Prop} {R : Prop} (h : P i) : (∃ j, [V.int i] = [.int j] ∧ P j) ∨ R := .inl ⟨i, rfl, h⟩
theorem z_bk {b : Bool} {P : Bool → Prop} (h : P b) : ∃ k, V.bl b = .bl k ∧ P k := ⟨b, rfl, h⟩
theorem z_I0 {g : Int → Int → V} {i j : Int} (h : Q (g i j) H) : rI0 g (.int i) (.int j) H Q := ⟨i, j, rfl, rfl, h⟩
theorem z_I {C : Int → Int → Prop} {g : Int → Int → V} {i j : Int} (hc : C i j) (h : Q (g i j) H) : rI C g (.int i) (.int j) H Q := ⟨i, j, rfl, rfl, hc, h⟩
theorem z_U {g : Int → V} {i : Int} (h : Q (g i) H) : rU g (.int i) H Q := ⟨i, rfl, h⟩
theorem z_eq (hs : scal x y = true) (h : Q (.bl (decide (x = y))) H) : rEq x y H Q := ⟨hs, h⟩
theorem z_ne (hs : scal x y = true) (h : Q (.bl (!decide (x = y))) H) : rNe x y H Q := ⟨hs, h⟩
theorem z_nx {f : L2.St → Hp → Prop} {a : VK} {b c : L2.St → Hp → Prop} (h : f σ H) : (Ends.mk f a b c).nx σ H := h
theorem z_rt {f : L2.St → Hp → Prop} {a : VK} {b c : L2.St → Hp → Prop} (h : a v H) : (Ends.mk f a b c).rt v H := h
theorem z_bk2 {f : L2.St → Hp → Prop} {a : VK} {b c : L2.St → Hp → Prop} (h : b σ H) : (Ends.mk f a b c).bk σ H := h
theorem z_ct2 {f : L2.St → Hp → Prop} {a : VK} {b c : L2.St → Hp → Prop} (h : c σ H) : (Ends.mk f a b c).ct σ H := h
theorem z_iT {A B : Prop} (h : A) : if true = true then A else B := iteT h
theorem z_iF {A B : Prop} (h : B) : if false = true then A else B := iteF h
theorem z_dec {p : Prop} [Decidable p] {A B : Prop} (h1 : p → A) (h2 : ¬ p → B) : if decide p = true then A else B := by
  by_cases h : p
  · rw [decide_eq_true h]; exact iteT (h1 h)
  · rw [decide_eq_false h]; exact iteF (h2 h)
theorem z_ndec {p : Prop} [Decidable p] {A B : Prop} (h1 : ¬ p → A) (h2 : p → B) : if (!decide p) = true then A else B := by
  by_cases h : p
  · rw [decide_eq_true h]; exact iteF (h2 h)
  · rw [decide_eq_false h]; exact iteT (h1 h)
theorem z_nT {A B : Prop} (h : B) : if (!true) = true then A else B := iteF h
theorem z_nF {A B : Prop} (h : A) : if (!false) = true then A else B := iteT h
theorem z_bool {b : Bool} {A B : Prop} (h1 : b = true → A) (h2 : b = false → B) : if b = true then A else B := by
  cases b
  · exact iteF (h2 rfl)
  · exact iteT (h1 rfl)
end
section
variable {σ : L2.St} {H : Hp} {Q : VK} {D : Ends} {t u : TS} {te ta tb : TE} {tc td : TT} {v x y : V} {i : Nat} {r : R2} {K : PySem.W.Frag}
theorem z_aug {ti : TIp} (h : σ[i]? = some (some x)) (k : te σ H fun y H1 => ti x y H1 fun z H2 => D.nx (σ.set i (some z)) H2) : tAug i te ti D σ H := ⟨x, h, k⟩
theorem z_ipI {f : Int → Int → Int} {i j : Int} (h : Q (.int (f i j)) H) : ipI f (.int i) (.int j) H Q := ⟨i, j, rfl, rfl, h⟩
theorem z_while (W : Nat → L2.St → Hp → Prop) (m0 : Nat) (h0 : W m0 σ H) (hs : ∀ m σ' H', W m σ' H' → tc σ' H' fun b H1 => if b = true then ∃ N : L2.St → Hp → Prop, (∀ σ2 H2, N σ2 H2 → ∃ m', m' < m ∧ W m' σ2 H2) ∧ t { D with nx := N, ct := N, bk := D.nx } σ' H1 else D.nx σ' H1) : tWhile tc t D σ H := ⟨W, ⟨m0, h0⟩, hs⟩
theorem z_again {m : Nat} {W : Nat → L2.St → Hp → Prop} (h : t { D with nx := fun σ2 H2 => ∃ m', m' < m ∧ W m' σ2 H2, ct := fun σ2 H2 => ∃ m', m' < m ∧ W m' σ2 H2, bk := D.nx } σ H) :
    ∃ N : L2.St → Hp → Prop, (∀ σ2 H2, N σ2 H2 → ∃ m', m' < m ∧ W m' σ2 H2) ∧ t { D with nx := N, ct := N, bk := D.nx } σ H := ⟨_, fun _ _ q => q, h⟩
theorem z_for {wi : TI} {g : TG} (h : wi σ H fun J H1 => ∃ W : Nat → Nat → L2.St → Hp → Prop, (∃ m, W 0 m σ H1) ∧ ∀ i m σ H, W i m σ H →
  (J.stop i H ∧ D.nx σ H) ∨ (J.go i H ∧ ∃ N : L2.St → Hp → Prop, (∀ σ' H', N σ' H' → ∃ m', m' < m ∧ W (i + 1) m' σ' H') ∧ ∀ x H', J.yld i H x H' → g x σ H' fun σ2 H2 => t { D with nx := N, ct := N, bk := D.nx } σ2 H2)) : tFor wi g t D σ H := h
theorem z_rng1 {ta : TA} {R : It → Hp → Prop} (h : ta σ H fun vs H1 => ∃ j : Int, vs = [.int j] ∧ -(2 ^ 62) ≤ j ∧ j < 2 ^ 62 ∧ R (Itr 0 j.toNat) H1) : iRng1 ta σ H R := h
theorem z_rng2 {ta : TA} {R : It → Hp → Prop} (h : ta σ H fun vs H1 => ∃ i j : Int, vs = [.int i, .int j] ∧ (-(2 ^ 62) ≤ i ∧ i < 2 ^ 62 ∧ -(2 ^ 62) ≤ j ∧ j < 2 ^ 62) ∧ R (Itr i (j - i).toNat) H1) : iRng2 ta σ H R := h
theorem z_ilist {R : It → Hp → Prop} (h : te σ H fun x H1 => ∃ a, x = .ref a ∧ (∃ xs, SqL K H1 a xs) ∧ R (Itl K a) H1) : iList K te σ H R := h
theorem z_itup {R : It → Hp → Prop} (h : te σ H fun x H1 => ∃ a, x = .ref a ∧ (∃ xs, SqT K H1 a xs) ∧ R (Itt K a) H1) : iTup K te σ H R := h
theorem z_lc {wi : TI} {g : TG} {vs : List Nat} (h : wi σ H fun J H1 => ∀ D, H1 D = none → ∃ W : Nat → Nat → Hp → Prop, (∃ m, W 0 m (upd H1 D (.lst []))) ∧ ∀ i m H, W i m H →
    (J.stop i H ∧ Q (.ref D) H) ∨ (J.go i H ∧ ∃ Nx : Hp → Prop, (∀ H', Nx H' → ∃ m', m' < m ∧ W (i + 1) m' H') ∧ ∀ x H', J.yld i H x H' → g x (wipe σ vs) H' fun σ2 H2 => wipe σ2 vs = wipe σ vs ∧ tc σ2 H2 fun b H3 =>
      if b = true then te σ2 H3 fun y H4 => ∃ acc, H4 D = some (.lst acc) ∧ acc.length < sizeLine ∧ Nx (upd H4 D (.lst (acc ++ [y]))) else Nx H3)) : tLc wi g tc te vs σ H Q := h
end
def rLenA (K : PySem.W.Frag) : List V → Hp → VK → Prop := fun xs H Q => ∃ x n, xs = [x] ∧ LenV K x H n ∧ Q (.int n) H
def rListOf (K : PySem.W.Frag) : List V → Hp → VK → Prop := fun xs H Q => ∃ p ys, xs = [.ref p] ∧ (SqL K H p ys ∨ SqT K H p ys) ∧ ∀ l, H l = none → Q (.ref l) (upd H l (.lst ys))
def rTupleOf (K : PySem.W.Frag) : List V → Hp → VK → Prop := fun xs H Q => ∃ p ys, xs = [.ref p] ∧ ((SqL K H p ys ∧ ∀ l, H l = none → Q (.ref l) (upd H l (.tup ys))) ∨ (SqT K H p ys ∧ Q (.ref p) H))
/-! ### sequences that stand in the heap, a list or a tuple -/
def SqA (H : Hp) (a : Addr) (xs : List V) : Prop := H a = some (.lst xs) ∨ H a = some (.tup xs)
theorem Same.new {H : Hp} {p : Addr} {o : HO} (h : H p = none) : Same H (upd H p o) := fun b u e => by rw [upd_ne (ne_of_none e h)]; exact e
theorem Same.upd {H H' : Hp} {p : Addr} {o : HO} (s : Same H H') (h : H p = none) : Same H (upd H' p o) := fun b u e => by rw [upd_ne (ne_of_none e h)]; exact s b u e
theorem SqA.mono {H H' : Hp} {a : Addr} {xs : List V} (s : Same H H') (h : SqA H a xs) : SqA H' a xs := h.imp (s _ _) (s _ _)
section
variable {H : Hp} {Q : VK} {K : PySem.W.Frag} {a : Addr} {xs : List V}
theorem SqA.len (h : SqA H a xs) : LenV K (.ref a) H xs.length := h.elim (fun h => .inl ⟨xs, SqL.of h, rfl⟩) fun h => .inr ⟨xs, SqT.of h, rfl⟩
theorem SqA.ix {i : Int} {v : V} (h : SqA H a xs) (hi : atI xs i = some v) (q : Q v H) : rIx K (.ref a) (.int i) H Q :=
  h.elim (fun h => .inl ⟨a, xs, i, v, rfl, rfl, SqL.of h, hi, q⟩) fun h => .inr (.inl ⟨a, xs, i, v, rfl, rfl, SqT.of h, hi, q⟩)
theorem SqA.or (h : SqA H a xs) : SqL K H a xs ∨ SqT K H a xs := h.imp SqL.of SqT.of
end
theorem at_int {xs : List V} {z : Int} {v : V} (h0 : 0 ≤ z) (h : xs[z.toNat]? = some v) : atI xs z = some v := at_of (by omega) h
theorem cut_to (xs : List V) (m : Nat) : cutV xs none (some (m : Int)) = xs.take m := by
  unfold cutV
  rw [HT.sIx_none, HT.sIx_nat, List.drop_zero, Nat.sub_zero, ← List.take_take, List.take_length]
theorem at_end {xs : List V} {v : V} (k : Nat) (hk : 1 ≤ k) (hl : k ≤ xs.length) (h : xs[xs.length - k]? = some v) : atI xs (-(k : Int)) = some v := by
  unfold atI ixN
  rw [if_neg (by omega), if_pos (by omega)]
  show xs[(-(k : Int) + (xs.length : Int)).toNat]? = some v
  rw [show (-(k : Int) + (xs.length : Int)).toNat = xs.length - k by omega]
  exact h
theorem cut_but (xs : List V) (h : 1 ≤ xs.length) : cutV xs none (some (-1)) = xs.take (xs.length - 1) := by
  unfold cutV
  rw [HT.sIx_none, List.drop_zero, Nat.sub_zero]
  have e : HT.sIx xs.length xs.length (some (-1)) = (-1 + (xs.length : Int)).toNat := by
    show (if (-1 : Int) < 0 then (-1 + (xs.length : Int)).toNat else min (-1 : Int).toNat xs.length) = _
    rw [if_pos (by decide)]
  rw [e, show (-1 + (xs.length : Int)).toNat = xs.length - 1 by omega]
/-! ### a tuple times 0, 1, .. -/
theorem tuple_mul1W (l : Addr) (items : Array Value) (n : Nat) (dd : Option Addr) (sl : Array (Option Value)) (u : Tok) (hz : items.isEmpty = false) :
    Meets (Builtin.«tuple.__mul__» ⟨[.ref l, .int 1 u], []⟩) (fun _ R s => s.heap.get? l = some { cls := .type "tuple", dict := dd, data := .seq items n, slots := sl } ∧ R (.ok (.ret (Value.ref l))) s) :=
  .of_wp fun prog w A R s h => by
    obtain ⟨hp, g, d, tk, os⟩ := s
    obtain ⟨hl, h⟩ := h
    have f1 := AutoSeq1.idx_int
    wp_walk using wpAny_loadPart' hl
    exact ⟨_, rfl, h⟩
theorem tuple_mul0W (l : Addr) (items : Array Value) (n : Nat) (dd : Option Addr) (sl : Array (Option Value)) (u : Tok) (hz : items.isEmpty = false) :
    Meets (Builtin.«tuple.__mul__» ⟨[.ref l, .int 0 u], []⟩) (fun _ R s => s.heap.get? l = some { cls := .type "tuple", dict := dd, data := .seq items n, slots := sl } ∧
      R (.ok (.ret (Value.ref s.heap.objs.size))) { s with heap := s.heap.push { cls := Value.type "tuple", data := Data.seq #[] }, toks := s.toks }) :=
  .of_wp fun prog w A R s h => by
    obtain ⟨hp, g, d, tk, os⟩ := s
    obtain ⟨hl, h⟩ := h
    have f1 := AutoSeq1.idx_int
    wp_walk using wpAny_loadPart' hl
    exact ⟨_, rfl, h⟩
def rRepA (K : PySem.W.Frag) : R2 := fun x y H Q => ∃ l k xs, x = .ref l ∧ y = .int k ∧ SqT K H l xs ∧ xs ≠ [] ∧ 0 ≤ k ∧ k ≤ 1000 ∧ xs.length ≤ 1000 ∧ (k = 1 → Q (.ref l) H) ∧ (k ≠ 1 → ∀ p, H p = none → Q (.ref p) (upd H p (.tup (List.replicate k.toNat xs).flatten)))
theorem op_repA {X : Cx} : OpR X (binaryOp .Mult) (rRepA X.K) := by
  intro pins s σ H x y v u Q I rx ry h
  obtain ⟨l, k, xs, rfl, rfl, hT, hne, h1, h2, hz, q1, q2⟩ := h
  by_cases hk2 : 2 ≤ k
  · exact op_repT pins s σ H _ _ v u Q I rx ry ⟨l, k, xs, rfl, rfl, hT, hne, hk2, h2, hz, q2 (by omega)⟩
  · cases rx
    obtain ⟨t, rfl⟩ := ry
    obtain ⟨its, r, ⟨⟨cls, dd, data, sl⟩, ho, hc, n, hd⟩, hs⟩ := I.tuple hT
    simp only at hc hd
    subst hc hd
    have hle : its.length = xs.length := r.length.symm
    have hi : its.toArray.isEmpty = false := by
      cases its with
      | nil => exact absurd (List.eq_nil_of_length_eq_zero hle.symm) hne
      | cons a b => rfl
    by_cases hk : k = 1
    · subst hk
      exact wpAny_binaryOp_repeat_ref (T := "tuple") (U := "int") (by decide) ⟨_, ho, rfl⟩ (fun s' => typeIs_int s' 1 t) noFill_tuple_mul F.fills_int_mul F.slot_int_rmul repeat_tuple F.slot_int_index.lookup
        (call_meets F.slot_int_rmul (typeIs_int s 1 t) F.entry_int_rmul (F.args_int_rmul_2 _ _) (int_rmul_tuple 1 t l its.toArray n dd sl)
          ⟨ho, rfl, ⟨_, ho, rfl⟩, call_meets F.slot_tuple_mul ⟨_, ho, rfl⟩ F.entry_tuple_mul (F.args_tuple_mul_2 _ _) (tuple_mul1W l its.toArray n dd sl t hi) ⟨ho, ⟨.ref l, H, I, rfl, q1 rfl⟩⟩⟩)
    · have hk0 : k = 0 := by omega
      subst hk0
      refine wpAny_binaryOp_repeat_ref (T := "tuple") (U := "int") (by decide) ⟨_, ho, rfl⟩ (fun s' => typeIs_int s' 0 t) noFill_tuple_mul F.fills_int_mul F.slot_int_rmul repeat_tuple F.slot_int_index.lookup
        (call_meets F.slot_int_rmul (typeIs_int s 0 t) F.entry_int_rmul (F.args_int_rmul_2 _ _) (int_rmul_tuple 0 t l its.toArray n dd sl)
          ⟨ho, rfl, ⟨_, ho, rfl⟩, call_meets F.slot_tuple_mul ⟨_, ho, rfl⟩ F.entry_tuple_mul (F.args_tuple_mul_2 _ _) (tuple_mul0W l its.toArray n dd sl t hi) ⟨ho, ?_⟩⟩)
      refine ⟨.ref s.heap.objs.size, _, I.laid (t' := s.toks) (o := .tup []) (fun b ob q => Heap.get?_push_of_some _ q) (Nat.le_refl _) ?_, rfl, q2 (by decide) _ (I.hok.fresh (Nat.le_refl _))⟩
      exact ⟨by show 0 ≤ sizeLine; omega, [], .nil, IsTup.new _ _⟩
/-! ### an expression, then the rest, with a word between them -/
def tMid (t : TE) : TE := fun σ H Q => ∃ M : VK, t σ H M ∧ ∀ v H', M v H' → Q v H'
theorem pe_cut {X : Cx} {e : Expr} {t : TE} (h : PE X e t) : PE X e (tMid t) := by
  refine ⟨fun pins s σ H Q I hw => ?_⟩
  obtain ⟨M, h1, h2⟩ := hw
  exact thn (h.run pins s σ H M I h1) fun u s' ⟨v, H', I', r, m⟩ => ⟨v, H', I', r, h2 v H' m⟩
theorem z_mid {σ : L2.St} {H : Hp} {Q : VK} {t : TE} (M : VK) (h1 : t σ H M) (h2 : ∀ v H', M v H' → Q v H') : tMid t σ H Q := ⟨M, h1, h2⟩
def tMidT (t : TT) : TT := fun σ H Q => ∃ M : Bool → Hp → Prop, t σ H M ∧ ∀ v H', M v H' → Q v H'
theorem pt_cut {X : Cx} {e : Expr} {t : TT} (h : PT X e t) : PT X e (tMidT t) := by
  refine ⟨fun pins s σ H Q I hw => ?_⟩
  obtain ⟨M, h1, h2⟩ := hw
  exact thn (h.run pins s σ H M I h1) fun u s' ⟨H', I', m⟩ => ⟨H', I', h2 u H' m⟩
theorem z_midT {σ : L2.St} {H : Hp} {Q : Bool → Hp → Prop} {t : TT} (M : Bool → Hp → Prop) (h1 : t σ H M) (h2 : ∀ v H', M v H' → Q v H') : tMidT t σ H Q := ⟨M, h1, h2⟩
def tMidS (t u : TS) : TS := fun D σ H => ∃ Mid : L2.St → Hp → Prop, t { D with nx := Mid } σ H ∧ ∀ σ' H', Mid σ' H' → u D σ' H'
theorem pss_mid {X : Cx} {st : Stmt} {rest : List Stmt} {t u : TS} (h1 : PS X st t) (h2 : PSs X rest u) : PSs X (st :: rest) (tMidS t u) := C8.pss_cut h1 h2
theorem z_midS {σ : L2.St} {H : Hp} {D : Ends} {t u : TS} (M : L2.St → Hp → Prop) (h1 : t { D with nx := M } σ H) (h2 : ∀ σ' H', M σ' H' → u D σ' H') : tMidS t u D σ H := ⟨M, h1, h2⟩
/-- all but one object stay -/
def SameX (a : Addr) (H H' : Hp) : Prop := ∀ b o, b ≠ a → H b = some o → H' b = some o
theorem SameX.refl (a : Addr) (H : Hp) : SameX a H H := fun _ _ _ h => h
theorem SameX.trans {a : Addr} {H H1 H2 : Hp} (x : SameX a H H1) (y : SameX a H1 H2) : SameX a H H2 := fun b o n h => y b o n (x b o n h)
theorem SameX.of {a : Addr} {H H1 : Hp} (x : Same H H1) : SameX a H H1 := fun b o _ h => x b o h
theorem SameX.self {a : Addr} {H H' : Hp} {o : HO} (x : SameX a H H') : SameX a H (upd H' a o) := fun b u n h => by rw [upd_ne n]; exact x b u n h
theorem SameX.upd {a : Addr} {H H' : Hp} {p : Addr} {o : HO} (x : SameX a H H') (h : H p = none) : SameX a H (upd H' p o) := fun b u n e => by rw [upd_ne (ne_of_none e h)]; exact x b u n e
theorem SameX.same {a : Addr} {H H' : Hp} (x : SameX a H H') (h : H a = none) : Same H H' := fun b o e => x b o (ne_of_none e h) e
local macro_rules | `(tactic| walk_at "z1") => `(tactic| first | (with_reducible refine z_seq ?_) | (with_reducible refine z_asg ?_) | (with_reducible refine z_asgG ?_) | (with_reducible refine z_gsub ?_) | (with_reducible refine z_gname ?_) | (with_reducible refine z_ret ?_) | (with_reducible refine z_retN ?_) | (with_reducible refine z_drop ?_) | (with_reducible refine z_ifS ?_) | (with_reducible refine z_next ?_) | (with_reducible refine z_brk ?_) | (with_reducible refine z_ct ?_) | ((with_reducible refine z_var (v := ?vv) ?hv ?hk); (case hv => rfl)) | (with_reducible refine z_c ?_) | (with_reducible refine z_op ?_) | (with_reducible refine z_un ?_) | (with_reducible refine z_cb ?_) | (with_reducible refine z_nil ?_) | (with_reducible refine z_cons ?_) | (with_reducible refine z_call ?_) | (with_reducible refine z_test ?_) | (with_reducible refine z_tB ?_) | (with_reducible refine z_and ?_) | (with_reducible refine z_or ?_) | (with_reducible refine z_not ?_) | (with_reducible refine z_yes ?_) | (with_reducible refine z_andV ?_) | (with_reducible refine z_orV ?_) | (with_reducible refine z_notV ?_) | (with_reducible refine z_ifE ?_) | (with_reducible refine z_tup ?_) | (with_reducible refine z_lst ?_) | (with_reducible refine z_sl ?_) | (with_reducible refine z_noPart ?_) | (with_reducible refine z_part ?_) | (with_reducible refine z_pk ?_) | (with_reducible refine z_bk ?_) | (with_reducible refine z_int1 ?_) | (with_reducible refine z_I0 ?_) | (with_reducible refine z_U ?_) | (with_reducible refine z_eq rfl ?_) | (with_reducible refine z_ne rfl ?_) | (with_reducible refine z_nx ?_) | (with_reducible refine z_rt ?_) | (with_reducible refine z_bk2 ?_) | (with_reducible refine z_ct2 ?_) | (with_reducible refine z_iT ?_) | (with_reducible refine z_iF ?_) | (with_reducible refine z_nT ?_) | (with_reducible refine z_nF ?_) | ((with_reducible refine z_aug (x := ?vv) ?hv ?hk); (case hv => rfl)) | (with_reducible refine z_ipI ?_) | (with_reducible refine z_for ?_) | (with_reducible refine z_rng1 ?_) | (with_reducible refine z_rng2 ?_) | (with_reducible refine z_ilist ?_) | (with_reducible refine z_itup ?_) | (with_reducible refine z_lc ?_))
local macro_rules | `(tactic| walk_at "zz") => `(tactic| repeat (walk_at "z1"))
example {σ : L2.St} {H : Hp} {Q : VK} (h : Q (.int 3) H) : tOp (rI0 fun i j => .int (i + j)) (tC (.int 1)) (tC (.int 2)) σ H Q := by
  walk_at "zz"
  exact h
/-! rows of truths -/
def plen (r : List Bool) : Nat → Nat
  | 0 => 0
  | n + 1 => if 1 ≤ n ∧ r[n]? = r[n - 1]? then plen r n else n + 1
def plainB (r : List Bool) : List Bool := r.take (plen r r.length)
def bitB (r : List Bool) (k : Nat) : Bool := r.getD (min k (r.length - 1)) false
theorem plen_le (r : List Bool) : ∀ n, plen r n ≤ n
  | 0 => Nat.le_refl _
  | n + 1 => by
    unfold plen
    split
    · exact Nat.le_succ_of_le (plen_le r n)
    · exact Nat.le_refl _
theorem plen_pos (r : List Bool) : ∀ n, 1 ≤ n → 1 ≤ plen r n
  | 0, h => h
  | n + 1, _ => by
    unfold plen
    split
    · rename_i h; exact plen_pos r n h.1
    · omega
theorem plen_same (r : List Bool) : ∀ n, 1 ≤ n → ∀ k, plen r n - 1 ≤ k → k < n → r[k]? = r[plen r n - 1]?
  | 0, h, _, _, _ => absurd h (by decide)
  | n + 1, _, k, h1, h2 => by
    unfold plen at h1 ⊢
    split at h1
    · rename_i h
      rw [if_pos h]
      by_cases hk : k = n
      · subst hk
        rw [h.2]
        exact plen_same r k h.1 (k - 1) (by have := plen_le r k; omega) (by omega)
      · exact plen_same r n h.1 k h1 (by omega)
    · rename_i h
      rw [if_neg h]
      have : k = n := by omega
      subst this
      rfl
theorem plen_edge (r : List Bool) : ∀ n, 2 ≤ plen r n → r[plen r n - 1]? ≠ r[plen r n - 2]?
  | 0, h => by simp [plen] at h
  | n + 1, h => by
    unfold plen at h ⊢
    split at h
    · rename_i q
      rw [if_pos q]
      exact plen_edge r n h
    · rename_i q
      rw [if_neg q]
      intro e
      exact q ⟨by omega, by simpa using e⟩
theorem plain_len (r : List Bool) : (plainB r).length = plen r r.length := by
  unfold plainB
  rw [List.length_take]
  have := plen_le r r.length
  omega
theorem plain_get (r : List Bool) (k : Nat) (h : k < plen r r.length) : (plainB r)[k]? = r[k]? := by
  unfold plainB
  rw [List.getElem?_take_of_lt h]
theorem bit_get (r : List Bool) (k : Nat) (h : r ≠ []) : r[min k (r.length - 1)]? = some (bitB r k) := by
  have hp : 0 < r.length := List.length_pos_iff.mpr h
  unfold bitB
  rw [List.getD_eq_getElem?_getD]
  have : min k (r.length - 1) < r.length := by omega
  rw [List.getElem?_eq_getElem this]
  rfl
theorem plain_ne (r : List Bool) (h : r ≠ []) : plainB r ≠ [] := by
  have hp : 0 < r.length := List.length_pos_iff.mpr h
  have := plen_pos r r.length hp
  intro e
  have l := plain_len r
  rw [e] at l
  simp at l
  omega
theorem bit_plain (r : List Bool) (h : r ≠ []) (k : Nat) : bitB (plainB r) k = bitB r k := by
  have hp : 0 < r.length := List.length_pos_iff.mpr h
  have h1 := plen_pos r r.length hp
  have h2 := plen_le r r.length
  have e1 := bit_get (plainB r) k (plain_ne r h)
  have e2 := bit_get r k h
  rw [plain_len, plain_get r _ (by omega)] at e1
  have e3 : r[min k (plen r r.length - 1)]? = r[min k (r.length - 1)]? := by
    by_cases hk : k < plen r r.length - 1
    · rw [Nat.min_eq_left (by omega), Nat.min_eq_left (by omega)]
    · rw [Nat.min_eq_right (by omega)]
      exact (plen_same r r.length hp (min k (r.length - 1)) (by omega) (by omega)).symm
  rw [e3, e2] at e1
  exact (Option.some.inj e1).symm
/-- all from a level on -/
def fromOn (r : List Bool) (l n : Nat) : Bool := (List.range n).all fun i => bitB r (l + i)
def lastB (r : List Bool) : Bool := r.getD (r.length - 1) false
theorem bit_late (r : List Bool) (h : r ≠ []) (k : Nat) (hk : plen r r.length - 1 ≤ k) : bitB r k = lastB (plainB r) := by
  have hp : 0 < r.length := List.length_pos_iff.mpr h
  have h1 := plen_pos r r.length hp
  have h2 := plen_le r r.length
  rw [← bit_plain r h k]
  unfold bitB lastB
  rw [plain_len, Nat.min_eq_right hk]
theorem bit_edge (r : List Bool) (h : r ≠ []) (h2 : 2 ≤ plen r r.length) : bitB r (plen r r.length - 2) = !lastB (plainB r) := by
  have hp : 0 < r.length := List.length_pos_iff.mpr h
  have hl := plen_le r r.length
  have e := plen_edge r r.length h2
  have a := bit_get r (plen r r.length - 2) h
  have b := bit_get r (plen r r.length - 1) h
  rw [Nat.min_eq_left (by omega)] at a b
  rw [bit_late r h (plen r r.length - 1) (Nat.le_refl _)] at b
  rw [a, b] at e
  cases q : bitB r (plen r r.length - 2) <;> cases q2 : lastB (plainB r) <;> simp_all
/-- the levels from which on it is true -/
theorem sure_true (r : List Bool) (h : r ≠ []) (hl : lastB (plainB r) = true) (l : Nat) (hl2 : l < 31) (hz : r.length ≤ 30) : fromOn r l (40 - l) = decide (plen r r.length - 1 ≤ l) := by
  have hp : 0 < r.length := List.length_pos_iff.mpr h
  have h1 := plen_pos r r.length hp
  have h2 := plen_le r r.length
  by_cases q : plen r r.length - 1 ≤ l
  · rw [decide_eq_true q]
    unfold fromOn
    rw [List.all_eq_true]
    intro i _
    rw [bit_late r h (l + i) (by omega), hl]
  · rw [decide_eq_false q]
    unfold fromOn
    rw [List.all_eq_false]
    refine ⟨plen r r.length - 2 - l, List.mem_range.mpr (by omega), ?_⟩
    rw [show l + (plen r r.length - 2 - l) = plen r r.length - 2 by omega, bit_edge r h (by omega), hl]
    simp
theorem sure_false (r : List Bool) (h : r ≠ []) (hl : lastB (plainB r) = false) (l : Nat) (hl2 : l < 31) (hz : r.length ≤ 30) : fromOn r l (40 - l) = false := by
  have h2 := plen_le r r.length
  unfold fromOn
  rw [List.all_eq_false]
  refine ⟨39 - l, List.mem_range.mpr (by omega), ?_⟩
  rw [show l + (39 - l) = 39 by omega, bit_late r h 39 (by omega), hl]
  simp
theorem filt_from (m : Nat) : ∀ n, (List.range n).filter (fun l => decide (m ≤ l)) = (List.range' m (n - m))
  | 0 => by simp
  | n + 1 => by
    rw [List.range_succ, List.filter_append, filt_from m n]
    by_cases h : m ≤ n
    · rw [show n + 1 - m = (n - m) + 1 by omega, List.range'_concat]
      simp [h]
    · rw [show n - m = 0 by omega, show n + 1 - m = 0 by omega]
      simp [h]
def sureL (r : List Bool) : List Nat := (List.range 31).filter fun l => fromOn r l (40 - l)
theorem sure_head (r : List Bool) (h : r ≠ []) (hz : r.length ≤ 30) : (sureL r).head? = if lastB (plainB r) = true then some ((plainB r).length - 1) else none := by
  have hp : 0 < r.length := List.length_pos_iff.mpr h
  have h2 := plen_le r r.length
  unfold sureL
  cases hl : lastB (plainB r) with
  | true =>
    rw [List.filter_congr (q := fun l => decide (plen r r.length - 1 ≤ l)) (fun l hm => sure_true r h hl l (List.mem_range.mp hm) hz), filt_from, if_pos rfl, plain_len]
    rw [show 31 - (plen r r.length - 1) = (31 - (plen r r.length - 1) - 1) + 1 by omega, List.range'_succ]
    rfl
  | false =>
    rw [List.filter_congr (q := fun l => false) (fun l hm => sure_false r h hl l (List.mem_range.mp hm) hz)]
    simp
def top (i : Nat) : Stmt := PySem.Challenge.pw_boxfall_k07_plain_rows.main.body.getD i (.Pass ⟨0, 0, 0, 0⟩)
abbrev s_plain : Stmt := top 1
theorem sc_plain : FnScope ["row", "many"] ["row"] (defScope s_plain) := ⟨rfl, rfl, rfl, by decide +kernel, rfl, by decide +kernel, by decide +kernel⟩
abbrev s_height : Stmt := top 2
theorem sc_height : FnScope ["row", "short"] ["row"] (defScope s_height) := ⟨rfl, rfl, rfl, by decide +kernel, rfl, by decide +kernel, by decide +kernel⟩
abbrev s_law_stream : Stmt := top 4
theorem sc_law_stream : FnScope ["_law_script", "_law_k", "_law_cell"] ["_law_script", "_law_k"] (defScope s_law_stream) := ⟨rfl, rfl, rfl, by decide +kernel, rfl, by decide +kernel, by decide +kernel⟩
abbrev s_law_draw : Stmt := top 5
theorem sc_law_draw : FnScope ["_law_stream_here", "_law_many", "_law_digit", "_law_spread"] ["_law_stream_here", "_law_many"] (defScope s_law_draw) := ⟨rfl, rfl, rfl, by decide +kernel, rfl, by decide +kernel, by decide +kernel⟩
abbrev s_law_row : Stmt := top 6
theorem sc_law_row : FnScope ["_law_stream_here", "_law_most", "_law_k"] ["_law_stream_here", "_law_most"] (defScope s_law_row) := ⟨rfl, rfl, rfl, by decide +kernel, rfl, by decide +kernel, by decide +kernel⟩
abbrev s_law_bit : Stmt := top 7
theorem sc_law_bit : FnScope ["_law_row_here", "_law_level"] ["_law_row_here", "_law_level"] (defScope s_law_bit) := ⟨rfl, rfl, rfl, by decide +kernel, rfl, by decide +kernel, by decide +kernel⟩
abbrev s_law_plain : Stmt := top 8
theorem sc_law_plain : FnScope ["_law_row_here"] ["_law_row_here"] (defScope s_law_plain) := ⟨rfl, rfl, rfl, by decide +kernel, rfl, by decide +kernel, by decide +kernel⟩
abbrev s_law : Stmt := top 9
theorem sc_law : FnScope ["_law_script", "_law_turn", "_law_stream_here", "_law_row_here", "_law_handed", "_law_found", "_law_level", "_law_sure", "_law_k"] ["_law_script"] (defScope s_law) := ⟨rfl, rfl, rfl, by decide +kernel, rfl, by decide +kernel, by decide +kernel⟩
structure Txt (K : PySem.W.Frag) (mg : Str → Option Value) : Prop where
  n_len : mg "len" = none
  n_range : mg "range" = none
  n_abs : mg "abs" = none
  n_min : mg "min" = none
  n_all : mg "all" = none
  n_isinstance : mg "isinstance" = none
  n_int : mg "int" = none
  n_list : mg "list" = none
  n_tuple : mg "tuple" = none
  n_bool : mg "bool" = none
  f_plain : Dfn K mg "plain" s_plain
  f_height : Dfn K mg "height" s_height
  f_law_stream : Dfn K mg "_law_stream" s_law_stream
  f_law_draw : Dfn K mg "_law_draw" s_law_draw
  f_law_row : Dfn K mg "_law_row" s_law_row
  f_law_bit : Dfn K mg "_law_bit" s_law_bit
  f_law_plain : Dfn K mg "_law_plain" s_law_plain
  f_law : Dfn K mg "law" s_law
theorem bd_plain : Bnd "plain" s_plain ["row"] := fun _ _ _ _ _ _ us hl => match us, hl with | [_], _ => rfl
theorem bd_height : Bnd "height" s_height ["row"] := fun _ _ _ _ _ _ us hl => match us, hl with | [_], _ => rfl
theorem bd_law_stream : Bnd "_law_stream" s_law_stream ["_law_script", "_law_k"] := fun _ _ _ _ _ _ us hl => match us, hl with | [_, _], _ => rfl
theorem bd_law_draw : Bnd "_law_draw" s_law_draw ["_law_stream_here", "_law_many"] := fun _ _ _ _ _ _ us hl => match us, hl with | [_, _], _ => rfl
theorem bd_law_row : Bnd "_law_row" s_law_row ["_law_stream_here", "_law_most"] := fun _ _ _ _ _ _ us hl => match us, hl with | [_, _], _ => rfl
theorem bd_law_bit : Bnd "_law_bit" s_law_bit ["_law_row_here", "_law_level"] := fun _ _ _ _ _ _ us hl => match us, hl with | [_, _], _ => rfl
theorem bd_law_plain : Bnd "_law_plain" s_law_plain ["_law_row_here"] := fun _ _ _ _ _ _ us hl => match us, hl with | [_], _ => rfl
theorem bd_law : Bnd "law" s_law ["_law_script"] := fun _ _ _ _ _ _ us hl => match us, hl with | [_], _ => rfl
/-! ### rows as data -/
theorem dpAll_bl {K : PySem.W.Frag} {H : Hp} : ∀ r : List Bool, DpAll K H (r.map V.bl) (r.map PyData.bool)
  | [] => .nil
  | b :: r => .cons (.bl b) (dpAll_bl r)
theorem shapedAll_bl : ∀ r : List Bool, PyData.canLayAll0 (r.map PyData.bool) = true ∧ PyData.depthAll (r.map PyData.bool) = 0
  | [] => ⟨rfl, rfl⟩
  | b :: r => by
    obtain ⟨h1, h2⟩ := shapedAll_bl r
    refine ⟨?_, ?_⟩
    · show (PyData.canLay0 (.bool b) && PyData.canLayAll0 (r.map PyData.bool)) = true
      rw [h1]; rfl
    · show max (PyData.depth (.bool b)) (PyData.depthAll (r.map PyData.bool)) = 0
      rw [h2]; rfl
theorem shaped_tbl (r : List Bool) : SeqAt.shaped (.tuple (r.map PyData.bool)) = true := by
  show (PyData.canLayAll0 (r.map PyData.bool) && decide (PyData.depthAll (r.map PyData.bool) + 1 ≤ 64)) = true
  rw [(shapedAll_bl r).1, (shapedAll_bl r).2]; rfl
theorem shaped_lbl (r : List Bool) : SeqAt.shaped (.list (r.map PyData.bool)) = true := shaped_tbl r
theorem eqv_same {d : PyData} (h : SeqAt.shaped d = true) : PyData.eqv d d = true := SeqAt.eqv_refl d (SeqAt.canLay_of_shaped h)
/-- != of the same data is False -/
theorem ne_same {K : PySem.W.Frag} {H : Hp} {Q : VK} {x y : V} {d : PyData} (hx : Dp K H x d) (hy : Dp K H y d) (hs : SeqAt.shaped d = true) (q : Q (.bl false) H) : rNeD K x y H Q :=
  ⟨d, d, hx, hy, hs, hs, by rw [eqv_same hs]; exact q⟩
theorem eq_same {K : PySem.W.Frag} {H : Hp} {Q : VK} {x y : V} {d : PyData} (hx : Dp K H x d) (hy : Dp K H y d) (hs : SeqAt.shaped d = true) (q : Q (.bl true) H) : rEqD K x y H Q :=
  ⟨d, d, hx, hy, hs, hs, by rw [eqv_same hs]; exact q⟩
theorem dpAll_int {K : PySem.W.Frag} {H : Hp} : ∀ r : List Int, DpAll K H (r.map V.int) (r.map PyData.int)
  | [] => .nil
  | b :: r => .cons (.int b) (dpAll_int r)
theorem shapedAll_int : ∀ r : List Int, PyData.canLayAll0 (r.map PyData.int) = true ∧ PyData.depthAll (r.map PyData.int) = 0
  | [] => ⟨rfl, rfl⟩
  | b :: r => by
    obtain ⟨h1, h2⟩ := shapedAll_int r
    refine ⟨?_, ?_⟩
    · show (PyData.canLay0 (.int b) && PyData.canLayAll0 (r.map PyData.int)) = true
      rw [h1]; rfl
    · show max (PyData.depth (.int b)) (PyData.depthAll (r.map PyData.int)) = 0
      rw [h2]; rfl
theorem shaped_lint (r : List Int) : SeqAt.shaped (.list (r.map PyData.int)) = true := by
  show (PyData.canLayAll0 (r.map PyData.int) && decide (PyData.depthAll (r.map PyData.int) + 1 ≤ 64)) = true
  rw [(shapedAll_int r).1, (shapedAll_int r).2]; rfl
section
variable {P : Program} {w : World} {K : PySem.W.Frag} {mg : Str → Option Value} {base : Heap}
def spPlain : Sp := fun vs H Q _ => ∃ (a : Addr) (r : List Bool), vs = [.ref a] ∧ SqA H a (r.map V.bl) ∧ r ≠ [] ∧ r.length ≤ 1000 ∧ ∀ p H', Same H H' → H' p = some (.tup ((plainB r).map V.bl)) → Q (.ref p) H'
theorem bget {r : List Bool} {k : Nat} (h : k < r.length) : ∃ b, r[k]? = some b ∧ (r.map V.bl)[k]? = some (V.bl b) := ⟨r[k], List.getElem?_eq_getElem h, by rw [List.getElem?_map, List.getElem?_eq_getElem h]; rfl⟩
theorem plain_out {H : Hp} {a : Addr} {r : List Bool} {m : Nat} {Q : VK} (hS : SqA H a (r.map V.bl)) (h1 : 1 ≤ m) (h2 : m ≤ r.length) (e : plen r r.length = m) (k : ∀ p H', Same H H' → H' p = some (.tup ((plainB r).map V.bl)) → Q (.ref p) H') :
    rSlL K (.ref a) none (some (m : Int)) H (fun x H1 => ∃ p ys, [x] = [V.ref p] ∧ ((SqL K H1 p ys ∧ ∀ l, H1 l = none → Q (.ref l) (upd H1 l (.tup ys))) ∨ (SqT K H1 p ys ∧ Q (.ref p) H1))) ∨
    rSlA K (.ref a) none (some (m : Int)) H (fun x H1 => ∃ p ys, [x] = [V.ref p] ∧ ((SqL K H1 p ys ∧ ∀ l, H1 l = none → Q (.ref l) (upd H1 l (.tup ys))) ∨ (SqT K H1 p ys ∧ Q (.ref p) H1))) := by
  have ec : cutV (r.map V.bl) none (some (m : Int)) = (plainB r).map V.bl := by
    rw [cut_to, ← List.map_take]
    unfold plainB
    rw [e]
  rcases hS with hS | hS
  · refine .inl ⟨a, _, rfl, SqL.of hS, fun p hp => ⟨p, _, rfl, .inl ⟨SqL.of upd_same, fun l hl => ?_⟩⟩⟩
    refine k l _ (Same.trans (Same.new hp) (Same.new hl)) ?_
    rw [upd_same, ec]
  · refine .inr ⟨a, _, rfl, SqT.of hS, fun hw => ⟨a, _, rfl, .inr ⟨SqT.of hS, ?_⟩⟩, fun hw p hp => ⟨p, _, rfl, .inr ⟨SqT.of upd_same, ?_⟩⟩⟩
    · refine k a H (Same.refl H) ?_
      rw [hS]
      have e2 : m = r.length := by
        have q := hw.2
        rw [HT.sIx_nat, List.length_map] at q
        omega
      unfold plainB
      rw [e, e2, List.take_length]
    · rw [ec]
      exact k p _ (Same.new hp) upd_same
theorem ok_plain (T : Txt K mg) : Cal P w K mg base 1 "plain" spPlain := by
  refine cal_mk T.f_plain bd_plain sc_plain (fun vs H Q E h => ?_) (fun f cdv A outer s H vs Q E hr h => ?_)
  · obtain ⟨a, r, rfl, _⟩ := h; rfl
  · obtain ⟨a, r, rfl, hS, hne, hle, k⟩ := h
    have hp : 0 < r.length := List.length_pos_iff.mpr hne
    refine ⟨_, (pss_cons (ps_set (i := 1) sc_plain.nd rfl (Or.inl rfl) (pe_callB call_len (by rfl) T.n_len (by decide +kernel) (pa_cons (pv 0) pa_nil)))
      (pss_cons (ps_while PassesOwn.never (PW.pt (pw_and (pt_cmpR op_gt (pv 1) pe_int (nomark _)) (pw_and1 (pt_cmpR op_eq (pe_ix ix_seq (pv 0) (pe_op op_sub (pv 1) pe_int) (fun _ _ => rfl)) (pe_ix ix_seq (pv 0) (pe_op op_sub (pv 1) pe_int) (fun _ _ => rfl)) (nomark _))))) (pss_one (ps_aug (i := 1) sc_plain.nd rfl (Or.inl rfl) pe_int ip_sub)))
      (pss_one (ps_ret (pe_callTy call_tuple_of (by rfl) T.n_tuple (by decide +kernel) (pa_cons (pe_slice (sl_or sl_list sl_tupA) (pv 0) po_none (po_some (pv 1))) pa_nil)))))), ?_⟩
    walk_at "zz"
    refine ⟨_, _, rfl, hS.len, ?_⟩
    walk_at "zz"
    refine z_while (fun m σ' H' => 1 ≤ m ∧ m ≤ r.length ∧ σ' = [some (.ref a), some (.int (m : Int))] ∧ H' = H ∧ plen r r.length = plen r m) r.length ⟨hp, Nat.le_refl _, by rw [List.length_map]; rfl, rfl, rfl⟩ ?_
    rintro m σ' H' ⟨h1, h2, rfl, rfl, e⟩
    walk_at "zz"
    refine z_dec (fun hm => ?_) (fun hm => ?_)
    · obtain ⟨b1, r1, v1⟩ := bget (r := r) (k := m - 1) (by omega)
      obtain ⟨b2, r2, v2⟩ := bget (r := r) (k := m - 2) (by omega)
      walk_at "zz"
      refine hS.ix (at_int (by omega) (by rw [show ((m : Int) - 1).toNat = m - 1 by omega]; exact v1)) ?_
      walk_at "zz"
      refine hS.ix (at_int (by omega) (by rw [show ((m : Int) - 2).toNat = m - 2 by omega]; exact v2)) ?_
      walk_at "zz"
      refine z_dec (fun hb => ?_) (fun hb => ?_)
      · refine z_again ?_
        walk_at "zz"
        obtain ⟨n, rfl⟩ : ∃ n, m = n + 1 := ⟨m - 1, by omega⟩
        refine ⟨n, by omega, by omega, by omega, by show _ = _; rw [show (n : Int) = ((n + 1 : Nat) : Int) - 1 by omega]; rfl, rfl, ?_⟩
        rw [e]
        have hb' : b1 = b2 := V.bl.inj hb
        show (if 1 ≤ n ∧ r[n]? = r[n - 1]? then plen r n else n + 1) = _
        rw [if_pos ⟨by omega, by rw [show n = n + 1 - 1 by omega, r1, show n + 1 - 1 - 1 = n + 1 - 2 by omega, r2, hb']⟩]
      · walk_at "zz"
        refine plain_out hS h1 h2 ?_ k
        rw [e]
        obtain ⟨n, rfl⟩ : ∃ n, m = n + 1 := ⟨m - 1, by omega⟩
        show (if 1 ≤ n ∧ r[n]? = r[n - 1]? then plen r n else n + 1) = _
        rw [if_neg fun q => hb ?_]
        have q2 := q.2
        rw [show n = n + 1 - 1 by omega, r1, show n + 1 - 1 - 1 = n + 1 - 2 by omega, r2] at q2
        rw [Option.some.inj q2]
    · walk_at "zz"
      refine plain_out hS h1 h2 ?_ k
      have : m = 1 := by omega
      subst this
      rw [e]
      rfl
def spHeight : Sp := fun vs H Q _ => ∃ (a : Addr) (r : List Bool), vs = [.ref a] ∧ SqA H a (r.map V.bl) ∧ r ≠ [] ∧ r.length ≤ 1000 ∧ ∀ H', Same H H' → Q (if lastB (plainB r) = true then .int (((plainB r).length - 1 : Nat) : Int) else .non) H'
theorem ok_height (T : Txt K mg) : Cal P w K mg base 2 "height" spHeight := by
  have C_plain : Cal P w K mg base 1 "plain" spPlain := ok_plain T
  refine cal_mk T.f_height bd_height sc_height (fun vs H Q E h => ?_) (fun f cdv A outer s H vs Q E hr h => ?_)
  · obtain ⟨a, r, rfl, _⟩ := h; rfl
  · obtain ⟨a, r, rfl, hS, hne, hle, k⟩ := h
    refine ⟨_, (pss_cons (ps_set (i := 1) sc_height.nd rfl (Or.inl rfl) (pe_cl C_plain hr (by decide) rfl (pa_cons (pv 0) pa_nil)))
      (pss_one (ps_ret (pe_ifExp (pt_val (pe_ix ix_tup (pv 1) (pe_un un_neg pe_int) (fun _ _ => rfl))) (pe_op op_sub (pe_callB call_len (by rfl) T.n_len (by decide +kernel) (pa_cons (pv 1) pa_nil)) pe_int) pe_non)))), ?_⟩
    walk_at "zz"
    refine ⟨a, r, rfl, hS, hne, hle, fun p H' hs hp => ?_⟩
    have hn := plain_ne r hne
    have hl : 0 < (plainB r).length := List.length_pos_iff.mpr hn
    walk_at "zz"
    obtain ⟨b, r1, v1⟩ := bget (r := plainB r) (k := (plainB r).length - 1) (by omega)
    refine ⟨p, _, _, V.bl b, rfl, rfl, SqT.of hp, at_end 1 (Nat.le_refl _) (by rw [List.length_map]; exact hl) (by rw [List.length_map]; exact v1), ?_⟩
    have eb : lastB (plainB r) = b := by unfold lastB; rw [List.getD_eq_getElem?_getD, r1]; rfl
    have k2 := k H' hs
    rw [eb] at k2
    walk_at "zz"
    refine z_bool (fun hb => ?_) (fun hb => ?_)
    · walk_at "zz"
      refine ⟨_, _, rfl, .inr ⟨_, SqT.of hp, rfl⟩, ?_⟩
      walk_at "zz"
      rw [if_pos hb] at k2
      rw [List.length_map, show ((plainB r).length : Int) - 1 = (((plainB r).length - 1 : Nat) : Int) by omega]
      exact k2
    · walk_at "zz"
      rw [hb, if_neg (by decide)] at k2
      exact k2
/-- a stream of draws stands at a; z draws were made beyond its digits -/
def StrAt (H : Hp) (a : Addr) (z : Nat) : Prop := ∃ x y : Int, H a = some (.lst [.int x, .int y, .int (z : Int)]) ∧ 0 ≤ x ∧ 0 ≤ y ∧ y < 2 ^ 40
theorem StrAt.mono {H H' : Hp} {a : Addr} {z : Nat} (s : Same H H') (h : StrAt H a z) : StrAt H' a z := by
  obtain ⟨x, y, e, h⟩ := h
  exact ⟨x, y, s _ _ e, h⟩
theorem StrAt.upd {H : Hp} {a p : Addr} {o : HO} {z : Nat} (h : StrAt H a z) (n : a ≠ p) : StrAt (L2.upd H p o) a z := by
  obtain ⟨x, y, e, h⟩ := h
  exact ⟨x, y, by rw [upd_ne n]; exact e, h⟩
theorem StrAt.new {H : Hp} {a p : Addr} {o : HO} {z : Nat} (h : StrAt H a z) (n : H p = none) : StrAt (L2.upd H p o) a z := h.mono (Same.new n)
theorem StrAt.ne {H : Hp} {a p : Addr} {z : Nat} (h : StrAt H a z) (n : H p = none) : p ≠ a := by
  obtain ⟨x, y, e, _⟩ := h
  exact (ne_of_none e n).symm
theorem StrAt.ne_tup {H : Hp} {a p : Addr} {z : Nat} {xs : List V} (h : StrAt H a z) (n : H p = some (.tup xs)) : p ≠ a := by
  obtain ⟨x, y, e, _⟩ := h
  exact ne_of n e (by intro q; cases q)
def spStream (K : PySem.W.Frag) : Sp := fun vs H Q _ => ∃ (a : Addr) (ns : List Int) (k : Int), vs = [.ref a, .int k] ∧ SqL K H a (ns.map V.int) ∧ 0 ≤ k ∧ k ≤ 1000 ∧ ∀ p H', H p = none → Same H H' → StrAt H' p 0 → Q (.ref p) H'
theorem ok_stream (T : Txt K mg) : Cal P w K mg base 1 "_law_stream" (spStream K) := by
  refine cal_mk T.f_law_stream bd_law_stream sc_law_stream (fun vs H Q E h => ?_) (fun f cdv A outer s H vs Q E hr h => ?_)
  · obtain ⟨a, ns, k, rfl, _⟩ := h; rfl
  · obtain ⟨a, ns, k, rfl, hS, h0, hk, q⟩ := h
    refine ⟨_, (pss_cons (ps_set (i := 2) sc_law_stream.nd rfl (Or.inl rfl) (pe_cut (pe_ifExp (pt_cmpR op_lt (pv 1) (pe_callB call_len (by rfl) T.n_len (by decide +kernel) (pa_cons (pv 0) pa_nil)) (nomark _)) (pe_callB call_abs (by rfl) T.n_abs (by decide +kernel) (pa_cons (pe_ix ix_list (pv 0) (pv 1) (fun _ _ => rfl)) pa_nil)) pe_int)))
      (pss_one (ps_ret (pe_lst (pa_cons (pe_cut (pe_ifExp (pt_cmpR op_ge (pv 2) (pe_op op_pow pe_int pe_int) (nomark _)) (pv 2) pe_int)) (pa_cons (pe_op op_add (pe_op op_mod (pe_callTy call_int1 (by rfl) T.n_int (by decide +kernel) (pa_cons (pv 2) pa_nil)) pe_int) (pe_op op_mul pe_int (pv 1))) (pa_cons pe_int pa_nil))))))), ?_⟩
    walk_at "zz"
    refine z_mid (fun v H' => ∃ c : Int, 0 ≤ c ∧ v = .int c ∧ H = H') ?_ ?_
    · walk_at "zz"
      refine ⟨_, _, rfl, .inl ⟨_, hS, rfl⟩, ?_⟩
      walk_at "zz"
      refine z_dec (fun hl => ?_) (fun hl => ?_)
      · rw [List.length_map] at hl
        walk_at "zz"
        refine ⟨a, _, _, V.int (ns[k.toNat]'(by omega)), rfl, rfl, hS, at_int h0 (by rw [List.getElem?_map, List.getElem?_eq_getElem (by omega)]; rfl), ?_⟩
        walk_at "zz"
        refine ⟨_, rfl, _, ?_, rfl, rfl⟩
        split <;> omega
      · walk_at "zz"
        exact ⟨0, by omega, rfl, rfl⟩
    · rintro _ _ ⟨c, hc, rfl, rfl⟩
      walk_at "zz"
      refine z_mid (fun v H' => ∃ x : Int, 0 ≤ x ∧ v = .int x ∧ H = H') ?_ ?_
      · walk_at "zz"
        refine z_I ⟨by decide, by decide, by decide⟩ ?_
        walk_at "zz"
        refine z_dec (fun hl => ?_) (fun hl => ?_)
        · walk_at "zz"
          exact ⟨c, hc, rfl, rfl⟩
        · walk_at "zz"
          exact ⟨0, by omega, rfl, rfl⟩
      · rintro _ _ ⟨x, hx, rfl, rfl⟩
        walk_at "zz"
        refine z_I (by decide) ?_
        walk_at "zz"
        refine z_I (.inl ⟨by decide, by decide⟩) ?_
        walk_at "zz"
        refine ⟨by show 3 ≤ sizeLine; decide, fun p hp => q p _ hp (Same.new hp) ⟨x, c % 2147483647 + 31 * k, upd_same, hx, ?_, ?_⟩⟩
        · have := Int.emod_nonneg c (show (2147483647 : Int) ≠ 0 by decide)
          omega
        · have := Int.emod_lt_of_pos c (show (0 : Int) < 2147483647 by decide)
          omega
def spDraw : Sp := fun vs H Q _ => ∃ (a : Addr) (m : Int) (z : Nat), vs = [.ref a, .int m] ∧ StrAt H a z ∧ 0 < m ∧ m < 2 ^ 30 ∧ z < 2 ^ 40 ∧
  ∀ (d : Nat) (z' : Nat) (o : HO), (d : Int) < m → z' ≤ z + 1 → StrAt (upd H a o) a z' → Q (.int (d : Int)) (upd H a o)
theorem ok_draw (T : Txt K mg) : Cal P w K mg base 1 "_law_draw" spDraw := by
  refine cal_mk T.f_law_draw bd_law_draw sc_law_draw (fun vs H Q E h => ?_) (fun f cdv A outer s H vs Q E hr h => ?_)
  · obtain ⟨a, m, z, rfl, _⟩ := h; rfl
  · obtain ⟨a, m, z, rfl, ⟨x, y, e, hx, hy, hy2⟩, hm0, hm, hz, q⟩ := h
    have em : ∀ n : Int, ∃ d : Nat, n % m = (d : Int) ∧ (d : Int) < m := fun n => ⟨(n % m).toNat, by have := Int.emod_nonneg n (show m ≠ 0 by omega); omega, by have := Int.emod_nonneg n (show m ≠ 0 by omega); have := Int.emod_lt_of_pos n hm0; omega⟩
    refine ⟨_, (pss_cons (ps_if (pt_cmpR op_gt (pe_ix ix_list (pv 0) pe_int (fun _ _ => rfl)) pe_int (nomark _)) (pss_cons (ps_set (i := 2) sc_law_draw.nd rfl (Or.inl rfl) (pe_op op_mod (pe_callTy call_int1 (by rfl) T.n_int (by decide +kernel) (pa_cons (pe_ix ix_list (pv 0) pe_int (fun _ _ => rfl)) pa_nil)) (pv 1)))
      (pss_cons (ps_asg (pe_op op_fdiv (pe_ix ix_list (pv 0) pe_int (fun _ _ => rfl)) (pv 1)) (pg_sub (pv 0) pe_int set_list))
      (pss_one (ps_ret (pv 2))))) pss_nil)
      (pss_cons (ps_asg (pe_op op_add (pe_ix ix_list (pv 0) pe_int (fun _ _ => rfl)) pe_int) (pg_sub (pv 0) pe_int set_list))
      (pss_cons (ps_set (i := 3) sc_law_draw.nd rfl (Or.inl rfl) (pe_op op_mod (pe_op op_pow (pe_callTy call_int1 (by rfl) T.n_int (by decide +kernel) (pa_cons (pe_op op_add (pe_op op_add (pe_ix ix_list (pv 0) pe_int (fun _ _ => rfl)) (pe_op op_mul pe_int (pe_ix ix_list (pv 0) pe_int (fun _ _ => rfl)))) pe_int) pa_nil)) pe_int) pe_int))
      (pss_one (ps_ret (pe_op op_mod (pe_op op_fdiv (pe_op op_mod (pe_callTy call_int1 (by rfl) T.n_int (by decide +kernel) (pa_cons (pe_op op_mul (pe_op op_add (pv 3) (pe_ix ix_list (pv 0) pe_int (fun _ _ => rfl))) pe_int) pa_nil)) pe_int) pe_int) (pv 1))))))), ?_⟩
    walk_at "zz"
    refine ⟨a, _, _, V.int x, rfl, rfl, SqL.of e, rfl, ?_⟩
    walk_at "zz"
    refine z_dec (fun hl => ?_) (fun hl => ?_)
    · walk_at "zz"
      refine ⟨a, _, _, V.int x, rfl, rfl, SqL.of e, rfl, ?_⟩
      walk_at "zz"
      refine z_I hm0 ?_
      walk_at "zz"
      refine ⟨a, _, _, V.int x, rfl, rfl, SqL.of e, rfl, ?_⟩
      walk_at "zz"
      refine z_I ⟨hm0, hm⟩ ?_
      walk_at "zz"
      refine ⟨a, _, _, 0, rfl, rfl, e, rfl, ?_⟩
      walk_at "zz"
      obtain ⟨d, ed, hd⟩ := em x
      rw [ed]
      exact q d z _ hd (by omega) ⟨x / m, y, upd_same, Int.ediv_nonneg hx (by omega), hy, hy2⟩
    · walk_at "zz"
      refine ⟨a, _, _, V.int (z : Int), rfl, rfl, SqL.of e, rfl, ?_⟩
      walk_at "zz"
      refine ⟨a, _, _, 2, rfl, rfl, e, rfl, ?_⟩
      walk_at "zz"
      refine ⟨a, _, _, V.int y, rfl, rfl, SqL.of upd_same, rfl, ?_⟩
      walk_at "zz"
      refine ⟨a, _, _, V.int ((z : Int) + 1), rfl, rfl, SqL.of upd_same, rfl, ?_⟩
      walk_at "zz"
      refine z_I (.inl ⟨by decide, by decide⟩) ?_
      walk_at "zz"
      refine z_I ⟨by decide, by decide, by omega⟩ ?_
      walk_at "zz"
      refine z_I (by decide) ?_
      walk_at "zz"
      refine ⟨a, _, _, V.int ((z : Int) + 1), rfl, rfl, SqL.of upd_same, rfl, ?_⟩
      walk_at "zz"
      refine z_I (.inr ⟨by decide, by decide⟩) ?_
      walk_at "zz"
      refine z_I (by decide) ?_
      walk_at "zz"
      refine z_I ⟨by decide, by decide⟩ ?_
      walk_at "zz"
      refine z_I hm0 ?_
      walk_at "zz"
      obtain ⟨d, ed, hd⟩ := em ((((y + 7919 * ((z : Int) + 1) + 104729) ^ (5 : Int).toNat % 2147483647 + ((z : Int) + 1)) * 40692 % 2147483629) / 7)
      rw [ed]
      exact q d (z + 1) _ hd (Nat.le_refl _) ⟨x, y, upd_same, hx, hy, hy2⟩
def spRow : Sp := fun vs H Q _ => ∃ (a : Addr) (m : Int) (z : Nat), vs = [.ref a, .int m] ∧ StrAt H a z ∧ 0 < m ∧ m ≤ 1000 ∧ z < 2 ^ 30 ∧
  ∀ (p : Addr) (r : List Bool) (H' : Hp) (z' : Nat), r ≠ [] → (r.length : Int) ≤ m → z' ≤ z + 1 + r.length → StrAt H' a z' → SameX a H H' → H p = none → H' p = some (.tup (r.map V.bl)) → Q (.ref p) H'
theorem ok_lawrow (T : Txt K mg) : Cal P w K mg base 2 "_law_row" spRow := by
  have C_law_draw : Cal P w K mg base 1 "_law_draw" spDraw := ok_draw T
  refine cal_mk T.f_law_row bd_law_row sc_law_row (fun vs H Q E h => ?_) (fun f cdv A outer s H vs Q E hr h => ?_)
  · obtain ⟨a, m, z, rfl, _⟩ := h; rfl
  · obtain ⟨a, m, z, rfl, st, hm0, hm, hz, q⟩ := h
    refine ⟨_, (pss_one (ps_ret (pe_callTy call_tuple_of (by rfl) T.n_tuple (by decide +kernel) (pa_cons (pe_lc (own := [("_law_k", 2)]) (by rfl) sc_law_row.nd (pi_range1 (by rfl) T.n_range (pa_cons (pe_op op_add pe_int (pe_cl C_law_draw hr (by decide) rfl (pa_cons (pv 0) (pa_cons (pv 1) pa_nil)))) pa_nil)) (blkOk_by (N := ["_law_stream_here", "_law_most", "_law_k"]) (sc := defScope s_law_row) (by decide +kernel)) (fun _ _ _ _ _ => (pg_name (i := 2) sc_law_row.nd rfl (Or.inl rfl))) (fun _ _ _ _ _ => pts_nil) (fun _ _ _ _ _ => (pe_cmpR op_eq (pe_cl C_law_draw hr (by decide) rfl (pa_cons (pv 0) (pa_cons pe_int pa_nil))) pe_int (nomark _)))) pa_nil)))), ?_⟩
    walk_at "zz"
    refine ⟨a, m, z, rfl, st, hm0, by omega, by omega, fun d z1 o hd hz1 st1 => ?_⟩
    walk_at "zz"
    refine ⟨_, rfl, by omega, by omega, fun D hD => ?_⟩
    have hDa : D ≠ a := st1.ne hD
    have hDH : H D = none := by rw [upd_ne hDa] at hD; exact hD
    refine lc_range (lo := 0) (n := (1 + (d : Int)).toNat) (fun i H' => ∃ (r : List Bool) (z' : Nat), r.length = i ∧ z' ≤ z1 + i ∧ StrAt H' a z' ∧ H' D = some (.lst (r.map V.bl)) ∧ SameX a H H') ⟨[], z1, rfl, by omega, st1.new hD, upd_same, (SameX.refl a H).self.upd hDH⟩ ?_ ?_
    · rintro i H' hi ⟨r, z', hr1, hz', st', hD', sx⟩
      walk_at "zz"
      refine ⟨rfl, ?_⟩
      walk_at "zz"
      refine ⟨a, 2, z', rfl, st', by decide, by decide, by omega, fun d2 z2 o2 hd2 hz2 st2 => ?_⟩
      walk_at "zz"
      refine ⟨_, by rw [upd_ne hDa]; exact hD', by rw [List.length_map]; exact Nat.lt_of_lt_of_le (m := 2000) (by omega) (by decide), r ++ [decide (V.int (d2 : Int) = V.int 1)], z2, by rw [List.length_append, hr1]; rfl, by omega, st2.upd hDa.symm, ?_, (sx.self).upd hDH⟩
      rw [upd_same, List.map_append]; rfl
    · rintro H' ⟨r, z', hr1, hz', st', hD', sx⟩
      walk_at "zz"
      refine ⟨D, _, rfl, .inl ⟨SqL.of hD', fun l hl => ?_⟩⟩
      walk_at "zz"
      have hla : H l = none := by
        cases e : H l with
        | none => rfl
        | some u =>
          by_cases hl2 : l = a
          · subst hl2
            obtain ⟨x, y, e2, _⟩ := st'
            rw [hl] at e2; cases e2
          · rw [sx l u hl2 e] at hl; cases hl
      exact q l r _ z' (by intro e; rw [e] at hr1; simp at hr1; omega) (by omega) (by omega) (st'.new hl) (sx.upd hla) hla upd_same
def spBit : Sp := fun vs H Q _ => ∃ (a : Addr) (r : List Bool) (k : Int), vs = [.ref a, .int k] ∧ SqA H a (r.map V.bl) ∧ r ≠ [] ∧ 0 ≤ k ∧ Q (.bl (bitB r k.toNat)) H
theorem ok_lawbit (T : Txt K mg) : Cal P w K mg base 1 "_law_bit" spBit := by
  refine cal_mk T.f_law_bit bd_law_bit sc_law_bit (fun vs H Q E h => ?_) (fun f cdv A outer s H vs Q E hr h => ?_)
  · obtain ⟨a, r, k, rfl, _⟩ := h; rfl
  · obtain ⟨a, r, k, rfl, hS, hne, h0, q⟩ := h
    have hp : 0 < r.length := List.length_pos_iff.mpr hne
    refine ⟨_, (pss_one (ps_ret (pe_ix ix_seq (pv 0) (pe_callB (call_min2 rfl) (by rfl) T.n_min (by decide +kernel) (pa_cons (pv 1) (pa_cons (pe_op op_sub (pe_callB call_len (by rfl) T.n_len (by decide +kernel) (pa_cons (pv 0) pa_nil)) pe_int) pa_nil))) (fun _ _ => rfl)))), ?_⟩
    walk_at "zz"
    refine ⟨_, _, rfl, hS.len, ?_⟩
    walk_at "zz"
    refine ⟨_, _, rfl, ?_⟩
    rw [List.length_map]
    walk_at "zz"
    have e : (if (r.length : Int) - 1 < k then (r.length : Int) - 1 else k) = ((min k.toNat (r.length - 1) : Nat) : Int) := by
      split <;> omega
    rw [e]
    refine hS.ix (atI_nat ?_) q
    rw [List.getElem?_map, bit_get r k.toNat hne]; rfl
theorem take_last {r : List Bool} {m : Nat} (h1 : 1 ≤ m) (h2 : m ≤ r.length) (j : Nat) (hj : 1 ≤ j) (hjm : j ≤ m) : ∃ b, r[m - j]? = some b ∧ atI ((r.take m).map V.bl) (-(j : Int)) = some (V.bl b) := by
  obtain ⟨b, r1, v1⟩ := bget (r := r) (k := m - j) (by omega)
  have hl : ((r.take m).map V.bl).length = m := by rw [List.length_map, List.length_take]; omega
  refine ⟨b, r1, at_end j hj (by omega) ?_⟩
  rw [hl, List.getElem?_map, List.getElem?_take_of_lt (by omega), r1]; rfl
theorem ok_lawplain (T : Txt K mg) : Cal P w K mg base 1 "_law_plain" spPlain := by
  refine cal_mk T.f_law_plain bd_law_plain sc_law_plain (fun vs H Q E h => ?_) (fun f cdv A outer s H vs Q E hr h => ?_)
  · obtain ⟨a, r, rfl, _⟩ := h; rfl
  · obtain ⟨a, r, rfl, hS, hne, hle, k⟩ := h
    have hp : 0 < r.length := List.length_pos_iff.mpr hne
    refine ⟨_, (pss_cons (ps_set (i := 0) sc_law_plain.nd rfl (Or.inl rfl) (pe_cut (pe_callTy call_tuple_of (by rfl) T.n_tuple (by decide +kernel) (pa_cons (pv 0) pa_nil))))
      (pss_cons (ps_while PassesOwn.never (PW.pt (pw_and (pt_cmpR op_gt (pe_callB call_len (by rfl) T.n_len (by decide +kernel) (pa_cons (pv 0) pa_nil)) pe_int (nomark _)) (pw_and1 (pt_cmpR op_eq (pe_ix ix_tup (pv 0) (pe_un un_neg pe_int) (fun _ _ => rfl)) (pe_ix ix_tup (pv 0) (pe_un un_neg pe_int) (fun _ _ => rfl)) (nomark _))))) (pss_one (ps_set (i := 0) sc_law_plain.nd rfl (Or.inl rfl) (pe_slice sl_tupA (pv 0) po_none (po_some (pe_un un_neg pe_int))))))
      (pss_one (ps_ret (pv 0))))), ?_⟩
    walk_at "zz"
    refine z_mid (fun v H' => ∃ p, v = .ref p ∧ Same H H' ∧ H' p = some (.tup (r.map V.bl))) ?_ ?_
    · walk_at "zz"
      rcases hS with hS | hS
      · exact ⟨a, _, rfl, .inl ⟨SqL.of hS, fun l hl => ⟨l, rfl, Same.new hl, upd_same⟩⟩⟩
      · exact ⟨a, _, rfl, .inr ⟨SqT.of hS, a, rfl, Same.refl H, hS⟩⟩
    · rintro _ H1 ⟨p, rfl, s1, e1⟩
      walk_at "zz"
      refine z_while (fun m σ' H' => ∃ p', 1 ≤ m ∧ m ≤ r.length ∧ σ' = [some (.ref p')] ∧ Same H H' ∧ H' p' = some (.tup ((r.take m).map V.bl)) ∧ plen r r.length = plen r m) r.length ⟨p, hp, Nat.le_refl _, rfl, s1, by rw [List.take_length]; exact e1, rfl⟩ ?_
      rintro m σ' H' ⟨p', h1, h2, rfl, s', e', ep⟩
      have hl : ((r.take m).map V.bl).length = m := by rw [List.length_map, List.length_take]; omega
      walk_at "zz"
      refine ⟨_, _, rfl, .inr ⟨_, SqT.of e', rfl⟩, ?_⟩
      rw [hl]
      walk_at "zz"
      refine z_dec (fun hm => ?_) (fun hm => ?_)
      · obtain ⟨b1, r1, v1⟩ := take_last h1 h2 1 (Nat.le_refl _) h1
        obtain ⟨b2, r2, v2⟩ := take_last h1 h2 2 (by decide) (by omega)
        walk_at "zz"
        refine ⟨p', _, _, V.bl b1, rfl, rfl, SqT.of e', v1, ?_⟩
        walk_at "zz"
        refine ⟨p', _, _, V.bl b2, rfl, rfl, SqT.of e', v2, ?_⟩
        walk_at "zz"
        obtain ⟨n, rfl⟩ : ∃ n, m = n + 1 := ⟨m - 1, by omega⟩
        refine z_dec (fun hb => ?_) (fun hb => ?_)
        · refine z_again ?_
          walk_at "zz"
          refine ⟨p', _, rfl, SqT.of e', fun hw => ?_, fun hw l hl' => ?_⟩
          · exfalso
            have q := hw.2
            rw [hl] at q
            have e3 : HT.sIx (n + 1) (n + 1) (some (-1)) = (-1 + ((n + 1 : Nat) : Int)).toNat := by
              show (if (-1 : Int) < 0 then (-1 + ((n + 1 : Nat) : Int)).toNat else min (-1 : Int).toNat (n + 1)) = _
              rw [if_pos (by decide)]
            have q' : HT.sIx (n + 1) (n + 1) (some (-1)) = n + 1 := q
            rw [e3] at q'
            omega
          · walk_at "zz"
            refine ⟨n, by omega, l, by omega, by omega, rfl, Same.trans s' (Same.new hl'), ?_, ?_⟩
            · rw [upd_same]
              have e3 := cut_but ((r.take (n + 1)).map V.bl) (by omega)
              rw [hl] at e3
              have e4 : cutV ((r.take (n + 1)).map V.bl) none (some (-1)) = (r.take n).map V.bl := by
                rw [e3, ← List.map_take, List.take_take, Nat.min_eq_left (by omega)]; rfl
              exact congrArg (fun z => some (HO.tup z)) e4
            · rw [ep]
              show (if 1 ≤ n ∧ r[n]? = r[n - 1]? then plen r n else n + 1) = _
              rw [if_pos ⟨by omega, by rw [show n = n + 1 - 1 by omega, r1, show n + 1 - 1 - 1 = n + 1 - 2 by omega, r2, V.bl.inj hb]⟩]
        · walk_at "zz"
          refine k p' H' s' ?_
          rw [e']
          unfold plainB
          rw [ep]
          have : plen r (n + 1) = n + 1 := by
            show (if 1 ≤ n ∧ r[n]? = r[n - 1]? then plen r n else n + 1) = _
            rw [if_neg fun q => hb ?_]
            have q2 := q.2
            rw [show n = n + 1 - 1 by omega, r1, show n + 1 - 1 - 1 = n + 1 - 2 by omega, r2] at q2
            rw [Option.some.inj q2]
          rw [this]
      · walk_at "zz"
        refine k p' H' s' ?_
        have : m = 1 := by omega
        subst this
        rw [e']
        unfold plainB
        rw [ep]
        rfl
def spLaw (K : PySem.W.Frag) : Sp := fun vs H Q _ => ∃ (a : Addr) (ns : List Int), vs = [.ref a] ∧ SqL K H a (ns.map V.int) ∧ ns.length ≤ 63 ∧ ∀ H', Q (.bl true) H'
theorem rep_flat (b : V) : ∀ n : Nat, (List.replicate n [b]).flatten = List.replicate n b
  | 0 => rfl
  | n + 1 => by rw [List.replicate_succ, List.flatten_cons, rep_flat b n]; rfl
theorem map_rep (b : Bool) (n : Nat) : List.replicate n (V.bl b) = (List.replicate n b).map V.bl := by rw [List.map_replicate]
theorem dp_t {H : Hp} {a : Addr} {r : List Bool} (h : H a = some (.tup (r.map V.bl))) : Dp K H (.ref a) (.tuple (r.map PyData.bool)) := .tup (SqT.of h) (dpAll_bl r)
theorem dp_l {H : Hp} {a : Addr} {r : List Bool} (h : H a = some (.lst (r.map V.bl))) : Dp K H (.ref a) (.list (r.map PyData.bool)) := .lst (SqL.of h) (dpAll_bl r)
theorem rng_map (f : Nat → Bool) (n : Nat) : (List.range (n + 1)).map f = (List.range n).map f ++ [f n] := by rw [List.range_succ, List.map_append]; rfl
theorem okLaw (T : Txt K mg) {f : Addr} {fd : FuncData} (F : FunD K "law" "law" (defArgs s_law) (defBody s_law) (defScope s_law) [] [] f fd) : FnOk P w K mg base L2.CX0 4 f fd ["_law_script"] (spLaw K) := by
  have C_plain : Cal P w K mg base 1 "plain" spPlain := ok_plain T
  have C_height : Cal P w K mg base 2 "height" spHeight := ok_height T
  have C_law_stream : Cal P w K mg base 1 "_law_stream" (spStream K) := ok_stream T
  have C_law_draw : Cal P w K mg base 1 "_law_draw" spDraw := ok_draw T
  have C_law_row : Cal P w K mg base 2 "_law_row" spRow := ok_lawrow T
  have C_law_bit : Cal P w K mg base 1 "_law_bit" spBit := ok_lawbit T
  have C_law_plain : Cal P w K mg base 1 "_law_plain" spPlain := ok_lawplain T
  refine F.ok sc_law (fun vs H Q E h => ?_) (fun cdv A outer s H vs Q E hr h => ?_)
  · obtain ⟨a, ns, rfl, _⟩ := h; rfl
  · obtain ⟨a, ns, rfl, hS, hlen, k⟩ := h
    refine ⟨_, PSs.nox (pss_cons (ps_for PassesOwn.never rfl (pi_range1 (by rfl) T.n_range (pa_cons pe_int pa_nil)) (pg_name (i := 1) sc_law.nd rfl (Or.inl rfl)) (pss_cons (ps_set (i := 2) sc_law.nd rfl (Or.inl rfl) (pe_cl C_law_stream hr (by decide) rfl (pa_cons (pv 0) (pa_cons (pv 1) pa_nil))))
      (pss_cons (ps_set (i := 3) sc_law.nd rfl (Or.inr rfl) (pe_cl C_law_row hr (by decide) rfl (pa_cons (pv 2) (pa_cons pe_int pa_nil))))
      (pss_cons (ps_set (i := 3) sc_law.nd rfl (Or.inr rfl) (pe_cut (pe_op op_catA (pv 3) (pe_cut (pe_op op_repA (pe_tup (pa_cons (pe_ix ix_tup (pv 3) (pe_un un_neg pe_int) (fun _ _ => rfl)) pa_nil)) (pe_cl C_law_draw hr (by decide) rfl (pa_cons (pv 2) (pa_cons pe_int pa_nil))))))))
      (pss_cons (ps_set (i := 4) sc_law.nd rfl (Or.inl rfl) (pe_cut (pe_ifExp (pt_cmpR op_eq (pe_cl C_law_draw hr (by decide) rfl (pa_cons (pv 2) (pa_cons pe_int pa_nil))) pe_int (nomark _)) (pe_callTy call_list_of (by rfl) T.n_list (by decide +kernel) (pa_cons (pv 3) pa_nil)) (pv 3))))
      (pss_cons (ps_set (i := 5) sc_law.nd rfl (Or.inr rfl) (pe_cl C_plain hr (by decide) rfl (pa_cons (pv 4) pa_nil)))
      (pss_cons (ps_if (PW.pt (pw_or (pt_cmpR (op_neD hr.units) (pv 5) (pe_cl C_law_plain hr (by decide) rfl (pa_cons (pv 3) pa_nil)) (nomark _)) (pw_or (pt_not (pt_val (pe_callB call_isi (by rfl) T.n_isinstance (by decide +kernel) (pa_cons (pv 5) (pa_cons (pe_bltn (v := .ty "tuple") (by rfl) T.n_tuple (by decide +kernel) rfl) pa_nil))))) (pw_or1 (pt_cmpR (op_neD hr.units) (pe_callTy call_list_of (by rfl) T.n_list (by decide +kernel) (pa_cons (pv 4) pa_nil)) (pe_callTy call_list_of (by rfl) T.n_list (by decide +kernel) (pa_cons (pv 3) pa_nil)) (nomark _)))))) (pss_one (ps_ret pe_bl)) pss_nil)
      (pss_cons (ps_if (pt_cmpR (op_neD hr.units) (pe_lc (own := [("_law_level", 6)]) (by rfl) sc_law.nd (pi_range1 (by rfl) T.n_range (pa_cons pe_int pa_nil)) (blkOk_by (N := ["_law_script", "_law_turn", "_law_stream_here", "_law_row_here", "_law_handed", "_law_found", "_law_level", "_law_sure", "_law_k"]) (sc := defScope s_law) (by decide +kernel)) (fun _ _ _ _ _ => (pg_name (i := 6) sc_law.nd rfl (Or.inl rfl))) (fun _ _ _ _ _ => pts_nil) (fun _ _ _ _ _ => (pe_cl C_law_bit hr (by decide) rfl (pa_cons (pv 5) (pa_cons (pv 6) pa_nil))))) (pe_lc (own := [("_law_level", 6)]) (by rfl) sc_law.nd (pi_range1 (by rfl) T.n_range (pa_cons pe_int pa_nil)) (blkOk_by (N := ["_law_script", "_law_turn", "_law_stream_here", "_law_row_here", "_law_handed", "_law_found", "_law_level", "_law_sure", "_law_k"]) (sc := defScope s_law) (by decide +kernel)) (fun _ _ _ _ _ => (pg_name (i := 6) sc_law.nd rfl (Or.inl rfl))) (fun _ _ _ _ _ => pts_nil) (fun _ _ _ _ _ => (pe_cl C_law_bit hr (by decide) rfl (pa_cons (pv 3) (pa_cons (pv 6) pa_nil))))) (nomark _)) (pss_one (ps_ret pe_bl)) pss_nil)
      (pss_cons (ps_setLc (i := 7) (own := [("_law_level", 6)]) rfl sc_law.nd rfl rfl (sw_true rfl rfl rfl (by decide +kernel)) (pi_range1 (by rfl) T.n_range (pa_cons pe_int pa_nil)) (blkOk_by (N := ["_law_script", "_law_turn", "_law_stream_here", "_law_row_here", "_law_handed", "_law_found", "_law_level", "_law_sure", "_law_k"]) (sc := defScope s_law) (by decide +kernel)) (fun _ _ _ _ _ => (pg_name (i := 6) sc_law.nd rfl (Or.inl rfl))) (fun _ _ _ _ _ => (pts_one (pt_val (pe_callB (show CallR _ _ (rAll K) from (cr_all rfl)) (by rfl) T.n_all (by decide +kernel) (pa_cons (pe_lc (own := [("_law_k", 8)]) (by rfl) sc_law.nd (pi_range2 (by rfl) T.n_range (pa_cons (pv 6) (pa_cons pe_int pa_nil))) (blkOk_by (by kernel_rfl)) (fun _ _ _ _ _ => (pg_name (i := 8) sc_law.nd rfl (Or.inl rfl))) (fun _ _ _ _ _ => pts_nil) (fun _ _ _ _ _ => (pe_cl C_law_bit hr (by decide) rfl (pa_cons (pv 3) (pa_cons (pv 8) pa_nil))))) pa_nil))))) (fun _ _ _ _ _ => (pv 6)))
      (pss_one (ps_if (PW.pt (pw_or (pt_cmpR op_ne (pe_cl C_height hr (by decide) rfl (pa_cons (pv 4) pa_nil)) (pe_ifExp (pt_cmpR (op_neD hr.units) (pv 7) (pe_lst pa_nil) (nomark _)) (pe_ix ix_list (pv 7) pe_int (fun _ _ => rfl)) pe_non) (nomark _)) (pw_or1 (pt_val (pe_callB call_isi (by rfl) T.n_isinstance (by decide +kernel) (pa_cons (pe_cl C_height hr (by decide) rfl (pa_cons (pv 4) pa_nil)) (pa_cons (pe_bltn (v := .ty "bool") (by rfl) T.n_bool (by decide +kernel) rfl) pa_nil))))))) (pss_one (ps_ret pe_bl)) pss_nil)))))))))))
      (pss_one (ps_ret pe_bl))), ?_⟩
    walk_at "zz"
    refine ⟨10, rfl, by decide, by decide, for_range (lo := 0) (n := 10) (fun i σ' H' => Same H H' ∧ ∃ v1 v2 v3 v4 v5 v6 v7 v8 : Option V, σ' = [some (.ref a), v1, v2, v3, v4, v5, v6, v7, v8]) ⟨Same.refl H, _, _, _, _, _, _, _, _, rfl⟩ ?_ ?_⟩
    · rintro i _ H0 hi ⟨s0, v1, v2, v3, v4, v5, v6, v7, v8, rfl⟩
      walk_at "zz"
      refine ⟨a, ns, _, rfl, s0.seq hS, by omega, by omega, fun p H1 hp s1 st1 => ?_⟩
      walk_at "zz"
      refine ⟨p, 12, 0, rfl, st1, by decide, by decide, by decide, fun q r H2 z2 hne hrl hz2 st2 sx2 hq eq => ?_⟩
      walk_at "zz"
      have hp0 : H0 p = none := hp
      have sH2 : Same H0 H2 := SameX.same ((SameX.of s1).trans sx2) hp0
      refine z_mid (fun v H' => ∃ (q' : Addr) (r' : List Bool) (z' : Nat), v = .ref q' ∧ H' q' = some (.tup (r'.map V.bl)) ∧ r' ≠ [] ∧ r'.length ≤ 29 ∧ StrAt H' p z' ∧ z' ≤ 20 ∧ Same H0 H') ?_ ?_
      · walk_at "zz"
        have hrp : 0 < r.length := List.length_pos_iff.mpr hne
        refine z_mid (fun v H' => ∃ (u : Addr) (d z' : Nat) (b : Bool), v = .ref u ∧ H' u = some (.tup ((List.replicate d b).map V.bl)) ∧ d ≤ 17 ∧ StrAt H' p z' ∧ z' ≤ 20 ∧ Same H0 H' ∧ H' q = some (.tup (r.map V.bl))) ?_ ?_
        · walk_at "zz"
          obtain ⟨b, r1, v1⟩ := bget (r := r) (k := r.length - 1) (by omega)
          refine ⟨q, _, _, V.bl b, rfl, rfl, SqT.of eq, at_end 1 (Nat.le_refl _) (by rw [List.length_map]; exact hrp) (by rw [List.length_map]; exact v1), ?_⟩
          walk_at "zz"
          refine ⟨by show 1 ≤ sizeLine; decide, fun t ht => ?_⟩
          walk_at "zz"
          have htp : t ≠ p := st2.ne ht
          have hqp : q ≠ p := st2.ne_tup eq
          refine ⟨p, 18, z2, rfl, st2.new ht, by decide, by decide, by omega, fun d z3 o hd hz3 st3 => ?_⟩
          have hH3 : Same H0 (upd (upd H2 t (.tup [V.bl b])) p o) := Same.upd (sH2.trans (Same.new ht)) hp0
          have ht3 : (upd (upd H2 t (.tup [V.bl b])) p o) t = some (.tup [V.bl b]) := by rw [upd_ne htp, upd_same]
          have hq3 : (upd (upd H2 t (.tup [V.bl b])) p o) q = some (.tup (r.map V.bl)) := by rw [upd_ne hqp]; exact Same.new ht _ _ eq
          walk_at "zz"
          refine ⟨t, _, _, rfl, rfl, SqT.of ht3, by simp, by omega, by omega, by show 1 ≤ 1000; decide, fun h1 => ?_, fun h1 u hu => ?_⟩
          · refine ⟨t, 1, z3, b, rfl, ht3, by decide, st3, by omega, hH3, hq3⟩
          · refine ⟨u, d, z3, b, rfl, ?_, by omega, st3.new hu, by omega, hH3.trans (Same.new hu), Same.new hu _ _ hq3⟩
            rw [upd_same, Int.toNat_natCast, rep_flat, map_rep]
        · rintro _ H3 ⟨u, d, z3, b, rfl, hu, hd, st3, hz3, s3, hq3⟩
          refine ⟨q, u, _, _, rfl, rfl, SqT.of hq3, SqT.of hu, ?_, fun h1 => ?_, fun h1 h2 => ?_, fun h1 h2 l hl => ?_⟩
          · rw [List.length_map, List.length_map, List.length_replicate, sizeLine_eq]; omega
          · exact absurd (List.map_eq_nil_iff.mp h1) hne
          · exact ⟨q, r, z3, rfl, hq3, hne, by omega, st3, hz3, s3⟩
          · refine ⟨l, r ++ List.replicate d b, z3, rfl, ?_, by simp [hne], by rw [List.length_append, List.length_replicate]; omega, st3.new hl, hz3, s3.trans (Same.new hl)⟩
            rw [upd_same, List.map_append]
      · rintro _ H3 ⟨q', r', z3, rfl, hq3, hne', hl3, st3, hz3, s3⟩
        walk_at "zz"
        refine z_mid (fun v H' => ∃ g : Addr, v = .ref g ∧ SqA H' g (r'.map V.bl) ∧ H' q' = some (.tup (r'.map V.bl)) ∧ Same H0 H') ?_ ?_
        · walk_at "zz"
          refine ⟨p, 2, z3, rfl, st3, by decide, by decide, by omega, fun d z4 o hd hz4 st4 => ?_⟩
          have hqp : q' ≠ p := st3.ne_tup hq3
          have hq4 : (upd H3 p o) q' = some (.tup (r'.map V.bl)) := by rw [upd_ne hqp]; exact hq3
          have s4 : Same H0 (upd H3 p o) := Same.upd s3 hp0
          walk_at "zz"
          refine z_dec (fun hb => ?_) (fun hb => ?_)
          · walk_at "zz"
            exact ⟨q', _, rfl, .inr (SqT.of hq4), fun l hl => ⟨l, rfl, .inl upd_same, Same.new hl _ _ hq4, s4.trans (Same.new hl)⟩⟩
          · walk_at "zz"
            exact ⟨q', rfl, .inr hq4, hq4, s4⟩
        · rintro _ H4 ⟨g, rfl, hg4, hq4, s4⟩
          walk_at "zz"
          refine ⟨g, r', rfl, hg4, hne', by omega, fun u H5 s5 hu5 => ?_⟩
          have hq5 := s5 _ _ hq4
          have hg5 := hg4.mono s5
          walk_at "zz"
          refine ⟨q', r', rfl, .inr hq5, hne', by omega, fun u2 H6 s6 hu6 => ?_⟩
          have hu65 := s6 _ _ hu5
          have hg6 := hg5.mono s6
          have hq6 := s6 _ _ hq5
          refine ne_same (dp_t hu65) (dp_t hu6) (shaped_tbl _) ?_
          walk_at "zz"
          refine ⟨_, _, _, _, true, rfl, ClsV.ty _, .base (.tup hu65), kit_ty (by decide +kernel), ?_⟩
          walk_at "zz"
          refine ⟨g, _, rfl, hg6.or, fun l1 hl1 => ?_⟩
          walk_at "zz"
          refine ⟨q', _, rfl, .inr (SqT.of (Same.new hl1 _ _ hq6)), fun l2 hl2 => ?_⟩
          refine ne_same (dp_l (Same.new hl2 _ _ upd_same)) (dp_l upd_same) (shaped_lbl _) ?_
          walk_at "zz"
          have sL : Same H6 (upd (upd H6 l1 (.lst (r'.map V.bl))) l2 (.lst (r'.map V.bl))) := (Same.new hl1).trans (Same.new hl2)
          generalize upd (upd H6 l1 (.lst (r'.map V.bl))) l2 (.lst (r'.map V.bl)) = H7 at sL
          have hu7 := sL _ _ hu65
          have hq7 := sL _ _ hq6
          have hg7 := hg6.mono sL
          have s7 : Same H0 H7 := ((s4.trans s5).trans s6).trans sL
          clear sL hu65 hq6 hg6 hu6
          refine ⟨40, rfl, by decide, by decide, fun D hD => ?_⟩
          refine lc_range (lo := 0) (n := 40) (fun i H' => H' D = some (.lst (((List.range i).map fun j => bitB (plainB r') j).map V.bl)) ∧ Same H7 H') ⟨upd_same, Same.new hD⟩ ?_ ?_
          · rintro j H' hj ⟨e1, e2⟩
            walk_at "zz"
            refine ⟨rfl, ?_⟩
            walk_at "zz"
            refine ⟨u, plainB r', _, rfl, .inr (e2 _ _ hu7), plain_ne r' hne', by omega, ?_⟩
            refine ⟨_, e1, by rw [List.length_map, List.length_map, List.length_range]; exact Nat.lt_of_lt_of_le (m := 50) (by omega) (by decide), ?_, Same.upd e2 hD⟩
            rw [upd_same, rng_map, List.map_append, Int.zero_add, Int.toNat_natCast]; rfl
          · rintro H8 ⟨e1, e2⟩
            walk_at "zz"
            refine ⟨40, rfl, by decide, by decide, fun D2 hD2 => ?_⟩
            refine lc_range (lo := 0) (n := 40) (fun i H' => H' D2 = some (.lst (((List.range i).map fun j => bitB r' j).map V.bl)) ∧ Same H8 H') ⟨upd_same, Same.new hD2⟩ ?_ ?_
            · rintro j H' hj ⟨e3, e4⟩
              walk_at "zz"
              refine ⟨rfl, ?_⟩
              walk_at "zz"
              refine ⟨q', r', _, rfl, .inr (e4 _ _ (e2 _ _ hq7)), hne', by omega, ?_⟩
              refine ⟨_, e3, by rw [List.length_map, List.length_map, List.length_range]; exact Nat.lt_of_lt_of_le (m := 50) (by omega) (by decide), ?_, Same.upd e4 hD2⟩
              rw [upd_same, rng_map, List.map_append, Int.zero_add, Int.toNat_natCast]; rfl
            · rintro H9 ⟨e3, e4⟩
              have eb : ((List.range 40).map fun j => bitB (plainB r') j) = (List.range 40).map fun j => bitB r' j := List.map_congr_left fun j _ => bit_plain r' hne' j
              rw [eb] at e1
              refine ne_same (dp_l (e4 _ _ e1)) (dp_l e3) (shaped_lbl _) ?_
              have s9 : Same H7 H9 := e2.trans e4
              have hq9 := s9 _ _ hq7
              have hg9 := hg7.mono s9
              have s09 := s7.trans s9
              clear e1 e3 e2 e4 eb
              walk_at "zz"
              refine ⟨31, rfl, by decide, by decide, fun D hD => ?_⟩
              refine lc_range (lo := 0) (n := 31) (fun i H' => H' D = some (.lst (((List.range i).filter fun l => fromOn r' l (40 - l)).map fun l : Nat => V.int (l : Int))) ∧ Same H9 H') ⟨upd_same, Same.new hD⟩ ?_ ?_
              · rintro j H' hj ⟨e1, e2⟩
                walk_at "zz"
                refine ⟨rfl, ?_⟩
                walk_at "zz"
                refine ⟨_, _, rfl, ⟨by omega, by omega, by omega, by omega⟩, fun D2 hD2 => ?_⟩
                have hj2 : (40 - (0 + (j : Int))).toNat = 40 - j := by omega
                refine lc_range (lo := 0 + (j : Int)) (n := (40 - (0 + (j : Int))).toNat) (fun i H2 => H2 D2 = some (.lst (((List.range i).map fun l => bitB r' (j + l)).map V.bl)) ∧ Same H' H2) ⟨upd_same, Same.new hD2⟩ ?_ ?_
                · rintro l H2 hl ⟨e3, e4⟩
                  walk_at "zz"
                  refine ⟨rfl, ?_⟩
                  walk_at "zz"
                  refine ⟨q', r', _, rfl, .inr (e4 _ _ (e2 _ _ hq9)), hne', by omega, ?_⟩
                  refine ⟨_, e3, by rw [List.length_map, List.length_map, List.length_range]; exact Nat.lt_of_lt_of_le (m := 50) (by omega) (by decide), ?_, Same.upd e4 hD2⟩
                  rw [upd_same, rng_map, List.map_append, show (0 + (j : Int) + (l : Int)).toNat = j + l by omega]; rfl
                · rintro H2 ⟨e3, e4⟩
                  refine ⟨D2, _, rfl, SqL.of e3, ?_⟩
                  rw [hj2]
                  have ef : (((List.range (40 - j)).map fun l => bitB r' (j + l)).all id) = fromOn r' j (40 - j) := by rw [List.all_map]; rfl
                  rw [ef]
                  walk_at "zz"
                  have e5 := e4 _ _ e1
                  refine z_bool (fun hb => ?_) (fun hb => ?_)
                  · walk_at "zz"
                    have hDn : H9 D = none := hD
                    refine ⟨_, e5, Nat.lt_of_le_of_lt (m := 31) (by rw [List.length_map]; have := List.length_filter_le (fun l => fromOn r' l (40 - l)) (List.range j); rw [List.length_range] at this; omega) (by decide), ?_, Same.upd (e2.trans e4) hDn⟩
                    rw [upd_same, List.range_succ, List.filter_append, List.map_append, List.filter_cons, if_pos hb, Int.zero_add]; rfl
                  · refine ⟨?_, e2.trans e4⟩
                    rw [e5, List.range_succ, List.filter_append, List.filter_cons, if_neg (by rw [hb]; decide)]
                    simp
              · rintro H10 ⟨e1, e2⟩
                have e1 : H10 D = some (.lst ((sureL r').map fun l : Nat => V.int (l : Int))) := e1
                have hg10 := hg9.mono e2
                walk_at "zz"
                refine ⟨g, r', rfl, hg10, hne', by omega, fun H11 s11 => ?_⟩
                have e11 := s11 _ _ e1
                have hg11 := hg10.mono s11
                walk_at "zz"
                refine ⟨Nat.zero_le _, fun l0 hl0 => ?_⟩
                have e12 : (upd H11 l0 (.lst [])) D = some (.lst (((sureL r').map fun l : Nat => (l : Int)).map V.int)) := by
                  rw [List.map_map]; exact Same.new hl0 _ _ e11
                have hg12 : SqA (upd H11 l0 (.lst [])) g (r'.map V.bl) := hg11.mono (Same.new hl0)
                have hh := sure_head r' hne' (by omega)
                have s12 : Same H0 (upd H11 l0 (.lst [])) := ((s09.trans e2).trans s11).trans (Same.new hl0)
                refine ⟨_, _, .lst (SqL.of e12) (dpAll_int _), .lst (SqL.of upd_same) .nil, shaped_lint _, rfl, ?_⟩
                walk_at "zz"
                cases hs : sureL r' with
                | nil =>
                  rw [hs] at hh
                  have hb : lastB (plainB r') = false := by
                    cases q : lastB (plainB r') with
                    | false => rfl
                    | true => rw [q, if_pos rfl] at hh; cases hh
                  show if (!true) = true then _ else _
                  rw [hb, if_neg Bool.false_ne_true]
                  walk_at "zz"
                  show if (!decide (V.non = V.non)) = true then _ else _
                  refine z_ndec (fun q => absurd rfl q) (fun _ => ?_)
                  walk_at "zz"
                  refine ⟨g, r', rfl, hg12, hne', by omega, fun H13 s13 => ?_⟩
                  rw [hb, if_neg Bool.false_ne_true]
                  walk_at "zz"
                  refine ⟨_, _, _, _, false, rfl, ClsV.ty _, .base .non, kit_ty (by decide +kernel), ?_⟩
                  walk_at "zz"
                  exact ⟨s0.trans (s12.trans s13), _, _, _, _, _, _, _, _, rfl⟩
                | cons x xs =>
                  rw [hs] at hh e12
                  have hh : some x = if lastB (plainB r') = true then some ((plainB r').length - 1) else none := hh
                  have hb : lastB (plainB r') = true := by
                    cases q : lastB (plainB r') with
                    | true => rfl
                    | false => rw [q, if_neg Bool.false_ne_true] at hh; cases hh
                  rw [hb, if_pos rfl] at hh
                  have hx : x = (plainB r').length - 1 := Option.some.inj hh
                  show if (!false) = true then _ else _
                  rw [hb, if_pos rfl]
                  walk_at "zz"
                  refine ⟨D, _, _, V.int (x : Int), rfl, rfl, SqL.of e12, atI_nat (j := 0) rfl, ?_⟩
                  walk_at "zz"
                  refine z_ndec (fun q => absurd (by rw [hx]) q) (fun _ => ?_)
                  walk_at "zz"
                  refine ⟨g, r', rfl, hg12, hne', by omega, fun H13 s13 => ?_⟩
                  rw [hb, if_pos rfl]
                  walk_at "zz"
                  refine ⟨_, _, _, _, false, rfl, ClsV.ty _, .base (.int _), kit_ty (by decide +kernel), ?_⟩
                  walk_at "zz"
                  exact ⟨s0.trans (s12.trans s13), _, _, _, _, _, _, _, _, rfl⟩
    · rintro _ H0 ⟨s0, v1, v2, v3, v4, v5, v6, v7, v8, rfl⟩
      walk_at "zz"
      exact k _
end
def dd_plain : He.DefD := ⟨("plain", none), "plain", "plain", defArgs s_plain, defBody s_plain, defScope s_plain, [], []⟩
def dd_height : He.DefD := ⟨("height", none), "height", "height", defArgs s_height, defBody s_height, defScope s_height, [], []⟩
def dd_law_stream : He.DefD := ⟨("_law_stream", none), "_law_stream", "_law_stream", defArgs s_law_stream, defBody s_law_stream, defScope s_law_stream, [], []⟩
def dd_law_draw : He.DefD := ⟨("_law_draw", none), "_law_draw", "_law_draw", defArgs s_law_draw, defBody s_law_draw, defScope s_law_draw, [], []⟩
def dd_law_row : He.DefD := ⟨("_law_row", none), "_law_row", "_law_row", defArgs s_law_row, defBody s_law_row, defScope s_law_row, [], []⟩
def dd_law_bit : He.DefD := ⟨("_law_bit", none), "_law_bit", "_law_bit", defArgs s_law_bit, defBody s_law_bit, defScope s_law_bit, [], []⟩
def dd_law_plain : He.DefD := ⟨("_law_plain", none), "_law_plain", "_law_plain", defArgs s_law_plain, defBody s_law_plain, defScope s_law_plain, [], []⟩
def dd_law : He.DefD := ⟨("law", none), "law", "law", defArgs s_law, defBody s_law, defScope s_law, [], []⟩
def fn : List He.DefD := [dd_plain, dd_height, dd_law_stream, dd_law_draw, dd_law_row, dd_law_bit, dd_law_plain, dd_law]
def fa : List He.Fa := [.free "len", .free "range", .free "abs", .free "min", .free "all", .free "isinstance", .free "int", .free "list", .free "tuple", .free "bool", .glo "plain", .glo "height", .glo "_law_stream", .glo "_law_draw", .glo "_law_row", .glo "_law_bit", .glo "_law_plain", .glo "law"]
abbrev RR : PySem.W.OpenRow := PySem.W.OpenLaw.row PySem.Challenge.rw_boxfall_k07_plain_rows
abbrev hk : PySem.W.Hook := He.hookD 5 fa fn
def ob (s : PySem.W.SharedT) : He.AlD := He.obsDG 5 fa fn (HandSHeadRun.getT s)
theorem ob_eq (s : PySem.W.SharedT) : ob s = hk.obs s.abs := He.obsDG_eq (HandSHeadRun.getT_eq s)
def nm0 : List Str := ["plain", "height", "_law_stream", "_law_draw", "_law_row", "_law_bit", "_law_plain"]
def nms : List Str := nm0
theorem runF (w : World) : HandSHeadRun.RunEq RR (PySem.W.view RR.prog [9]) hk ob 6000 nms (w.withFollow "special-get-raises" false) := by
  intro os
  kernel_rfl
theorem runT (w : World) : HandSHeadRun.RunEq RR (PySem.W.view RR.prog [9]) hk ob 6000 nms (w.withFollow "special-get-raises" true) := by
  intro os
  kernel_rfl
theorem run (w : World) : HandSHeadRun.RunEq RR (PySem.W.view RR.prog [9]) hk ob 6000 nms w := PySem.W.byRow2 "special-get-raises" (P := fun w => HandSHeadRun.RunEq RR (PySem.W.view RR.prog [9]) hk ob 6000 nms w) runF runT w
theorem txt_of {K : PySem.W.Frag} {h : Heap} {mg : Str → Option Value} (X : K.In h) (G : h.Ns mainGlobals mg) (c : He.SaysD fa fn K) : Txt K mg := ⟨He.free_ok X G (c.fact 0 (f := .free "len") rfl), He.free_ok X G (c.fact 1 (f := .free "range") rfl), He.free_ok X G (c.fact 2 (f := .free "abs") rfl), He.free_ok X G (c.fact 3 (f := .free "min") rfl), He.free_ok X G (c.fact 4 (f := .free "all") rfl), He.free_ok X G (c.fact 5 (f := .free "isinstance") rfl), He.free_ok X G (c.fact 6 (f := .free "int") rfl), He.free_ok X G (c.fact 7 (f := .free "list") rfl), He.free_ok X G (c.fact 8 (f := .free "tuple") rfl), He.free_ok X G (c.fact 9 (f := .free "bool") rfl), ⟨_, _, (c.def_ 0 (d := dd_plain) rfl).choose_spec, He.glo_ok X G (c.fact 10 (f := .glo "plain") rfl)⟩, ⟨_, _, (c.def_ 1 (d := dd_height) rfl).choose_spec, He.glo_ok X G (c.fact 11 (f := .glo "height") rfl)⟩, ⟨_, _, (c.def_ 2 (d := dd_law_stream) rfl).choose_spec, He.glo_ok X G (c.fact 12 (f := .glo "_law_stream") rfl)⟩, ⟨_, _, (c.def_ 3 (d := dd_law_draw) rfl).choose_spec, He.glo_ok X G (c.fact 13 (f := .glo "_law_draw") rfl)⟩, ⟨_, _, (c.def_ 4 (d := dd_law_row) rfl).choose_spec, He.glo_ok X G (c.fact 14 (f := .glo "_law_row") rfl)⟩, ⟨_, _, (c.def_ 5 (d := dd_law_bit) rfl).choose_spec, He.glo_ok X G (c.fact 15 (f := .glo "_law_bit") rfl)⟩, ⟨_, _, (c.def_ 6 (d := dd_law_plain) rfl).choose_spec, He.glo_ok X G (c.fact 16 (f := .glo "_law_plain") rfl)⟩, ⟨_, _, (c.def_ 7 (d := dd_law) rfl).choose_spec, He.glo_ok X G (c.fact 17 (f := .glo "law") rfl)⟩⟩
theorem facts {P : Program} {w : World} {K : PySem.W.Frag} {h : Heap} {mg : Str → Option Value} {f : Addr} (X : K.In h) (G : h.Ns mainGlobals mg) (hfa : mg ("law" : Str) = some (.ref f)) (c : He.SaysD fa fn K) :
    ∃ fd : FuncData, (∀ (s : Shared) (v : Value), BindsTo s fd ⟨[v], []⟩ [("_law_script", v)]) ∧ ∀ base : Heap, K.In base → base.Ns mainGlobals mg → FnOk P w K mg base L2.CX0 4 f fd ["_law_script"] (spLaw K) := by
  obtain ⟨fd, F⟩ := c.def_ 7 (d := dd_law) rfl
  have e := hfa.symm.trans (He.glo_ok X G (c.fact 17 (f := .glo "law") rfl))
  cases e
  have b := FunD.bindsA (ps := ["_law_script"]) F bd_law
  refine ⟨fd, fun s v => b s [v] rfl, fun base _ _ => ?_⟩
  exact okLaw (txt_of X G c) F
end Bx
open PySem PySem.W PySem.Calls PyProof.Rows
theorem PySem.Challenge.cw_boxfall_k07_plain_rows_holds : PySem.Challenge.rw_boxfall_k07_plain_rows.Holds := by
  w_on; o_law
  refine HandSHeadRun.head_any (r := OpenLaw.row PySem.Challenge.rw_boxfall_k07_plain_rows) (q := view (OpenLaw.row PySem.Challenge.rw_boxfall_k07_plain_rows).prog [9]) (H := Bx.hk) (ob := Bx.ob) (M := 6000) (loose := Bx.nms) (d := HandSHeadRun.topDef (OpenLaw.row PySem.Challenge.rw_boxfall_k07_plain_rows).prog 9) (kwd := []) Bx.ob_eq
    (by kernel_rfl) (fun s => by kernel_rfl) Bx.run (by kernel_rfl) (by kernel_rfl) (by kernel_rfl) (by rfl) (by first | assumption | decide +kernel) (by decide +kernel) ⟨rfl, rfl, rfl, rfl, rfl, by decide +kernel⟩ ?hw ?hc
  case hw => w_witness2
  case hc =>
    refine L2.walk_ofE (l := PySem.Challenge.rw_boxfall_k07_plain_rows) (n := 63) (k := 4) (x := "_law_script") (CX := L2.CX0) rfl (by decide) (by kernel_rfl) ⟨rfl, by decide, by decide⟩ ?F (fun _ _ _ _ z => z)
    intro w mg fa h Y G hmg0
    obtain ⟨K, KX, c⟩ := Y
    have hmg : mg ("law" : PySem.Str) = some (.ref fa) := by
      have e : (HandSHeadRun.topDef (OpenLaw.row PySem.Challenge.rw_boxfall_k07_plain_rows).prog 9).name = ("law" : PySem.Str) := by kernel_rfl
      rw [← e]
      exact hmg0
    obtain ⟨fd, hb, hF⟩ := Bx.facts (P := (PySem.Challenge.rw_boxfall_k07_plain_rows).prog) (w := w) KX G hmg c
    exact ⟨K, fd, Bx.spLaw K, KX, hb, fun H a ns hl _ hS => ⟨a, ns, rfl, hS, hl, fun _ => rfl⟩, hF⟩
#print axioms PySem.Challenge.cw_boxfall_k07_plain_rows_holds
