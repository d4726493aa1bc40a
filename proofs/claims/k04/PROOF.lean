import PyProof.Rows.All
import Wide.All
import OpenK.AllK
import Wide.FinOn
import KE.KStateDown
import Lean
import HandS.ForMost
import HandS.ForExc
import HandS.More
import HandS.Flow
import HandS.Codes
import HandS.TupAny
import HandS.TupMul
import HandS.IsInst
import HandS.Defaults
import HandS.Walk
import HandS.HeadHook1
import HandS.HeadHook2
import HandS.HeadHook3
import HandS.HeadHook4
import KE.KOpsOwn
import KE.KRevSl
import HandS.Style
import HandS.CallLocal
import HandS.ClsMeth
import HandS.HeadNt
import HandS.Head0
import HandS.Head1
import HandS.Head2
import HandS.HeadEnd
import PySem.Challenge.RW_boxfall_k04_texts_of_sayings
set_option Elab.async false
set_option linter.all false
set_option maxRecDepth 100000
set_option maxHeartbeats 4000000
namespace Bx
open PySem PySem.Spec PyProof.Rows L2
/-! ### defs by name -/
/-- a def of the top as it stands behind it -/
def Dfn (K : PySem.W.Frag) (mg : Str → Option Value) (x : Str) (st : Stmt) : Prop :=
  ∃ (f : Addr) (fd : FuncData), FunD K x x (defArgs st) (defBody st) (defScope st) [] [] f fd ∧ mg x = some (.ref f)
/-- how its parameters bind -/
def Bnd (x : Str) (st : Stmt) (ps : List Str) : Prop := ∀ (kV doc pm : Value) (an : Option Addr) (cdv ct : Value) (us : List Value), us.length = ps.length →
  bindArgs (PySem.W.fnOf x x (defArgs st) (defBody st) (defScope st) .none kV doc pm an cdv ct) ⟨us, []⟩ = pure (ps.zip us)
/-- a def that may be called: it raises nothing -/
structure Cal (P : Program) (w : World) (K : PySem.W.Frag) (mg : Str → Option Value) (base : Heap) (k : Nat) (x : Str) (sp : Sp) : Prop where
  ex : ∃ (f : Addr) (fd : FuncData) (ps : List Str), FnOk P w K mg base L2.CX0 k f fd ps sp ∧ mg x = some (.ref f) ∧ PySem.W.keepIn K (.ref f) = true ∧ Binds K fd ps []
section
variable {P : Program} {w : World} {K : PySem.W.Frag} {mg : Str → Option Value} {base : Heap}
theorem cal_mk {x : Str} {st : Stmt} {N ps : List Str} {k : Nat} {sp : Sp} (F : Dfn K mg x st) (b : Bnd x st ps) (S : FnScope N ps (defScope st)) (len : ∀ vs H Q E, sp vs H Q E → vs.length = ps.length)
    (hbody : ∀ (f : Addr) (cdv : Value) (A : Around) (outer : List Env) (s : Shared) (H : Hp) (vs : List V) (Q : VK) (E : XK), Room k (A.deeper (envOfC x (defScope st) s.heap.objs.size f cdv)) → sp vs H Q E →
      ∃ t, PSs (cxOf L2.CX0 P w K mg base N x (defScope st) f cdv A outer s H E).nox (defBody st) t ∧ t { nx := fun _ H' => Q .non H', rt := Q } (start N vs) H) : Cal P w K mg base (k + 1) x sp := by
  obtain ⟨f, fd, F, hm⟩ := F
  refine ⟨f, fd, ps, F.ok S len fun cdv A outer s H vs Q E hr h => ?_, hm, F.kp, F.bindsN b⟩
  obtain ⟨t, ht, hq⟩ := hbody f cdv A outer s H vs Q E hr h
  exact ⟨t, ht.nox, hq⟩
theorem Cal.imp {k : Nat} {x : Str} {sp sp' : Sp} (c : Cal P w K mg base k x sp) (h : ∀ vs H Q E, sp' vs H Q E → sp vs H Q E) : Cal P w K mg base k x sp' := by
  obtain ⟨f, fd, ps, F, a, b, d⟩ := c.ex
  exact ⟨f, fd, ps, F.imp h, a, b, d⟩
theorem Cal.mono {j k : Nat} {x : Str} {sp : Sp} (c : Cal P w K mg base j x sp) (h : j ≤ k) : Cal P w K mg base k x sp := by
  obtain ⟨f, fd, ps, F, a, b, d⟩ := c.ex
  exact ⟨f, fd, ps, F.mono h, a, b, d⟩
end
section
variable {X : Cx} {k j : Nat} {x : Str} {sp : Sp} {p pos : Pos} {e : Expr} {es : List Expr} {t : TA}
theorem pe_cl (c : Cal X.prog X.w X.K X.mg X.base k x sp) (hr : Room j X.A) (hk : k ≤ j) (hg : Gl X x) (ha : PA X (e :: es) t)
    (hdb : (x == ("__debug__" : Str)) = false := by decide) (he : starEach (e :: es) X.env = (false, eval e X.env) :: starEach es X.env := by rfl) (hpl : (backTo pos (starEach es X.env)).any (·.1) = false := by rfl) :
    PE X (.Call (.Name x p) (e :: es) [] pos) (tCall sp [] C8.E0 t) := by
  obtain ⟨f, fd, ps, F, hm, kp, b⟩ := c.ex
  exact pe_call F (hr.mono hk) hg hm kp b .nil C8.pass0 ha hdb he hpl
theorem pe_cl0 (c : Cal X.prog X.w X.K X.mg X.base k x sp) (hr : Room j X.A) (hk : k ≤ j) (hg : Gl X x) (hdb : (x == ("__debug__" : Str)) = false := by decide) : PE X (.Call (.Name x p) [] [] pos) (tCall sp [] C8.E0 tNil) := by
  obtain ⟨f, fd, ps, F, hm, kp, b⟩ := c.ex
  exact pe_call0 F (hr.mono hk) hg hm kp b .nil C8.pass0 hdb
theorem sl_or {r1 r2 : V → Option Int → Option Int → Hp → VK → Prop} (h1 : SlR X r1) (h2 : SlR X r2) : SlR X (fun x lo hi H Q => r1 x lo hi H Q ∨ r2 x lo hi H Q) :=
  fun pins s σ H x v vl vu lo hi sl Q I rx hs pl pu h => h.elim (h1 pins s σ H x v vl vu lo hi sl Q I rx hs pl pu) (h2 pins s σ H x v vl vu lo hi sl Q I rx hs pl pu)
theorem op_alt {f : Value → Value → Sem Value} {r1 r2 : R2} (h1 : OpR X f r1) (h2 : OpR X f r2) : OpR X f (fun x y H Q => r1 x y H Q ∨ r2 x y H Q) :=
  fun pins s σ H x y v u Q I rx ry h => h.elim (h1 pins s σ H x y v u Q I rx ry) (h2 pins s σ H x y v u Q I rx ry)
end
/-! ### readings, step by step -/
section
variable {σ : L2.St} {H : Hp} {Q : VK} {D : Ends} {t u : TS} {te ta tb : TE} {tc td : TT} {v x y : V} {i : Nat} {r : R2}
theorem z_seq (h : t { D with nx := u D } σ H) : tSeq t u D σ H := h
theorem z_asg (h : te σ H fun x H1 => D.nx (σ.set i (some x)) H1) : tAsg te (gName i) D σ H := h
theorem z_asgG {g : TG} (h : te σ H fun x H1 => g x σ H1 D.nx) : tAsg te g D σ H := h
theorem z_gsub {to ti : TE} {rs : V → V → V → Hp → (Hp → Prop) → Prop} {Qs : L2.St → Hp → Prop} (h : to σ H fun o H1 => ti σ H1 fun i H2 => rs o i v H2 fun H3 => Qs σ H3) : gSub to ti rs v σ H Qs := h
theorem z_gname {Qs : L2.St → Hp → Prop} (h : Qs (σ.set i (some v)) H) : gName i v σ H Qs := h
theorem z_ret (h : te σ H D.rt) : tRet te D σ H := h
theorem z_retN (h : D.rt .non H) : tRetN D σ H := h
theorem z_drop (h : te σ H fun _ H1 => D.nx σ H1) : tDrop te D σ H := h
theorem z_ifS (h : tc σ H fun b H1 => if b = true then t D σ H1 else u D σ H1) : tIfS tc t u D σ H := h
theorem z_next (h : D.nx σ H) : tNext D σ H := h
theorem z_brk (h : D.bk σ H) : tBreak D σ H := h
theorem z_ct (h : D.ct σ H) : tCont D σ H := h
theorem z_var (h : σ[i]? = some (some v)) (k : Q v H) : tVar i σ H Q := ⟨v, h, k⟩
theorem z_c (k : Q v H) : tC v σ H Q := k
theorem z_op (h : ta σ H fun x H1 => tb σ H1 fun y H2 => r x y H2 Q) : tOp r ta tb σ H Q := h
theorem z_un {r : V → Hp → VK → Prop} (h : ta σ H fun x H1 => r x H1 Q) : tUn r ta σ H Q := h
theorem z_cb {r : List V → Hp → VK → Prop} {ta : TA} (h : ta σ H fun vs H1 => r vs H1 Q) : tCB r ta σ H Q := h
theorem z_nil {Q : List V → Hp → Prop} (h : Q [] H) : tNil σ H Q := h
theorem z_cons {Q : List V → Hp → Prop} {tr : TA} (h : ta σ H fun x H1 => tr σ H1 fun xs H2 => Q (x :: xs) H2) : tCons ta tr σ H Q := h
theorem z_call {sp : Sp} {dvs : List V} {E : XK} {ta : TA} (h : ta σ H fun vs H1 => sp (vs ++ dvs) H1 Q E) : tCall sp dvs E ta σ H Q := h
theorem z_test {Q : Bool → Hp → Prop} (h : te σ H fun x H1 => ∃ k, x = .bl k ∧ Q k H1) : tTest te σ H Q := h
theorem z_tB {Q : Bool → Hp → Prop} (h : te σ H fun x H1 => ∃ k, x = .bl k ∧ Q k H1) : tB te σ H Q := h
theorem z_and {Q : Bool → Hp → Prop} (h : tc σ H fun c H1 => if c = true then td σ H1 Q else Q false H1) : tAnd tc td σ H Q := h
theorem z_or {Q : Bool → Hp → Prop} (h : tc σ H fun c H1 => if c = true then Q true H1 else td σ H1 Q) : tOr tc td σ H Q := h
theorem z_not {Q : Bool → Hp → Prop} (h : tc σ H fun c H1 => Q (!c) H1) : tNot tc σ H Q := h
theorem z_yes {Q : Bool → Hp → Prop} (h : Q true H) : tYes σ H Q := h
theorem z_andV (h : ta σ H fun x H1 => ∃ c, x = .bl c ∧ if c = true then tb σ H1 Q else Q (.bl false) H1) : tAndV ta tb σ H Q := h
theorem z_orV (h : ta σ H fun x H1 => ∃ c, x = .bl c ∧ if c = true then Q (.bl true) H1 else tb σ H1 Q) : tOrV ta tb σ H Q := h
theorem z_notV (h : ta σ H fun x H1 => ∃ c, x = .bl c ∧ Q (.bl (!c)) H1) : tNotV ta σ H Q := h
theorem z_ifE (h : tc σ H fun c H1 => if c = true then ta σ H1 Q else tb σ H1 Q) : tIf tc ta tb σ H Q := h
theorem z_tup {ta : TA} (h : ta σ H fun xs H1 => xs.length ≤ sizeLine ∧ ∀ p, H1 p = none → Q (.ref p) (upd H1 p (.tup xs))) : tTup ta σ H Q := h
theorem z_lst {ta : TA} (h : ta σ H fun xs H1 => xs.length ≤ sizeLine ∧ ∀ p, H1 p = none → Q (.ref p) (upd H1 p (.lst xs))) : tLst ta σ H Q := h
theorem z_sl {r : V → Option Int → Option Int → Hp → VK → Prop} {tl th : TO} (h : te σ H fun x H1 => tl σ H1 fun l H2 => th σ H2 fun u H3 => r x l u H3 Q) : tSl r te tl th σ H Q := h
theorem z_noPart {Q : Option Int → Hp → Prop} (h : Q none H) : tNoPart σ H Q := h
theorem z_part {Q : Option Int → Hp → Prop} (h : te σ H fun x H1 => ∃ i, x = .int i ∧ Q (some i) H1) : tPart te σ H Q := h
theorem z_pk {i : Int} {P : Int → Prop} (h : P i) : ∃ j, V.int i = .int j ∧ P j := ⟨i, rfl, h⟩
theorem z_int1 {i : Int} {P : Int → Prop} {R : Prop} (h : P i) : (∃ j, [V.int i] = [.int j] ∧ P j) ∨ R := .inl ⟨i, rfl, h⟩
theorem z_bk {b : Bool} {P : Bool → Prop} (h : P b) : ∃ k, V.bl b = .bl k ∧ P k := ⟨b, rfl, h⟩
theorem z_I0 {g : Int → Int → V} {i j : Int} (h : Q (g i j) H) : rI0 g (.int i) (.int j) H Q := ⟨i, j, rfl, rfl, h⟩
theorem z_I {C : Int → Int → Prop} {g : Int → Int → V} {i j : Int} (hc : C i j) (h : Q (g i j) H) : rI C g (.int i) (.int j) H Q := ⟨i, j, rfl, rfl, hc, h⟩
theorem z_U {g : Int → V} {i : Int} (h : Q (g i) H) : rU g (.int i) H Q := ⟨i, rfl, h⟩
theorem z_eq (hs : scal x y = true) (h : Q (.bl (decide (x = y))) H) : rEq x y H Q := ⟨hs, h⟩
theorem z_ne (hs : scal x y = true) (h : Q (.bl (!decide (x = y))) H) : rNe x y H Q := ⟨hs, h⟩
theorem z_nx {f : L2.St → Hp → Prop} {a : VK} {b c : L2.St → Hp → Prop} (h : f σ H) : (Ends.mk f a b c).nx σ H := h
theorem z_rt {f : L2.St → Hp → Prop} {a : VK} {b c : L2.St → Hp → Prop} (h : a v H) : (Ends.mk f a b c).rt v H := h
theorem z_bk2 {f : L2.St → Hp → Prop} {a : VK} {b c : L2.St → Hp → Prop} (h : b σ H) : (Ends.mk f a b c).bk σ H := h
theorem z_ct2 {f : L2.St → Hp → Prop} {a : VK} {b c : L2.St → Hp → Prop} (h : c σ H) : (Ends.mk f a b c).ct σ H := h
theorem z_iT {A B : Prop} (h : A) : if true = true then A else B := iteT h
theorem z_iF {A B : Prop} (h : B) : if false = true then A else B := iteF h
theorem z_dec {p : Prop} [Decidable p] {A B : Prop} (h1 : p → A) (h2 : ¬ p → B) : if decide p = true then A else B := by
  by_cases h : p
  · rw [decide_eq_true h]; exact iteT (h1 h)
  · rw [decide_eq_false h]; exact iteF (h2 h)
theorem z_ndec {p : Prop} [Decidable p] {A B : Prop} (h1 : ¬ p → A) (h2 : p → B) : if (!decide p) = true then A else B := by
  by_cases h : p
  · rw [decide_eq_true h]; exact iteF (h2 h)
  · rw [decide_eq_false h]; exact iteT (h1 h)
theorem z_nT {A B : Prop} (h : B) : if (!true) = true then A else B := iteF h
theorem z_nF {A B : Prop} (h : A) : if (!false) = true then A else B := iteT h
theorem z_bool {b : Bool} {A B : Prop} (h1 : b = true → A) (h2 : b = false → B) : if b = true then A else B := by
  cases b
  · exact iteF (h2 rfl)
  · exact iteT (h1 rfl)
end
section
variable {σ : L2.St} {H : Hp} {Q : VK} {D : Ends} {t u : TS} {te ta tb : TE} {tc td : TT} {v x y : V} {i : Nat} {r : R2} {K : PySem.W.Frag}
theorem z_aug {ti : TIp} (h : σ[i]? = some (some x)) (k : te σ H fun y H1 => ti x y H1 fun z H2 => D.nx (σ.set i (some z)) H2) : tAug i te ti D σ H := ⟨x, h, k⟩
theorem z_ipI {f : Int → Int → Int} {i j : Int} (h : Q (.int (f i j)) H) : ipI f (.int i) (.int j) H Q := ⟨i, j, rfl, rfl, h⟩
theorem z_while (W : Nat → L2.St → Hp → Prop) (m0 : Nat) (h0 : W m0 σ H) (hs : ∀ m σ' H', W m σ' H' → tc σ' H' fun b H1 => if b = true then ∃ N : L2.St → Hp → Prop, (∀ σ2 H2, N σ2 H2 → ∃ m', m' < m ∧ W m' σ2 H2) ∧ t { D with nx := N, ct := N, bk := D.nx } σ' H1 else D.nx σ' H1) : tWhile tc t D σ H := ⟨W, ⟨m0, h0⟩, hs⟩
theorem z_again {m : Nat} {W : Nat → L2.St → Hp → Prop} (h : t { D with nx := fun σ2 H2 => ∃ m', m' < m ∧ W m' σ2 H2, ct := fun σ2 H2 => ∃ m', m' < m ∧ W m' σ2 H2, bk := D.nx } σ H) :
    ∃ N : L2.St → Hp → Prop, (∀ σ2 H2, N σ2 H2 → ∃ m', m' < m ∧ W m' σ2 H2) ∧ t { D with nx := N, ct := N, bk := D.nx } σ H := ⟨_, fun _ _ q => q, h⟩
theorem z_for {wi : TI} {g : TG} (h : wi σ H fun J H1 => ∃ W : Nat → Nat → L2.St → Hp → Prop, (∃ m, W 0 m σ H1) ∧ ∀ i m σ H, W i m σ H →
  (J.stop i H ∧ D.nx σ H) ∨ (J.go i H ∧ ∃ N : L2.St → Hp → Prop, (∀ σ' H', N σ' H' → ∃ m', m' < m ∧ W (i + 1) m' σ' H') ∧ ∀ x H', J.yld i H x H' → g x σ H' fun σ2 H2 => t { D with nx := N, ct := N, bk := D.nx } σ2 H2)) : tFor wi g t D σ H := h
theorem z_rng1 {ta : TA} {R : It → Hp → Prop} (h : ta σ H fun vs H1 => ∃ j : Int, vs = [.int j] ∧ -(2 ^ 62) ≤ j ∧ j < 2 ^ 62 ∧ R (Itr 0 j.toNat) H1) : iRng1 ta σ H R := h
theorem z_rng2 {ta : TA} {R : It → Hp → Prop} (h : ta σ H fun vs H1 => ∃ i j : Int, vs = [.int i, .int j] ∧ (-(2 ^ 62) ≤ i ∧ i < 2 ^ 62 ∧ -(2 ^ 62) ≤ j ∧ j < 2 ^ 62) ∧ R (Itr i (j - i).toNat) H1) : iRng2 ta σ H R := h
theorem z_ilist {R : It → Hp → Prop} (h : te σ H fun x H1 => ∃ a, x = .ref a ∧ (∃ xs, SqL K H1 a xs) ∧ R (Itl K a) H1) : iList K te σ H R := h
theorem z_itup {R : It → Hp → Prop} (h : te σ H fun x H1 => ∃ a, x = .ref a ∧ (∃ xs, SqT K H1 a xs) ∧ R (Itt K a) H1) : iTup K te σ H R := h
theorem z_lc {wi : TI} {g : TG} {vs : List Nat} (h : wi σ H fun J H1 => ∀ D, H1 D = none → ∃ W : Nat → Nat → Hp → Prop, (∃ m, W 0 m (upd H1 D (.lst []))) ∧ ∀ i m H, W i m H →
    (J.stop i H ∧ Q (.ref D) H) ∨ (J.go i H ∧ ∃ Nx : Hp → Prop, (∀ H', Nx H' → ∃ m', m' < m ∧ W (i + 1) m' H') ∧ ∀ x H', J.yld i H x H' → g x (wipe σ vs) H' fun σ2 H2 => wipe σ2 vs = wipe σ vs ∧ tc σ2 H2 fun b H3 =>
      if b = true then te σ2 H3 fun y H4 => ∃ acc, H4 D = some (.lst acc) ∧ acc.length < sizeLine ∧ Nx (upd H4 D (.lst (acc ++ [y]))) else Nx H3)) : tLc wi g tc te vs σ H Q := h
end
def rLenA (K : PySem.W.Frag) : List V → Hp → VK → Prop := fun xs H Q => ∃ x n, xs = [x] ∧ LenV K x H n ∧ Q (.int n) H
def rListOf (K : PySem.W.Frag) : List V → Hp → VK → Prop := fun xs H Q => ∃ p ys, xs = [.ref p] ∧ (SqL K H p ys ∨ SqT K H p ys) ∧ ∀ l, H l = none → Q (.ref l) (upd H l (.lst ys))
def rTupleOf (K : PySem.W.Frag) : List V → Hp → VK → Prop := fun xs H Q => ∃ p ys, xs = [.ref p] ∧ ((SqL K H p ys ∧ ∀ l, H l = none → Q (.ref l) (upd H l (.tup ys))) ∨ (SqT K H p ys ∧ Q (.ref p) H))
/-! ### sequences that stand in the heap, a list or a tuple -/
def SqA (H : Hp) (a : Addr) (xs : List V) : Prop := H a = some (.lst xs) ∨ H a = some (.tup xs)
theorem Same.new {H : Hp} {p : Addr} {o : HO} (h : H p = none) : Same H (upd H p o) := fun b u e => by rw [upd_ne (ne_of_none e h)]; exact e
theorem Same.upd {H H' : Hp} {p : Addr} {o : HO} (s : Same H H') (h : H p = none) : Same H (upd H' p o) := fun b u e => by rw [upd_ne (ne_of_none e h)]; exact s b u e
theorem SqA.mono {H H' : Hp} {a : Addr} {xs : List V} (s : Same H H') (h : SqA H a xs) : SqA H' a xs := h.imp (s _ _) (s _ _)
section
variable {H : Hp} {Q : VK} {K : PySem.W.Frag} {a : Addr} {xs : List V}
theorem SqA.len (h : SqA H a xs) : LenV K (.ref a) H xs.length := h.elim (fun h => .inl ⟨xs, SqL.of h, rfl⟩) fun h => .inr ⟨xs, SqT.of h, rfl⟩
theorem SqA.ix {i : Int} {v : V} (h : SqA H a xs) (hi : atI xs i = some v) (q : Q v H) : rIx K (.ref a) (.int i) H Q :=
  h.elim (fun h => .inl ⟨a, xs, i, v, rfl, rfl, SqL.of h, hi, q⟩) fun h => .inr (.inl ⟨a, xs, i, v, rfl, rfl, SqT.of h, hi, q⟩)
theorem SqA.or (h : SqA H a xs) : SqL K H a xs ∨ SqT K H a xs := h.imp SqL.of SqT.of
end
/-- a list or a tuple, wherever it stands -/
def SqX (K : PySem.W.Frag) (H : Hp) (a : Addr) (xs : List V) : Prop := SqL K H a xs ∨ SqT K H a xs
section
variable {H : Hp} {Q : VK} {K : PySem.W.Frag} {a : Addr} {xs : List V}
theorem SqX.len (h : SqX K H a xs) : LenV K (.ref a) H xs.length := h.elim (fun h => .inl ⟨xs, h, rfl⟩) fun h => .inr ⟨xs, h, rfl⟩
theorem SqX.ix {i : Int} {v : V} (h : SqX K H a xs) (hi : atI xs i = some v) (q : Q v H) : rIx K (.ref a) (.int i) H Q :=
  h.elim (fun h => .inl ⟨a, xs, i, v, rfl, rfl, h, hi, q⟩) fun h => .inr (.inl ⟨a, xs, i, v, rfl, rfl, h, hi, q⟩)
end
theorem at_int {xs : List V} {z : Int} {v : V} (h0 : 0 ≤ z) (h : xs[z.toNat]? = some v) : atI xs z = some v := at_of (by omega) h
theorem cut_to (xs : List V) (m : Nat) : cutV xs none (some (m : Int)) = xs.take m := by
  unfold cutV
  rw [HT.sIx_none, HT.sIx_nat, List.drop_zero, Nat.sub_zero, ← List.take_take, List.take_length]
theorem at_end {xs : List V} {v : V} (k : Nat) (hk : 1 ≤ k) (hl : k ≤ xs.length) (h : xs[xs.length - k]? = some v) : atI xs (-(k : Int)) = some v := by
  unfold atI ixN
  rw [if_neg (by omega), if_pos (by omega)]
  show xs[(-(k : Int) + (xs.length : Int)).toNat]? = some v
  rw [show (-(k : Int) + (xs.length : Int)).toNat = xs.length - k by omega]
  exact h
theorem cut_but (xs : List V) (h : 1 ≤ xs.length) : cutV xs none (some (-1)) = xs.take (xs.length - 1) := by
  unfold cutV
  rw [HT.sIx_none, List.drop_zero, Nat.sub_zero]
  have e : HT.sIx xs.length xs.length (some (-1)) = (-1 + (xs.length : Int)).toNat := by
    show (if (-1 : Int) < 0 then (-1 + (xs.length : Int)).toNat else min (-1 : Int).toNat xs.length) = _
    rw [if_pos (by decide)]
  rw [e, show (-1 + (xs.length : Int)).toNat = xs.length - 1 by omega]
/-! ### a tuple times 0, 1, .. -/
theorem tuple_mul1W (l : Addr) (items : Array Value) (n : Nat) (dd : Option Addr) (sl : Array (Option Value)) (u : Tok) (hz : items.isEmpty = false) :
    Meets (Builtin.«tuple.__mul__» ⟨[.ref l, .int 1 u], []⟩) (fun _ R s => s.heap.get? l = some { cls := .type "tuple", dict := dd, data := .seq items n, slots := sl } ∧ R (.ok (.ret (Value.ref l))) s) :=
  .of_wp fun prog w A R s h => by
    obtain ⟨hp, g, d, tk, os⟩ := s
    obtain ⟨hl, h⟩ := h
    have f1 := AutoSeq1.idx_int
    wp_walk using wpAny_loadPart' hl
    exact ⟨_, rfl, h⟩
theorem tuple_mul0W (l : Addr) (items : Array Value) (n : Nat) (dd : Option Addr) (sl : Array (Option Value)) (u : Tok) (hz : items.isEmpty = false) :
    Meets (Builtin.«tuple.__mul__» ⟨[.ref l, .int 0 u], []⟩) (fun _ R s => s.heap.get? l = some { cls := .type "tuple", dict := dd, data := .seq items n, slots := sl } ∧
      R (.ok (.ret (Value.ref s.heap.objs.size))) { s with heap := s.heap.push { cls := Value.type "tuple", data := Data.seq #[] }, toks := s.toks }) :=
  .of_wp fun prog w A R s h => by
    obtain ⟨hp, g, d, tk, os⟩ := s
    obtain ⟨hl, h⟩ := h
    have f1 := AutoSeq1.idx_int
    wp_walk using wpAny_loadPart' hl
    exact ⟨_, rfl, h⟩
def rRepA (K : PySem.W.Frag) : R2 := fun x y H Q => ∃ l k xs, x = .ref l ∧ y = .int k ∧ SqT K H l xs ∧ xs ≠ [] ∧ 0 ≤ k ∧ k ≤ 1000 ∧ xs.length ≤ 1000 ∧ (k = 1 → Q (.ref l) H) ∧ (k ≠ 1 → ∀ p, H p = none → Q (.ref p) (upd H p (.tup (List.replicate k.toNat xs).flatten)))
theorem op_repA {X : Cx} : OpR X (binaryOp .Mult) (rRepA X.K) := by
  intro pins s σ H x y v u Q I rx ry h
  obtain ⟨l, k, xs, rfl, rfl, hT, hne, h1, h2, hz, q1, q2⟩ := h
  by_cases hk2 : 2 ≤ k
  · exact op_repT pins s σ H _ _ v u Q I rx ry ⟨l, k, xs, rfl, rfl, hT, hne, hk2, h2, hz, q2 (by omega)⟩
  · cases rx
    obtain ⟨t, rfl⟩ := ry
    obtain ⟨its, r, ⟨⟨cls, dd, data, sl⟩, ho, hc, n, hd⟩, hs⟩ := I.tuple hT
    simp only at hc hd
    subst hc hd
    have hle : its.length = xs.length := r.length.symm
    have hi : its.toArray.isEmpty = false := by
      cases its with
      | nil => exact absurd (List.eq_nil_of_length_eq_zero hle.symm) hne
      | cons a b => rfl
    by_cases hk : k = 1
    · subst hk
      exact wpAny_binaryOp_repeat_ref (T := "tuple") (U := "int") (by decide) ⟨_, ho, rfl⟩ (fun s' => typeIs_int s' 1 t) noFill_tuple_mul F.fills_int_mul F.slot_int_rmul repeat_tuple F.slot_int_index.lookup
        (call_meets F.slot_int_rmul (typeIs_int s 1 t) F.entry_int_rmul (F.args_int_rmul_2 _ _) (int_rmul_tuple 1 t l its.toArray n dd sl)
          ⟨ho, rfl, ⟨_, ho, rfl⟩, call_meets F.slot_tuple_mul ⟨_, ho, rfl⟩ F.entry_tuple_mul (F.args_tuple_mul_2 _ _) (tuple_mul1W l its.toArray n dd sl t hi) ⟨ho, ⟨.ref l, H, I, rfl, q1 rfl⟩⟩⟩)
    · have hk0 : k = 0 := by omega
      subst hk0
      refine wpAny_binaryOp_repeat_ref (T := "tuple") (U := "int") (by decide) ⟨_, ho, rfl⟩ (fun s' => typeIs_int s' 0 t) noFill_tuple_mul F.fills_int_mul F.slot_int_rmul repeat_tuple F.slot_int_index.lookup
        (call_meets F.slot_int_rmul (typeIs_int s 0 t) F.entry_int_rmul (F.args_int_rmul_2 _ _) (int_rmul_tuple 0 t l its.toArray n dd sl)
          ⟨ho, rfl, ⟨_, ho, rfl⟩, call_meets F.slot_tuple_mul ⟨_, ho, rfl⟩ F.entry_tuple_mul (F.args_tuple_mul_2 _ _) (tuple_mul0W l its.toArray n dd sl t hi) ⟨ho, ?_⟩⟩)
      refine ⟨.ref s.heap.objs.size, _, I.laid (t' := s.toks) (o := .tup []) (fun b ob q => Heap.get?_push_of_some _ q) (Nat.le_refl _) ?_, rfl, q2 (by decide) _ (I.hok.fresh (Nat.le_refl _))⟩
      exact ⟨by show 0 ≤ sizeLine; omega, [], .nil, IsTup.new _ _⟩
/-! ### an expression, then the rest, with a word between them -/
def tMid (t : TE) : TE := fun σ H Q => ∃ M : VK, t σ H M ∧ ∀ v H', M v H' → Q v H'
theorem pe_cut {X : Cx} {e : Expr} {t : TE} (h : PE X e t) : PE X e (tMid t) := by
  refine ⟨fun pins s σ H Q I hw => ?_⟩
  obtain ⟨M, h1, h2⟩ := hw
  exact thn (h.run pins s σ H M I h1) fun u s' ⟨v, H', I', r, m⟩ => ⟨v, H', I', r, h2 v H' m⟩
theorem z_mid {σ : L2.St} {H : Hp} {Q : VK} {t : TE} (M : VK) (h1 : t σ H M) (h2 : ∀ v H', M v H' → Q v H') : tMid t σ H Q := ⟨M, h1, h2⟩
def tMidT (t : TT) : TT := fun σ H Q => ∃ M : Bool → Hp → Prop, t σ H M ∧ ∀ v H', M v H' → Q v H'
theorem pt_cut {X : Cx} {e : Expr} {t : TT} (h : PT X e t) : PT X e (tMidT t) := by
  refine ⟨fun pins s σ H Q I hw => ?_⟩
  obtain ⟨M, h1, h2⟩ := hw
  exact thn (h.run pins s σ H M I h1) fun u s' ⟨H', I', m⟩ => ⟨H', I', h2 u H' m⟩
theorem z_midT {σ : L2.St} {H : Hp} {Q : Bool → Hp → Prop} {t : TT} (M : Bool → Hp → Prop) (h1 : t σ H M) (h2 : ∀ v H', M v H' → Q v H') : tMidT t σ H Q := ⟨M, h1, h2⟩
def tMidS (t u : TS) : TS := fun D σ H => ∃ Mid : L2.St → Hp → Prop, t { D with nx := Mid } σ H ∧ ∀ σ' H', Mid σ' H' → u D σ' H'
theorem pss_mid {X : Cx} {st : Stmt} {rest : List Stmt} {t u : TS} (h1 : PS X st t) (h2 : PSs X rest u) : PSs X (st :: rest) (tMidS t u) := C8.pss_cut h1 h2
theorem z_midS {σ : L2.St} {H : Hp} {D : Ends} {t u : TS} (M : L2.St → Hp → Prop) (h1 : t { D with nx := M } σ H) (h2 : ∀ σ' H', M σ' H' → u D σ' H') : tMidS t u D σ H := ⟨M, h1, h2⟩
/-- all but one object stay -/
def SameX (a : Addr) (H H' : Hp) : Prop := ∀ b o, b ≠ a → H b = some o → H' b = some o
theorem SameX.refl (a : Addr) (H : Hp) : SameX a H H := fun _ _ _ h => h
theorem SameX.trans {a : Addr} {H H1 H2 : Hp} (x : SameX a H H1) (y : SameX a H1 H2) : SameX a H H2 := fun b o n h => y b o n (x b o n h)
theorem SameX.of {a : Addr} {H H1 : Hp} (x : Same H H1) : SameX a H H1 := fun b o _ h => x b o h
theorem SameX.self {a : Addr} {H H' : Hp} {o : HO} (x : SameX a H H') : SameX a H (upd H' a o) := fun b u n h => by rw [upd_ne n]; exact x b u n h
theorem SameX.upd {a : Addr} {H H' : Hp} {p : Addr} {o : HO} (x : SameX a H H') (h : H p = none) : SameX a H (upd H' p o) := fun b u n e => by rw [upd_ne (ne_of_none e h)]; exact x b u n e
theorem SameX.same {a : Addr} {H H' : Hp} (x : SameX a H H') (h : H a = none) : Same H H' := fun b o e => x b o (ne_of_none e h) e
/-! ### methods and classes -/
/-- a method of the class at C as it stands behind the top -/
def MDfn (K : PySem.W.Frag) (C : Addr) (m qual : Str) (st : Stmt) : Prop :=
  ∃ fd : FuncData, FunD K m qual (defArgs st) (defBody st) (defScope st) [] [] (He.ma K C m) fd ∧ Meth K C m (He.ma K C m)
def MBnd (x qual : Str) (st : Stmt) (ps : List Str) : Prop := ∀ (kV doc pm : Value) (an : Option Addr) (cdv ct : Value) (us : List Value), us.length = ps.length →
  bindArgs (PySem.W.fnOf x qual (defArgs st) (defBody st) (defScope st) .none kV doc pm an cdv ct) ⟨us, []⟩ = pure (ps.zip us)
structure MCal (P : Program) (w : World) (K : PySem.W.Frag) (mg : Str → Option Value) (base : Heap) (k : Nat) (C : Addr) (m : Str) (sp : Sp) : Prop where
  ex : ∃ (f : Addr) (fd : FuncData) (ps : List Str), Cls K C ∧ Meth K C m f ∧ FnOk P w K mg base L2.CX0 k f fd ps sp ∧ Binds K fd ps []
/-- a class that may be made; sp: its __init__ -/
structure KCal (P : Program) (w : World) (K : PySem.W.Frag) (mg : Str → Option Value) (base : Heap) (k : Nat) (x : Str) (C : Addr) (sp : Sp) : Prop where
  ex : ∃ (f : Addr) (fd : FuncData) (ps : List Str), Mk K C f ∧ FnOk P w K mg base L2.CX0 k f fd ps sp ∧ mg x = some (.ref C) ∧ Binds K fd ps []
section
variable {P : Program} {w : World} {K : PySem.W.Frag} {mg : Str → Option Value} {base : Heap}
theorem mfn_mk {C : Addr} {m qual : Str} {st : Stmt} {N ps : List Str} {k : Nat} {sp : Sp} {f : Addr} {fd : FuncData} (F : FunD K m qual (defArgs st) (defBody st) (defScope st) [] [] f fd) (S : FnScope N ps (defScope st)) (len : ∀ vs H Q E, sp vs H Q E → vs.length = ps.length)
    (hbody : ∀ (f : Addr) (cdv : Value) (A : Around) (outer : List Env) (s : Shared) (H : Hp) (vs : List V) (Q : VK) (E : XK), Room k (A.deeper (envOfC qual (defScope st) s.heap.objs.size f cdv)) → sp vs H Q E →
      ∃ t, PSs (cxOf L2.CX0 P w K mg base N qual (defScope st) f cdv A outer s H E).nox (defBody st) t ∧ t { nx := fun _ H' => Q .non H', rt := Q } (start N vs) H) : FnOk P w K mg base L2.CX0 (k + 1) f fd ps sp := by
  refine F.ok S len fun cdv A outer s H vs Q E hr h => ?_
  obtain ⟨t, ht, hq⟩ := hbody f cdv A outer s H vs Q E hr h
  exact ⟨t, ht.nox, hq⟩
theorem mcal_mk {C : Addr} {m qual : Str} {st : Stmt} {N ps : List Str} {k : Nat} {sp : Sp} (c : Cls K C) (F : MDfn K C m qual st) (b : MBnd m qual st ps) (S : FnScope N ps (defScope st)) (len : ∀ vs H Q E, sp vs H Q E → vs.length = ps.length)
    (hbody : ∀ (f : Addr) (cdv : Value) (A : Around) (outer : List Env) (s : Shared) (H : Hp) (vs : List V) (Q : VK) (E : XK), Room k (A.deeper (envOfC qual (defScope st) s.heap.objs.size f cdv)) → sp vs H Q E →
      ∃ t, PSs (cxOf L2.CX0 P w K mg base N qual (defScope st) f cdv A outer s H E).nox (defBody st) t ∧ t { nx := fun _ H' => Q .non H', rt := Q } (start N vs) H) : MCal P w K mg base (k + 1) C m sp := by
  obtain ⟨fd, F, hm⟩ := F
  exact ⟨_, fd, ps, c, hm, mfn_mk (C := C) F S len hbody, F.bindsN b⟩
theorem kcal_mk {C : Addr} {x qual : Str} {st : Stmt} {N ps : List Str} {k : Nat} {sp : Sp} (M : Mk K C (He.ma K C "__init__")) (hx : mg x = some (.ref C)) (F : MDfn K C "__init__" qual st) (b : MBnd "__init__" qual st ps) (S : FnScope N ps (defScope st)) (len : ∀ vs H Q E, sp vs H Q E → vs.length = ps.length)
    (hbody : ∀ (f : Addr) (cdv : Value) (A : Around) (outer : List Env) (s : Shared) (H : Hp) (vs : List V) (Q : VK) (E : XK), Room k (A.deeper (envOfC qual (defScope st) s.heap.objs.size f cdv)) → sp vs H Q E →
      ∃ t, PSs (cxOf L2.CX0 P w K mg base N qual (defScope st) f cdv A outer s H E).nox (defBody st) t ∧ t { nx := fun _ H' => Q .non H', rt := Q } (start N vs) H) : KCal P w K mg base (k + 1) x C sp := by
  obtain ⟨fd, F, hm⟩ := F
  exact ⟨_, fd, ps, M, mfn_mk (C := C) F S len hbody, hx, F.bindsN b⟩
theorem Cal.bot {x : Str} {st : Stmt} {ps : List Str} (F : Dfn K mg x st) (b : Bnd x st ps) {sp : Sp} (h : ∀ vs H Q E, ¬ sp vs H Q E) : Cal P w K mg base 0 x sp := by
  obtain ⟨f, fd, F, hm⟩ := F
  exact ⟨f, fd, ps, ⟨fun vs H Q E q => (h vs H Q E q).elim, fun A outer s H args us vs Q E _ _ _ _ q => (h vs H Q E q).elim⟩, hm, F.kp, F.bindsN b⟩
end
section
variable {X : Cx} {k j : Nat} {x m : Str} {C : Addr} {sp : Sp} {p pos apos : Pos} {e o : Expr} {es : List Expr} {ta : TE} {t : TA}
theorem pe_ml {pl : Sem Bool} (c : MCal X.prog X.w X.K X.mg X.base k C m sp) (hr : Room j X.A) (hk : k ≤ j) (he : PE X o ta) (ha : PA X (e :: es) t)
    (hst : starEach (e :: es) X.env = (false, eval e X.env) :: starEach es X.env := by rfl) (hpl : (backTo pos (starEach es X.env)).any (·.1) = false := by rfl)
    (ht : eval (.Call (.Attribute o m apos) (e :: es) [] pos) X.env = (do
      let ov ← eval o X.env
      standAt apos.atName
      let (f, first) ← holding [ov] (getMethod ov m pl)
      callWith pos f first (backTo pos (starEach (e :: es) X.env)) (backToKw pos (keywordEach [] X.env))) := by rfl) :
    PE X (.Call (.Attribute o m apos) (e :: es) [] pos) (tMeth C m sp [] C8.E0 ta t) := by
  obtain ⟨f, fd, ps, hc, hm, F, b⟩ := c.ex
  exact pe_meth (pl := pl) he hc hm F (hr.mono hk) b .nil C8.pass0 ha hst hpl ht
theorem pe_ml0 {pl : Sem Bool} (c : MCal X.prog X.w X.K X.mg X.base k C m sp) (hr : Room j X.A) (hk : k ≤ j) (he : PE X o ta)
    (ht : eval (.Call (.Attribute o m apos) [] [] pos) X.env = (do
      let ov ← eval o X.env
      standAt apos.atName
      let (f, first) ← holding [ov] (getMethod ov m pl)
      callWith pos f first (backTo pos (starEach [] X.env)) (backToKw pos (keywordEach [] X.env))) := by rfl) :
    PE X (.Call (.Attribute o m apos) [] [] pos) (tMeth C m sp [] C8.E0 ta tNil) := by
  obtain ⟨f, fd, ps, hc, hm, F, b⟩ := c.ex
  exact pe_meth0 (pl := pl) he hc hm F (hr.mono hk) b .nil C8.pass0 ht
theorem pe_kl (c : KCal X.prog X.w X.K X.mg X.base k x C sp) (hr : Room j X.A) (hk : k + 1 ≤ j) (hg : Gl X x) (ha : PA X (e :: es) t)
    (hdb : (x == ("__debug__" : Str)) = false := by decide) (he : starEach (e :: es) X.env = (false, eval e X.env) :: starEach es X.env := by rfl) (hpl : (backTo pos (starEach es X.env)).any (·.1) = false := by rfl) :
    PE X (.Call (.Name x p) (e :: es) [] pos) (tMake C sp [] C8.E0 t) := by
  obtain ⟨f, fd, ps, M, F, hm, b⟩ := c.ex
  exact pe_make M F (hr.mono hk) hg hm b .nil C8.pass0 ha hdb he hpl
theorem pe_gs {z : Str} (hg : Gl X x) (h : ∃ t, X.mg x = some (.str z t)) (hd : (x == ("__debug__" : Str)) = false := by decide) : PE X (.Name x pos) (tC (.str z)) := by
  obtain ⟨t, h⟩ := h
  exact pe_glob hg h ⟨t, rfl⟩ hd
theorem pe_gi {z : Int} (hg : Gl X x) (h : ∃ t, X.mg x = some (.int z t)) (hd : (x == ("__debug__" : Str)) = false := by decide) : PE X (.Name x pos) (tC (.int z)) := by
  obtain ⟨t, h⟩ := h
  exact pe_glob hg h ⟨t, rfl⟩ hd
theorem pe_gr {a : Addr} (hg : Gl X x) (h : X.mg x = some (.ref a)) (hd : (x == ("__debug__" : Str)) = false := by decide) : PE X (.Name x pos) (tC (.ref a)) := pe_glob hg h rfl hd
theorem pi_or {tg : Expr} {w1 w2 : TI} (h1 : PI X tg e w1) (h2 : PI X tg e w2) : PI X tg e (fun σ H R => w1 σ H R ∨ w2 σ H R) :=
  ⟨fun pins s σ H R I h => h.elim (h1.run pins s σ H R I) (h2.run pins s σ H R I)⟩
end
/-- o.m(..), C(..): what the reading asks -/
theorem z_meth {σ : L2.St} {H : Hp} {Q : VK} {C : Addr} {m : Str} {sp : Sp} {dvs : List V} {E : XK} {ta : TE} {t : TA} (h : ta σ H fun x H1 => ∃ a dx fs, x = .ref a ∧ H1 a = some (.ins C dx fs) ∧ fs.lookup m = none ∧ t σ H1 fun vs H2 => sp (x :: (vs ++ dvs)) H2 Q E) : tMeth C m sp dvs E ta t σ H Q := h
theorem z_make {σ : L2.St} {H : Hp} {Q : VK} {C : Addr} {sp : Sp} {dvs : List V} {E : XK} {t : TA} (h : t σ H fun vs H1 => ∀ x dx, H1 x = none → H1 dx = none → dx ≠ x → sp (.ref x :: (vs ++ dvs)) (upd (upd H1 dx (.own x)) x (.ins C dx [])) (fun v H2 => v = .non ∧ Q (.ref x) H2) E) : tMake C sp dvs E t σ H Q := h
theorem z_fld {σ : L2.St} {H : Hp} {Q : VK} {K : PySem.W.Frag} {ta : TE} {f : Str} (h : ta σ H fun x H1 => ∃ a C dx fs v, x = .ref a ∧ H1 a = some (.ins C dx fs) ∧ Cls K C ∧ NoAttr K C f ∧ fs.lookup f = some v ∧ Q v H1) : tFld K ta f σ H Q := h
theorem z_sfld {σ : L2.St} {H : Hp} {D : Ends} {K : PySem.W.Frag} {ta tv : TE} {f : Str} (h : tv σ H fun y H1 => ta σ H1 fun x H2 => ∃ a C dx fs, x = .ref a ∧ H2 a = some (.ins C dx fs) ∧ Cls K C ∧ NoAttr K C f ∧ fs.length < 1000 ∧ D.nx σ (upd H2 a (.ins C dx (putF f y fs)))) : sFld K ta tv f D σ H := h
theorem z_chain {σ : L2.St} {H : Hp} {Q : VK} {r r' : R2} {ta tb tc : TE} (h : ta σ H fun x H1 => tb σ H1 fun y H2 => r x y H2 fun z H3 => ∃ k, z = .bl k ∧ (if k = true then tc σ H3 fun w' H4 => r' y w' H4 Q else Q (.bl false) H3)) : tChain r r' ta tb tc σ H Q := h
theorem z_par {σ : L2.St} {H : Hp} {D : Ends} {i j : Nat} {ta : TA} (h : ta σ H fun vs H1 => ∃ v w, vs = [v, w] ∧ D.nx ((σ.set i (some v)).set j (some w)) H1) : tPar i j ta D σ H := h
theorem z_vs2 {x y : V} {P : V → V → Prop} (h : P x y) : ∃ v w, [x, y] = [v, w] ∧ P v w := ⟨x, y, rfl, h⟩
theorem z_istr {σ : L2.St} {H : Hp} {te : TE} {R : It → Hp → Prop} (h : te σ H fun v H1 => ∃ x, v = .str x ∧ R (Its x) H1) : iStr te σ H R := h
theorem z_inT {K : PySem.W.Frag} {H : Hp} {Q : VK} {p : Addr} {xs : List V} {x : V} (h : SqT K H p xs) (hx : flatV x = true) (ha : xs.all flatV = true) (q : Q (.bl (inV x xs)) H) : rIn K false x (.ref p) H Q := ⟨p, xs, rfl, .inr h, hx, ha, q⟩
theorem z_niT {K : PySem.W.Frag} {H : Hp} {Q : VK} {p : Addr} {xs : List V} {x : V} (h : SqT K H p xs) (hx : flatV x = true) (ha : xs.all flatV = true) (q : Q (.bl (!inV x xs)) H) : rIn K true x (.ref p) H Q := ⟨p, xs, rfl, .inr h, hx, ha, q⟩
/-! ### a dict of the module with text keys, as a list of pairs -/
def TabD (K : PySem.W.Frag) (w : World) (d : Addr) (kvs : List (Str × V)) : Prop := ∃ es n, KDict K w d es n ∧ ∀ z : Str,
  match kvs.lookup z with
  | some v => ∃ u, PySem.W.nsIn K d z = some (some u) ∧ RelV v u
  | none => PySem.W.nsIn K d z = some none
section
variable {X : Cx} {d : Addr} {kvs : List (Str × V)}
theorem op_in_tab (D : TabD X.K X.w d kvs) : OpR X (compareOp .In) (fun x y H Q => ∃ z : Str, x = .str z ∧ y = .ref d ∧ Q (.bl (kvs.lookup z).isSome) H) := by
  obtain ⟨es, n, D, hz⟩ := D
  intro pins s σ H x y v u Q I rx ry h
  obtain ⟨z, rfl, rfl, q⟩ := h
  have hz := hz z
  cases e : kvs.lookup z with
  | none =>
    rw [e] at hz q
    exact op_in_kd D pins s σ H _ _ v u Q I rx ry ⟨z, none, rfl, rfl, hz, q⟩
  | some v0 =>
    rw [e] at hz q
    obtain ⟨u0, h1, h2⟩ := hz
    exact op_in_kd D pins s σ H _ _ v u Q I rx ry ⟨z, some u0, rfl, rfl, h1, q⟩
theorem op_notIn_tab (D : TabD X.K X.w d kvs) : OpR X (compareOp .NotIn) (fun x y H Q => ∃ z : Str, x = .str z ∧ y = .ref d ∧ Q (.bl (!(kvs.lookup z).isSome)) H) := by
  obtain ⟨es, n, D, hz⟩ := D
  intro pins s σ H x y v u Q I rx ry h
  obtain ⟨z, rfl, rfl, q⟩ := h
  have hz := hz z
  cases e : kvs.lookup z with
  | none =>
    rw [e] at hz q
    exact op_notIn_kd D pins s σ H _ _ v u Q I rx ry ⟨z, none, rfl, rfl, hz, q⟩
  | some v0 =>
    rw [e] at hz q
    obtain ⟨u0, h1, h2⟩ := hz
    exact op_notIn_kd D pins s σ H _ _ v u Q I rx ry ⟨z, some u0, rfl, rfl, h1, q⟩
theorem ix_tab (D : TabD X.K X.w d kvs) : IxR X (fun x y H Q => ∃ (z : Str) (v0 : V), x = .ref d ∧ y = .str z ∧ kvs.lookup z = some v0 ∧ Q v0 H) := by
  obtain ⟨es, n, D, hz⟩ := D
  intro value slice pins s σ H x y v u Q I rx ry h hs
  obtain ⟨z, v0, rfl, rfl, e, q⟩ := h
  have hz := hz z
  rw [e] at hz
  obtain ⟨u0, h1, h2⟩ := hz
  have rx' := rx
  cases rx'
  exact tail_any (kd_type D I) slot_dict_getitem.lookup (op_item_kd D pins s σ H _ _ _ u Q I rx ry ⟨z, u0, v0, rfl, rfl, h1, h2, q⟩) hs
end
/-- the dict's entries, looked at -/
def entL : List DictEntry → List (Str × V) → Bool
  | [], [] => true
  | e :: es, (k, v) :: kvs => (match e.key with
    | .str x _ => decide (x = k)
    | _ => false) && He.relB v e.val && entL es kvs
  | _, _ => false
def entB (K : PySem.W.Frag) (a : Addr) (kvs : List (Str × V)) : Bool := match K.lookup a with
  | some ⟨_, _, .dict es _, _⟩ => entL es.toList kvs
  | _ => false
theorem entL_find : ∀ {es : List DictEntry} {kvs : List (Str × V)}, entL es kvs = true → ∀ z : Str,
    match kvs.lookup z with
    | some v => ∃ e, es.find? (·.key.isStr z) = some e ∧ RelV v e.val
    | none => es.find? (·.key.isStr z) = none ∧ es.any (·.refKey) = false
  | [], [], _, z => ⟨rfl, rfl⟩
  | [], _ :: _, h, _ => by cases h
  | _ :: _, [], h, _ => by cases h
  | e :: es, (k, v) :: kvs, h, z => by
    obtain ⟨h1, h3⟩ := He.ba (show (((match e.key with
      | .str x _ => decide (x = k)
      | _ => false) && He.relB v e.val) && entL es kvs) = true from h)
    obtain ⟨h1, h2⟩ := He.ba h1
    have ih := entL_find h3 z
    obtain ⟨x, t, ek⟩ : ∃ x t, e.key = .str x t := by
      cases q : e.key with
      | str x t => exact ⟨x, t, rfl⟩
      | _ => rw [q] at h1; cases h1
    rw [ek] at h1
    have hx : x = k := of_decide_eq_true h1
    subst hx
    by_cases hz : z = x
    · subst hz
      have e1 : List.lookup z ((z, v) :: kvs) = some v := by rw [List.lookup_cons]; simp
      rw [e1]
      refine ⟨e, ?_, He.relB_ok h2⟩
      rw [List.find?_cons, ek]
      simp [Value.isStr]
    · have e1 : List.lookup z ((x, v) :: kvs) = List.lookup z kvs := by
        rw [List.lookup_cons]
        have : (z == x) = false := beq_eq_false_iff_ne.mpr hz
        rw [this]
      rw [e1]
      have e2 : (e :: es).find? (·.key.isStr z) = es.find? (·.key.isStr z) := by
        rw [List.find?_cons, ek]
        have : (Value.str x t).isStr z = false := by
          simp [Value.isStr]
          intro q; exact hz q.symm
        rw [this]
      have e3 : (e :: es).any (·.refKey) = es.any (·.refKey) := by
        rw [List.any_cons]
        have : e.refKey = false := by unfold DictEntry.refKey; rw [ek]
        rw [this]; rfl
      rw [e2, e3]
      exact ih
theorem tab_ok {K : PySem.W.Frag} {w : World} {a : Addr} {kvs : List (Str × V)} (h : ∃ es n, KDict K w a es n) (hb : entB K a kvs = true) : TabD K w a kvs := by
  obtain ⟨es, n, D⟩ := h
  refine ⟨es, n, D, fun z => ?_⟩
  unfold entB at hb
  rw [D.at_] at hb
  have q := entL_find (show entL es.toList kvs = true from hb) z
  cases e : kvs.lookup z with
  | none =>
    rw [e] at q
    show PySem.W.nsIn K a z = some none
    unfold PySem.W.nsIn
    rw [D.at_]
    obtain ⟨q1, q2⟩ := q
    show (match es.toList.find? (·.key.isStr z) with | some e => some (some e.val) | none => if es.toList.any (·.refKey) then none else some none) = some none
    rw [q1, q2]
    rfl
  | some v =>
    rw [e] at q
    obtain ⟨en, q1, q2⟩ := q
    refine ⟨en.val, ?_, q2⟩
    unfold PySem.W.nsIn
    rw [D.at_]
    show (match es.toList.find? (·.key.isStr z) with | some e => some (some e.val) | none => if es.toList.any (·.refKey) then none else some none) = some (some en.val)
    rw [q1]
/-! ### operators that an own class defines -/
def rOwn1 (C : Addr) (sp : Sp) : V → Hp → VK → Prop := fun x H Q => ∃ a dx fs, x = .ref a ∧ H a = some (.ins C dx fs) ∧ sp [.ref a] H Q C8.E0
def rOwn2 (C : Addr) (sp : Sp) : R2 := fun x y H Q => ∃ a b dx dy fs gs, x = .ref a ∧ y = .ref b ∧ H a = some (.ins C dx fs) ∧ H b = some (.ins C dy gs) ∧ sp [.ref a, .ref b] H Q C8.E0
section
variable {X : Cx} {k j : Nat} {C : Addr} {sp : Sp}
theorem un_inv_own (c : MCal X.prog X.w X.K X.mg X.base k C "__invert__" sp) (hr : Room j X.A) (hk : k ≤ j) : UnR X (unaryOp .Invert) (rOwn1 C sp) := by
  intro pins s σ H x v Q I rx h
  obtain ⟨a, dx, fs, rfl, ha, h⟩ := h
  cases rx
  obtain ⟨f, fd, ps, hc, hm, F, b⟩ := c.ex
  obtain ⟨mA, J, _⟩ := ins_get I.hok ha
  obtain ⟨od, J, _⟩ := J.look
  obtain ⟨m, hF⟩ := I.fr
  exact PySem.W.ksp_inv hF I.ok.mod.kin J hm.at_ hm.fn (run_fn (vs := [.ref a]) F (hr.mono hk) b .nil C8.pass0 I (.cons rfl .nil) h)
theorem un_pos_own (c : MCal X.prog X.w X.K X.mg X.base k C "__pos__" sp) (hr : Room j X.A) (hk : k ≤ j) : UnR X (unaryOp .UAdd) (rOwn1 C sp) := by
  intro pins s σ H x v Q I rx h
  obtain ⟨a, dx, fs, rfl, ha, h⟩ := h
  cases rx
  obtain ⟨f, fd, ps, hc, hm, F, b⟩ := c.ex
  obtain ⟨mA, J, _⟩ := ins_get I.hok ha
  obtain ⟨od, J, _⟩ := J.look
  obtain ⟨m, hF⟩ := I.fr
  exact PySem.W.ksp_pos hF I.ok.mod.kin J hm.at_ hm.fn (run_fn (vs := [.ref a]) F (hr.mono hk) b .nil C8.pass0 I (.cons rfl .nil) h)
theorem op_own {op : Operator} {nm : Str} (hn : PySem.dunder op.info.2 = nm) (c : MCal X.prog X.w X.K X.mg X.base k C nm sp) (hsf : PySem.W.selfFirst X.K C = true) (hr : Room j X.A) (hk : k ≤ j) : OpR X (binaryOp op) (rOwn2 C sp) := by
  intro pins s σ H x y v u Q I rx ry h
  obtain ⟨a, b, dx, dy, fs, gs, rfl, rfl, ha, hb, h⟩ := h
  cases rx
  cases ry
  obtain ⟨f, fd, ps, hc, hm, F, bi⟩ := c.ex
  obtain ⟨mA, J, _⟩ := ins_get I.hok ha
  obtain ⟨od, J, _⟩ := J.look
  obtain ⟨mB, J', _⟩ := ins_get I.hok hb
  obtain ⟨od', J', _⟩ := J'.look
  obtain ⟨m, hF⟩ := I.fr
  subst hn
  refine PySem.W.binop_K hF I.ok.mod.kin J J'.type hsf hm.at_ hm.fn (thn (run_fn (vs := [.ref a, .ref b]) F (hr.mono hk) bi .nil C8.pass0 I (.cons rfl (.cons rfl .nil)) h) fun r s' q => ?_)
  have q' := q
  obtain ⟨z, H', I', rz, qz⟩ := q'
  cases z with
  | int i => obtain ⟨t, rfl⟩ := rz; exact q
  | str i => obtain ⟨t, rfl⟩ := rz; exact q
  | byt i => obtain ⟨t, rfl⟩ := rz; exact q
  | flt i => obtain ⟨t, rfl⟩ := rz; exact q
  | _ => cases rz; exact q
end
theorem call_len_own {X : Cx} {k j : Nat} {C : Addr} {sp : Sp} (c : MCal X.prog X.w X.K X.mg X.base k C "__len__" sp) (hr : Room j X.A) (hk : k + 1 ≤ j) :
    CallR X (.builtin "len") (fun xs H Q => ∃ a dx fs, xs = [.ref a] ∧ H a = some (.ins C dx fs) ∧ sp [.ref a] H (fun v H' => ∃ n : Nat, v = .int (n : Int) ∧ n < 2 ^ 62 ∧ Q (.int (n : Int)) H') C8.E0) := by
  intro pins s σ H xs us Q I r h
  obtain ⟨a, dx, fs, rfl, ha, h⟩ := h
  obtain ⟨u, rfl, ru⟩ := vals1 r
  cases ru
  obtain ⟨f, fd, ps, hc, hm, F, b⟩ := c.ex
  obtain ⟨mA, J, _⟩ := ins_get I.hok ha
  obtain ⟨od, J, _⟩ := J.look
  obtain ⟨m, hF⟩ := I.fr
  have hl := F.len _ _ _ _ h
  have r2 : Vals [V.ref a] [Value.ref a] := .cons rfl .nil
  refine PySem.W.len_K hF I.ok.mod.kin J hm.at_ hm.fn (wpAny_call (codeAny_mono (F.run X.A.in1 X.stack s H ⟨[.ref a], []⟩ [.ref a] [.ref a] _ C8.E0 (hr.mono hk).in1 I.env0.in1 (by
    have := b s [.ref a] I.kIn (by simpa using hl)
    simpa using this) r2 h) fun r s' hq => ?_))
  cases r with
  | error e => exact False.elim hq
  | ok fl =>
    cases fl with
    | ret w =>
      obtain ⟨z, H', I', rz, n, ez, hn, q⟩ := I.after hq
      subst ez
      obtain ⟨t, rfl⟩ := rz
      exact ⟨⟨by omega, by omega⟩, .int (n : Int), H', I'.tok _, ⟨_, rfl⟩, q⟩
    | next => exact False.elim hq
    | brk => exact False.elim hq
    | cont => exact False.elim hq
/-- a list or a tuple walked -/
theorem iX {K : PySem.W.Frag} {σ : L2.St} {H : Hp} {a : Addr} {xs : List V} {i : Nat} {R : It → Hp → Prop} (hx : SqX K H a xs) (hv : σ[i]? = some (some (.ref a)))
    (h : ∀ (J : It) (G : Hp → Prop), (∀ H', Same H H' → G H') → Walk J xs.length G (YAt xs) → R J H) : iList K (tVar i) σ H R ∨ iTup K (tVar i) σ H R := by
  rcases hx with hx | hx
  · exact .inl ⟨_, hv, a, rfl, ⟨xs, hx⟩, h _ _ (fun H' s => s.seq hx) walk_list⟩
  · refine .inr ⟨_, hv, a, rfl, ⟨xs, hx⟩, h _ _ (fun H' s => ?_) walk_tup⟩
    rcases hx with (h | ⟨o, h⟩) | h
    · exact .inl (.inl (s _ _ h))
    · exact .inl (.inr ⟨o, s _ _ h⟩)
    · exact .inr h
/-! ### text[::-1] -/
def revS (z : Str) : Str := ⟨z.cps.toList.reverse.toArray⟩
def tRevS (te : TE) : TE := fun σ H Q => te σ H fun x H1 => ∃ z, x = .str z ∧ z.length ≤ sizeLine ∧ Q (.str (revS z)) H1
theorem rev_ix (z : Str) : ((Builtin.Str.strSliceIndices none none (-1) z.length).filterMap (z.cps[·]?)).toArray = z.cps.toList.reverse.toArray := by
  have e : Builtin.Str.strSliceIndices none none (-1) z.length = sliceRange ((z.cps.size : Int) - 1) (-1) (-1) := rfl
  rw [e, PySem.W.krv_sliceRange, PySem.W.krv_range, List.filterMap_reverse, PySem.W.krv_all]
theorem pe_revS {X : Cx} {e : Expr} {te : TE} {k : Nat} {p1 p2 p3 pos : Pos} (he : PE X e te) : PE X (.Subscript e (.Slice none none (some (.UnaryOp .USub (.Constant (.int 1) k p1) p2)) p3) pos) (tRevS te) := by
  refine ⟨fun pins s σ H Q I h => ?_⟩
  refine Subscript_ (thn (he.run pins s σ H _ I h) fun v s1 ⟨x, H1, I1, r1, q1⟩ => ?_)
  obtain ⟨z, ex, hz, q⟩ := q1
  subst ex
  obtain ⟨t, rfl⟩ := r1
  have hst : PO X (some (.UnaryOp .USub (.Constant (.int 1) k p1) p2)) (tPart (tUn (rU fun i => .int (-i)) (tC (.int 1)))) := po_some (pe_un un_neg pe_int)
  refine wpAny_Slice (thn (po_none.run pins s1 σ H1 (fun o H2 => o = none ∧ H2 = H1) I1 ⟨rfl, rfl⟩) fun vl s2 ⟨l, H2, I2, pl, el, e2⟩ => ?_)
  subst el e2
  refine thn (po_none.run pins s2 σ H2 (fun o H3 => o = none ∧ H3 = H2) I2 ⟨rfl, rfl⟩) fun vu s3 ⟨u, H3, I3, pu, eu, e3⟩ => ?_
  subst eu e3
  refine thn (hst.run pins s3 σ H3 (fun o H4 => o = some (-1) ∧ H4 = H3) I3 ⟨1, rfl, -1, rfl, rfl, rfl⟩) fun vs s4 ⟨o, H4, I4, ps, eo, e4⟩ => ?_
  subst eo e4
  have I5 : Inv X pins σ H4 { s4 with heap := s4.heap.push { cls := .type "slice", data := .fields #[vl, vu, vs] } } := I4.kept (t' := s4.toks) fun b ob q => Heap.get?_push_of_some _ q
  obtain ⟨l', rfl, hl1⟩ := IsPart.raw pl
  obtain ⟨u', rfl, hu1⟩ := IsPart.raw pu
  obtain ⟨st, rfl, hst1⟩ := IsPart.raw ps
  have el : l' = none := by cases l' with | none => rfl | some _ => cases hl1
  have eu : u' = none := by cases u' with | none => rfl | some _ => cases hu1
  subst el eu
  show wpAny (model X.prog X.w) X.A (subscriptTail e (.Slice none none (some (.UnaryOp .USub (.Constant (.int 1) k p1) p2)) p3) (.str z t) (.ref s4.heap.objs.size)) (EP X pins σ Q) X.xe _
  refine tail_any (ops := [.str z t, .ref s4.heap.objs.size]) (typeIs_str _ z t) (F.slot_str_getitem.lookup) ?_ (by with_unfolding_all rfl)
  refine wpAny_getItem_str_slice (l := none) (u := none) (st := st) ⟨_, Heap.get?_push_size _ rfl, rfl, rfl⟩ (by rw [hst1]; rfl) ?_
  have q' := q
  unfold revS at q'
  rw [← rev_ix] at q'
  have hl : (⟨((Builtin.Str.strSliceIndices none none (-1) z.length).filterMap (z.cps[·]?)).toArray⟩ : Str).length ≤ sizeLine := by
    rw [rev_ix]
    show z.cps.toList.reverse.toArray.size ≤ sizeLine
    rw [List.size_toArray, List.length_reverse, Array.length_toList]
    exact hz
  have es : sliceMade z t none none st = Made.str ⟨((Builtin.Str.strSliceIndices none none (-1) z.length).filterMap (z.cps[·]?)).toArray⟩ := by
    unfold sliceMade slicePicked
    rw [hst1]
    rfl
  rw [es]
  exact ⟨hl, .str _, H4, I5.tok _, ⟨_, rfl⟩, q'⟩
/-! ### a class in a local name -/
def tMakeL (i : Nat) (C : Addr) (sp : Sp) (E : XK) (t : TA) : TE := fun σ H Q => σ[i]? = some (some (.ref C)) ∧ t σ H fun vs H1 => ∀ x dx, H1 x = none → H1 dx = none → dx ≠ x → sp (.ref x :: (vs ++ [])) (upd (upd H1 dx (.own x)) x (.ins C dx [])) (fun v H2 => v = .non ∧ Q (.ref x) H2) E
theorem pe_kv {X : Cx} {k j i : Nat} {x y : Str} {C : Addr} {sp : Sp} {p pos : Pos} {e : Expr} {es : List Expr} {t : TA} (c : KCal X.prog X.w X.K X.mg X.base k y C sp) (hr : Room j X.A) (hk : k + 1 ≤ j) (hN : X.N[i]? = some x) (hv : Vis X.env.scope x) (ha : PA X (e :: es) t)
    (hdb : (x == ("__debug__" : Str)) = false := by decide) (hcd : (x == ("__classdict__" : Str)) = false := by decide) (he : starEach (e :: es) X.env = (false, eval e X.env) :: starEach es X.env := by rfl) (hpl : (backTo pos (starEach es X.env)).any (·.1) = false := by rfl) :
    PE X (.Call (.Name x p) (e :: es) [] pos) (tMakeL i C sp C8.E0 t) := by
  obtain ⟨f, fd, ps, M, F, hm, b⟩ := c.ex
  refine ⟨fun pins s σ H Q I h => ?_⟩
  obtain ⟨hs, ht⟩ := h
  refine wpAny_Call_Name_kw (thn ((pe_var (pos := p) hN hv hdb hcd).run pins s σ H (fun v H1 => v = .ref C ∧ H1 = H) I ⟨.ref C, hs, rfl, rfl⟩) fun u s1 ⟨v, H1, I1, r1, q1⟩ => ?_)
  obtain ⟨rfl, rfl⟩ := q1
  cases r1
  refine PySem.W.callWith_K (h₀ := X.base) I.ok.mod.kin M.kp (thn (ha.run pos pins s1 σ _ _ I1 ht) fun us s2 ⟨vs, H2, I2, r, q⟩ => ⟨I2.kIn, ?_⟩) he hpl
  exact run_make M F (hr.mono hk) b .nil C8.pass0 I2 r q
/-! ### classmethods -/
def CDfn (K : PySem.W.Frag) (C : Addr) (m qual : Str) (st : Stmt) : Prop :=
  ∃ fd : FuncData, FunD K m qual (defArgs st) (defBody st) (defScope st) [] [] (He5.wf K C "classmethod" m) fd ∧ ClX.CMet K C (.type "type") m (He.ma K C m) (He5.wf K C "classmethod" m) ∧ ClX.CRead K C (.type "type")
structure CCal (P : Program) (w : World) (K : PySem.W.Frag) (mg : Str → Option Value) (base : Heap) (k : Nat) (C : Addr) (m : Str) (sp : Sp) : Prop where
  ex : ∃ (p f : Addr) (mc : Value), ClX.CRead K C mc ∧ ClX.CMet K C mc m p f ∧ FnR P w K mg base L2.CX0 k f sp
theorem ccal_mk {P : Program} {w : World} {K : PySem.W.Frag} {mg : Str → Option Value} {base : Heap} {C : Addr} {m qual : Str} {st : Stmt} {N ps : List Str} {k : Nat} {sp : Sp} (F : CDfn K C m qual st) (b : MBnd m qual st ps) (S : FnScope N ps (defScope st)) (len : ∀ vs H Q E, sp vs H Q E → vs.length = ps.length)
    (hbody : ∀ (f : Addr) (cdv : Value) (A : Around) (outer : List Env) (s : Shared) (H : Hp) (vs : List V) (Q : VK) (E : XK), Room k (A.deeper (envOfC qual (defScope st) s.heap.objs.size f cdv)) → sp vs H Q E →
      ∃ t, PSs (cxOf L2.CX0 P w K mg base N qual (defScope st) f cdv A outer s H E).nox (defBody st) t ∧ t { nx := fun _ H' => Q .non H', rt := Q } (start N vs) H) : CCal P w K mg base (k + 1) C m sp := by
  obtain ⟨fd, F, hm, hc⟩ := F
  have G := (mfn_mk (C := C) F S len hbody).raw (F.bindsN b) .nil
  exact ⟨_, _, _, hc, hm, G.imp fun vs H Q E h => by rw [List.append_nil]; exact h⟩
theorem pe_cml {X : Cx} {k j : Nat} {m : Str} {C : Addr} {sp : Sp} {pos apos : Pos} {e o : Expr} {es : List Expr} {ta : TE} {t : TA} {pl : Sem Bool} (c : CCal X.prog X.w X.K X.mg X.base k C m sp) (hr : Room j X.A) (hk : k ≤ j) (he : PE X o ta) (ha : PA X (e :: es) t)
    (hst : starEach (e :: es) X.env = (false, eval e X.env) :: starEach es X.env := by rfl) (hpl : (backTo pos (starEach es X.env)).any (·.1) = false := by rfl)
    (ht : eval (.Call (.Attribute o m apos) (e :: es) [] pos) X.env = (do
      let ov ← eval o X.env
      standAt apos.atName
      let (f, first) ← holding [ov] (getMethod ov m pl)
      callWith pos f first (backTo pos (starEach (e :: es) X.env)) (backToKw pos (keywordEach [] X.env))) := by rfl) :
    PE X (.Call (.Attribute o m apos) (e :: es) [] pos) (ClX.tCMeth C sp C8.E0 ta t) := by
  obtain ⟨p, f, mc, hc, hm, F⟩ := c.ex
  exact ClX.pe_cmeth (pl := pl) he hc hm F (hr.mono hk) C8.pass0 ha hst hpl ht
theorem z_cmeth {σ : L2.St} {H : Hp} {Q : VK} {C : Addr} {sp : Sp} {E : XK} {ta : TE} {t : TA} (h : ta σ H fun x H1 => x = .ref C ∧ t σ H1 fun vs H2 => sp (.ref C :: vs) H2 Q E) : ClX.tCMeth C sp E ta t σ H Q := h
theorem z_makeL {σ : L2.St} {H : Hp} {Q : VK} {i : Nat} {C : Addr} {sp : Sp} {E : XK} {t : TA} (h : σ[i]? = some (some (.ref C)) ∧ t σ H fun vs H1 => ∀ x dx, H1 x = none → H1 dx = none → dx ≠ x → sp (.ref x :: (vs ++ [])) (upd (upd H1 dx (.own x)) x (.ins C dx [])) (fun v H2 => v = .non ∧ Q (.ref x) H2) E) : tMakeL i C sp E t σ H Q := h
theorem z_revS {σ : L2.St} {H : Hp} {Q : VK} {te : TE} (h : te σ H fun x H1 => ∃ z, x = .str z ∧ z.length ≤ sizeLine ∧ Q (.str (revS z)) H1) : tRevS te σ H Q := h
theorem cdfn_of {K : PySem.W.Frag} {C : Addr} {m qual : Str} {st : Stmt} (h : ∃ fd : FuncData, FunD K m qual (defArgs st) (defBody st) (defScope st) [] [] (He5.wf K C "classmethod" m) fd)
    (e : (He5.wrapB K C "classmethod" "classmethod.__get__" m && (PySem.W.fnIn K (He5.wf K C "classmethod" m) && (PySem.W.readsIn K C (.type "type") && He.eqO (PySem.W.specialIn K (.ref C) "__getattribute__") (some (some (.builtin "type.__getattribute__")))))) = true) : CDfn K C m qual st := by
  obtain ⟨fd, F⟩ := h
  rw [Bool.and_eq_true, Bool.and_eq_true, Bool.and_eq_true] at e
  obtain ⟨e1, e2, e3, e4⟩ := e
  exact ⟨fd, F, He5.cmet_of e1 e2, e3, He.eqO_ok e4⟩
theorem z_disp {σ : L2.St} {H : Hp} {Q : VK} {trs : List (TE × TE)} (h : ∀ p, H p = none → tPairs trs σ (upd H p (.dK [])) fun ps H2 => H2 p = some (.dK []) ∧ ∃ kvs : List (Key × V), ps = kvs.map (fun kv => (kV kv.1, kv.2)) ∧ kvs.length ≤ 15 ∧ Q (.ref p) (upd H2 p (.dK (mergeK [] kvs)))) : tDisp trs σ H Q := h
theorem z_pairs {σ : L2.St} {H : Hp} {tk tv : TE} {r : List (TE × TE)} {Q : List (V × V) → Hp → Prop} (h : tk σ H fun x H1 => tv σ H1 fun y H2 => tPairs r σ H2 fun ps H3 => Q ((x, y) :: ps) H3) : tPairs ((tk, tv) :: r) σ H Q := h
theorem z_pairs0 {σ : L2.St} {H : Hp} {Q : List (V × V) → Hp → Prop} (h : Q [] H) : tPairs [] σ H Q := h
theorem z_dget {σ : L2.St} {H : Hp} {Q : VK} {td ty : TE} (h : td σ H fun x H1 => ty σ H1 fun y H2 => ∃ a v, x = .ref a ∧ DGet H2 a y (some v) ∧ Q v H2) : tDGet td ty σ H Q := h
theorem hu1 {k : Nat} {A : Around} (r : Room k A) : A.units + 1 < cLine := by have := r.units; omega
theorem z_true {c : Prop} {d : Decidable c} {A B : Prop} (h : c) (k : A) : @ite Prop c d A B := by rw [if_pos h]; exact k
theorem z_false {c : Prop} {d : Decidable c} {A B : Prop} (h : ¬ c) (k : B) : @ite Prop c d A B := by rw [if_neg h]; exact k
/-! ### the head's facts: names, defs, tables, more defs -/
abbrev AlY : Type := He.AlT × (Bool × List He.FnW)
def obsY (n : Nat) (fa : List He.Fa) (fn : List He.DefD) (ts : List He.Tab) (da : List He5.DefA) (ex : PySem.W.Frag → Bool) (g : Addr → Option Obj) : AlY :=
  (He.obsT fa fn ts (He.frG g (He5.asA g n)), (ex (He.frG g (He5.asA g n)) && da.all fun d => d.ok (He.frG g (He5.asA g n))), da.map fun d => He5.fnA (He.frG g (He5.asA g n)) (d.at_ (He.frG g (He5.asA g n))))
structure SaysY (fa : List He.Fa) (fn : List He.DefD) (ts : List He.Tab) (da : List He5.DefA) (ex : PySem.W.Frag → Bool) (w : World) (K : PySem.W.Frag) : Prop where
  t : He.SaysT fa fn ts w K
  more : ex K = true
  ok : (da.all fun d => d.ok K) = true
  eq : (da.map fun d => He5.fnA K (d.at_ K)) = da.map He5.DefA.val
def hookY (n : Nat) (fa : List He.Fa) (fn : List He.DefD) (ts : List He.Tab) (da : List He5.DefA) (ex : PySem.W.Frag → Bool) : PySem.W.Hook where
  α := AlY
  obs := fun s => obsY n fa fn ts da ex s.heap.get?
  val := fun w => (He.valT fn ts w, true, da.map He5.DefA.val)
  says := fun w h => ∃ K : PySem.W.Frag, K.In h ∧ SaysY fa fn ts da ex w K
  of := fun w s e => by
    refine ⟨He.frG s.heap.get? (He5.asA s.heap.get? n), He.frG_in, ?_⟩
    have e1 := congrArg (fun z : AlY => z.1) e
    have e2 := congrArg (fun z : AlY => z.2.1) e
    have e3 := congrArg (fun z : AlY => z.2.2) e
    have e2' : (ex (He.frG s.heap.get? (He5.asA s.heap.get? n)) && da.all fun d => d.ok (He.frG s.heap.get? (He5.asA s.heap.get? n))) = true := e2
    rw [Bool.and_eq_true] at e2'
    exact ⟨e1, e2'.1, e2'.2, e3⟩
  keeps := fun _ _ _ ⟨K, hK, c⟩ k => ⟨K, PySem.W.Frag.In.keeps hK k, c⟩
theorem obsY_eq {n : Nat} {fa : List He.Fa} {fn : List He.DefD} {ts : List He.Tab} {da : List He5.DefA} {ex : PySem.W.Frag → Bool} {g : Addr → Option Obj} {s : Shared} (h : ∀ a, g a = s.heap.get? a) : obsY n fa fn ts da ex g = (hookY n fa fn ts da ex).obs s := by
  have e : g = s.heap.get? := funext h
  rw [e]; rfl
theorem SaysY.def_ {fa : List He.Fa} {fn : List He.DefD} {ts : List He.Tab} {da : List He5.DefA} {ex : PySem.W.Frag → Bool} {w : World} {K : PySem.W.Frag} (c : SaysY fa fn ts da ex w K) (i : Nat) {d : He5.DefA} (h : da[i]? = some d := by rfl) : ∃ fd, FunD K d.name d.qual d.params d.body d.scope (d.dvs K) (d.kws K) (d.at_ K) fd := by
  have e2 : (da.map fun d => He5.fnA K (d.at_ K))[i]? = (da.map He5.DefA.val)[i]? := by rw [c.eq]
  rw [List.getElem?_map, List.getElem?_map, h] at e2
  exact He5.DefA.funD (Option.some.inj e2) (List.all_eq_true.mp c.ok d (List.mem_of_getElem? h))
local macro_rules | `(tactic| walk_at "z1") => `(tactic| first | (with_reducible refine z_seq ?_) | (with_reducible refine z_cmeth ?_) | (with_reducible refine z_disp ?_) | (with_reducible refine z_pairs ?_) | (with_reducible refine z_pairs0 ?_) | (with_reducible refine z_dget ?_) | (with_reducible refine z_makeL ?_) | (with_reducible refine z_revS ?_) | (with_reducible refine z_asg ?_) | (with_reducible refine z_asgG ?_) | (with_reducible refine z_gsub ?_) | (with_reducible refine z_gname ?_) | (with_reducible refine z_ret ?_) | (with_reducible refine z_retN ?_) | (with_reducible refine z_drop ?_) | (with_reducible refine z_ifS ?_) | (with_reducible refine z_next ?_) | (with_reducible refine z_brk ?_) | (with_reducible refine z_ct ?_) | ((with_reducible refine z_var (v := ?vv) ?hv ?hk); (case hv => rfl)) | (with_reducible refine z_c ?_) | (with_reducible refine z_op ?_) | (with_reducible refine z_un ?_) | (with_reducible refine z_cb ?_) | (with_reducible refine z_nil ?_) | (with_reducible refine z_cons ?_) | (with_reducible refine z_call ?_) | (with_reducible refine z_test ?_) | (with_reducible refine z_tB ?_) | (with_reducible refine z_and ?_) | (with_reducible refine z_or ?_) | (with_reducible refine z_not ?_) | (with_reducible refine z_yes ?_) | (with_reducible refine z_andV ?_) | (with_reducible refine z_orV ?_) | (with_reducible refine z_notV ?_) | (with_reducible refine z_ifE ?_) | (with_reducible refine z_tup ?_) | (with_reducible refine z_lst ?_) | (with_reducible refine z_sl ?_) | (with_reducible refine z_noPart ?_) | (with_reducible refine z_part ?_) | (with_reducible refine z_pk ?_) | (with_reducible refine z_bk ?_) | (with_reducible refine z_int1 ?_) | (with_reducible refine z_I0 ?_) | (with_reducible refine z_U ?_) | (with_reducible refine z_eq rfl ?_) | (with_reducible refine z_ne rfl ?_) | (with_reducible refine z_nx ?_) | (with_reducible refine z_rt ?_) | (with_reducible refine z_bk2 ?_) | (with_reducible refine z_ct2 ?_) | (with_reducible refine z_iT ?_) | (with_reducible refine z_iF ?_) | (with_reducible refine z_nT ?_) | (with_reducible refine z_nF ?_) | ((with_reducible refine z_aug (x := ?vv) ?hv ?hk); (case hv => rfl)) | (with_reducible refine z_ipI ?_) | (with_reducible refine z_for ?_) | (with_reducible refine z_rng1 ?_) | (with_reducible refine z_rng2 ?_) | (with_reducible refine z_ilist ?_) | (with_reducible refine z_itup ?_) | (with_reducible refine z_lc ?_) | (with_reducible refine z_meth ?_) | (with_reducible refine z_make ?_) | (with_reducible refine z_fld ?_) | (with_reducible refine z_sfld ?_) | (with_reducible refine z_chain ?_) | (with_reducible refine z_istr ?_) | (with_reducible refine z_par ?_) | (with_reducible refine z_vs2 ?_))
local macro_rules | `(tactic| walk_at "same") => `(tactic| repeat (first | exact Same.refl _ | assumption | (refine Same.trans ?_ (Same.new (by assumption))) | (refine Same.trans ?_ (by assumption))))
local macro_rules | `(tactic| walk_at "zz") => `(tactic| repeat (walk_at "z1"))
local macro_rules | `(tactic| walk_at "kt") => `(tactic| (refine z_true (by decide +kernel) ?_; (try walk_at "zz")))
local macro_rules | `(tactic| walk_at "kf") => `(tactic| (refine z_false (by decide +kernel) ?_; (try walk_at "zz")))
local macro_rules | `(tactic| walk_at "in2") => `(tactic| (refine ⟨by decide, fun _ _ => ?_⟩; refine z_inT (SqT.of upd_same) rfl rfl ?_; walk_at "zz"))
example {σ : L2.St} {H : Hp} {Q : VK} (h : Q (.int 3) H) : tOp (rI0 fun i j => .int (i + j)) (tC (.int 1)) (tC (.int 2)) σ H Q := by
  walk_at "zz"
  exact h
/-! ### data that stand in the heap -/
/-- tuples stay -/
def TS (H H' : Hp) : Prop := ∀ b xs, H b = some (.tup xs) → H' b = some (.tup xs)
theorem TS.of {H H' : Hp} (s : Same H H') : TS H H' := fun b _ e => s b _ e
theorem TS.refl (H : Hp) : TS H H := fun _ _ h => h
theorem TS.trans {H H1 H2 : Hp} (x : TS H H1) (y : TS H1 H2) : TS H H2 := fun b xs h => y b xs (x b xs h)
/-- a tuple: tracked, or of the module -/
def Tp (K : PySem.W.Frag) (H : Hp) (a : Addr) (xs : List V) : Prop := H a = some (.tup xs) ∨
  ∃ (o : Obj) (its : Array Value) (n : Nat), K.lookup a = some o ∧ o.cls = .type "tuple" ∧ o.data = .seq its n ∧ its.size ≤ sizeLine ∧ Vals xs its.toList
section
variable {K : PySem.W.Frag} {H H' : Hp} {a : Addr} {xs : List V}
theorem Tp.of (h : H a = some (.tup xs)) : Tp K H a xs := .inl h
theorem Tp.sq (h : Tp K H a xs) : SqT K H a xs := h.elim SqT.of .inr
theorem Tp.mono (t : TS H H') (h : Tp K H a xs) : Tp K H' a xs := h.imp (t a xs) id
theorem Tp.new {o : HO} {p : Addr} (hp : H p = none) (h : Tp K H a xs) : Tp K (upd H p o) a xs := h.mono (TS.of (Same.new hp))
end
mutual
/-- data made of tuples, texts, ints, bools, None -/
inductive At (K : PySem.W.Frag) (H : Hp) : V → PyData → Prop
  | non : At K H .non .none
  | bl (b : Bool) : At K H (.bl b) (.bool b)
  | int (i : Int) : At K H (.int i) (.int i)
  | str (x : Str) : At K H (.str x) (.str x)
  | tup {a : Addr} {xs : List V} {ds : List PyData} : Tp K H a xs → AtAll K H xs ds → At K H (.ref a) (.tuple ds)
inductive AtAll (K : PySem.W.Frag) (H : Hp) : List V → List PyData → Prop
  | nil : AtAll K H [] []
  | cons {v : V} {vs : List V} {d : PyData} {ds : List PyData} : At K H v d → AtAll K H vs ds → AtAll K H (v :: vs) (d :: ds)
end
mutual
theorem At.mono {K : PySem.W.Frag} {H H' : Hp} (t : TS H H') : ∀ {v : V} {d : PyData}, At K H v d → At K H' v d
  | _, _, .non => .non
  | _, _, .bl b => .bl b
  | _, _, .int i => .int i
  | _, _, .str x => .str x
  | _, _, .tup h hs => .tup (h.mono t) (AtAll.mono t hs)
theorem AtAll.mono {K : PySem.W.Frag} {H H' : Hp} (t : TS H H') : ∀ {v : List V} {d : List PyData}, AtAll K H v d → AtAll K H' v d
  | _, _, .nil => .nil
  | _, _, .cons h hs => .cons (At.mono t h) (AtAll.mono t hs)
end
mutual
theorem At.dp {K : PySem.W.Frag} {H : Hp} : ∀ {v : V} {d : PyData}, At K H v d → Dp K H v d
  | _, _, .non => .non
  | _, _, .bl b => .bl b
  | _, _, .int i => .int i
  | _, _, .str x => .str x
  | _, _, .tup h hs => .tup h.sq (AtAll.dp hs)
theorem AtAll.dp {K : PySem.W.Frag} {H : Hp} : ∀ {v : List V} {d : List PyData}, AtAll K H v d → DpAll K H v d
  | _, _, .nil => .nil
  | _, _, .cons h hs => .cons (At.dp h) (AtAll.dp hs)
end
theorem sqL_same {K : PySem.W.Frag} {H H' : Hp} {a : Addr} {xs : List V} (s : Same H H') (h : SqL K H a xs) : SqL K H' a xs := s.seq h
theorem sqT_same {K : PySem.W.Frag} {H H' : Hp} {a : Addr} {xs : List V} (s : Same H H') (h : SqT K H a xs) : SqT K H' a xs := by
  rcases h with (h | ⟨o, h⟩) | h
  · exact .inl (.inl (s _ _ h))
  · exact .inl (.inr ⟨o, s _ _ h⟩)
  · exact .inr h
mutual
theorem Dp.same {K : PySem.W.Frag} {H H' : Hp} (s : Same H H') : ∀ {v : V} {d : PyData}, Dp K H v d → Dp K H' v d
  | _, _, .non => .non
  | _, _, .bl b => .bl b
  | _, _, .int i => .int i
  | _, _, .str x => .str x
  | _, _, .lst h hs => .lst (sqL_same s h) (DpAll.same s hs)
  | _, _, .tup h hs => .tup (sqT_same s h) (DpAll.same s hs)
theorem DpAll.same {K : PySem.W.Frag} {H H' : Hp} (s : Same H H') : ∀ {v : List V} {d : List PyData}, DpAll K H v d → DpAll K H' v d
  | _, _, .nil => .nil
  | _, _, .cons h hs => .cons (Dp.same s h) (DpAll.same s hs)
end
theorem DpAll.get {K : PySem.W.Frag} {H : Hp} : ∀ {vs : List V} {ds : List PyData}, DpAll K H vs ds → ∀ (i : Nat) (v : V), vs[i]? = some v → ∃ d, ds[i]? = some d ∧ Dp K H v d
  | _, _, .nil, i, v, h => by simp at h
  | _, _, .cons h hs, 0, v, e => ⟨_, rfl, by cases (Option.some.inj e); exact h⟩
  | _, _, .cons h hs, i + 1, v, e => DpAll.get hs i v e
theorem DpAll.len {K : PySem.W.Frag} {H : Hp} : ∀ {vs : List V} {ds : List PyData}, DpAll K H vs ds → vs.length = ds.length
  | _, _, .nil => rfl
  | _, _, .cons h hs => by rw [List.length_cons, List.length_cons, DpAll.len hs]
theorem AtAll.get {K : PySem.W.Frag} {H : Hp} : ∀ {vs : List V} {ds : List PyData}, AtAll K H vs ds → ∀ (i : Nat) (v : V), vs[i]? = some v → ∃ d, ds[i]? = some d ∧ At K H v d
  | _, _, .nil, i, v, h => by simp at h
  | _, _, .cons h hs, 0, v, e => ⟨_, rfl, by cases (Option.some.inj e); exact h⟩
  | _, _, .cons h hs, i + 1, v, e => AtAll.get hs i v e
theorem AtAll.len {K : PySem.W.Frag} {H : Hp} : ∀ {vs : List V} {ds : List PyData}, AtAll K H vs ds → vs.length = ds.length
  | _, _, .nil => rfl
  | _, _, .cons h hs => by rw [List.length_cons, List.length_cons, AtAll.len hs]
theorem AtAll.app {K : PySem.W.Frag} {H : Hp} : ∀ {vs ws : List V} {ds es : List PyData}, AtAll K H vs ds → AtAll K H ws es → AtAll K H (vs ++ ws) (ds ++ es)
  | _, _, _, _, .nil, k => k
  | _, _, _, _, .cons h hs, k => .cons h (AtAll.app hs k)
/-- a value's type -/
theorem ty_sqL {K : PySem.W.Frag} {H : Hp} {a : Addr} {xs : List V} (h : SqL K H a xs) : TyX K H (.ref a) (.type "list") := by
  rcases h with (h | ⟨o, h⟩) | ⟨o, its, n, h1, h2, _⟩
  · exact .base (.lst h)
  · exact .base (.frz h)
  · exact .kList h1 h2
theorem ty_sqT {K : PySem.W.Frag} {H : Hp} {a : Addr} {xs : List V} (h : SqT K H a xs) : TyX K H (.ref a) (.type "tuple") := by
  rcases h with (h | ⟨o, h⟩) | ⟨o, its, n, h1, h2, _⟩
  · exact .base (.tup h)
  · exact .fTuple h
  · exact .kTuple h1 h2
def tyD : PyData → String
  | .none => "NoneType"
  | .bool _ => "bool"
  | .int _ => "int"
  | .str _ => "str"
  | .list _ => "list"
  | .tuple _ => "tuple"
  | .dict _ => "dict"
theorem ty_dp {K : PySem.W.Frag} {H : Hp} : ∀ {v : V} {d : PyData}, Dp K H v d → TyX K H v (.type (tyD d))
  | _, _, .non => .base .non
  | _, _, .bl b => .base (.bl b)
  | _, _, .int i => .base (.int i)
  | _, _, .str x => .base (.str x)
  | _, _, .lst h _ => ty_sqL h
  | _, _, .tup h _ => ty_sqT h
/-! ### sayings' forms -/
inductive Op2 where
  | and | or | ifs
  deriving DecidableEq
inductive Fm where
  | yes | no
  | letter (n : Str)
  | act (a b : Str)
  | un (b : Bool) (f : Fm)
  | bi (k : Op2) (f g : Fm)
def Op2.s : Op2 → Str
  | .and => "and"
  | .or => "or"
  | .ifs => "if"
def unS (b : Bool) : Str := if b then "box" else "not"
def Fm.d : Fm → PyData
  | .yes => .tuple [.str "yes"]
  | .no => .tuple [.str "no"]
  | .letter n => .tuple [.str "letter", .str n]
  | .act a b => .tuple [.str "act", .str a, .str b]
  | .un b f => .tuple [.str (unS b), f.d]
  | .bi k f g => .tuple [.str k.s, f.d, g.d]
/-- the number of signs -/
def Fm.size : Fm → Nat
  | .yes | .no | .letter _ | .act _ _ => 1
  | .un _ f => f.size + 1
  | .bi _ f g => f.size + g.size + 1
def Fm.dep : Fm → Nat
  | .yes | .no | .letter _ | .act _ _ => 1
  | .un _ f => f.dep + 1
  | .bi _ f g => max f.dep g.dep + 1
theorem Fm.dep_le : ∀ f : Fm, f.dep ≤ f.size
  | .yes | .no | .letter _ | .act _ _ => Nat.le_refl _
  | .un _ f => Nat.succ_le_succ f.dep_le
  | .bi _ f g => by
    have h1 := f.dep_le
    have h2 := g.dep_le
    show max f.dep g.dep + 1 ≤ f.size + g.size + 1
    omega
theorem Fm.dep_pos : ∀ f : Fm, 1 ≤ f.dep
  | .yes | .no | .letter _ | .act _ _ => Nat.le_refl _
  | .un _ f => Nat.succ_le_succ (Nat.zero_le _)
  | .bi _ f g => Nat.succ_le_succ (Nat.zero_le _)
/-- all forms in it, outer ones first -/
def Fm.parts : Fm → List Fm
  | .yes => [.yes]
  | .no => [.no]
  | .letter n => [.letter n]
  | .act a b => [.act a b]
  | .un b f => .un b f :: f.parts
  | .bi k f g => .bi k f g :: (f.parts ++ g.parts)
theorem Fm.parts_len : ∀ f : Fm, f.parts.length = f.size
  | .yes | .no | .letter _ | .act _ _ => rfl
  | .un _ f => by show f.parts.length + 1 = f.size + 1; rw [f.parts_len]
  | .bi _ f g => by show (f.parts ++ g.parts).length + 1 = f.size + g.size + 1; rw [List.length_append, f.parts_len, g.parts_len]
/-- words, names -/
def letterB (c : Nat) : Bool := decide (97 ≤ c) && decide (c ≤ 122)
def wordB (z : Str) : Bool := decide (1 ≤ z.length) && decide (z.length ≤ 8) && z.cps.toList.all letterB
def reserved : List Str := ["yes", "no", "me", "him", "x"]
def nameB (z : Str) : Bool := wordB z && !reserved.any fun y => y == z
def roleB (z : Str) : Bool := nameB z || (wordB z && ([("me" : Str), "him"].any fun y => y == z))
def Fm.ok : Fm → Bool
  | .yes | .no => true
  | .letter n => nameB n
  | .act a b => roleB a && roleB b
  | .un _ f => f.ok
  | .bi _ f g => f.ok && g.ok
def seqOf : PyData → Option (List PyData)
  | .list xs => some xs
  | .tuple xs => some xs
  | _ => none
/-- data that are a form, lists in the place of tuples allowed -/
inductive Lo : PyData → Fm → Prop
  | yes {d : PyData} (h : seqOf d = some [.str "yes"]) : Lo d .yes
  | no {d : PyData} (h : seqOf d = some [.str "no"]) : Lo d .no
  | letter {d : PyData} {n : Str} (h : seqOf d = some [.str "letter", .str n]) : Lo d (.letter n)
  | act {d : PyData} {a b : Str} (h : seqOf d = some [.str "act", .str a, .str b]) : Lo d (.act a b)
  | un {d e : PyData} {b : Bool} {f : Fm} (h : seqOf d = some [.str (unS b), e]) (k : Lo e f) : Lo d (.un b f)
  | bi {d e e' : PyData} {k : Op2} {f g : Fm} (h : seqOf d = some [.str k.s, e, e']) (h1 : Lo e f) (h2 : Lo e' g) : Lo d (.bi k f g)
theorem Lo.self : ∀ f : Fm, Lo f.d f
  | .yes => .yes rfl
  | .no => .no rfl
  | .letter _ => .letter rfl
  | .act _ _ => .act rfl
  | .un _ f => .un rfl (Lo.self f)
  | .bi _ f g => .bi rfl (Lo.self f) (Lo.self g)
/-- the items of a form's data -/
def Fm.items : Fm → List PyData
  | .yes => [.str "yes"]
  | .no => [.str "no"]
  | .letter n => [.str "letter", .str n]
  | .act a b => [.str "act", .str a, .str b]
  | .un b f => [.str (unS b), f.d]
  | .bi k f g => [.str k.s, f.d, g.d]
theorem Fm.d_eq : ∀ f : Fm, f.d = .tuple f.items
  | .yes | .no | .letter _ | .act _ _ | .un _ _ | .bi _ _ _ => rfl
def Fm.kind : Fm → Str
  | .yes => "yes"
  | .no => "no"
  | .letter _ => "letter"
  | .act _ _ => "act"
  | .un b _ => unS b
  | .bi k _ _ => k.s
/-- the forms that it is made of -/
def Fm.inner : Fm → List Fm
  | .yes | .no | .letter _ | .act _ _ => []
  | .un _ f => [f]
  | .bi _ f g => [f, g]
/-- what stands at v is the form f -/
abbrev FAt (K : PySem.W.Frag) (H : Hp) (v : V) (f : Fm) : Prop := At K H v f.d
theorem FAt.open {K : PySem.W.Frag} {H : Hp} {v : V} {f : Fm} (h : FAt K H v f) : ∃ a xs, v = .ref a ∧ Tp K H a xs ∧ AtAll K H xs f.items := by
  have h : At K H v f.d := h
  rw [f.d_eq] at h
  cases h with
  | tup h1 h2 => exact ⟨_, _, rfl, h1, h2⟩
theorem SqX.same {K : PySem.W.Frag} {H H' : Hp} {a : Addr} {xs : List V} (s : Same H H') (h : SqX K H a xs) : SqX K H' a xs := h.imp (sqL_same s) (sqT_same s)
theorem word_ok {z : Str} (h : wordB z = true) : PyData.strOk z = true ∧ z.length ≤ 8 := by
  unfold wordB at h
  rw [Bool.and_eq_true, Bool.and_eq_true, decide_eq_true_eq, decide_eq_true_eq] at h
  refine ⟨?_, h.1.2⟩
  unfold PyData.strOk
  rw [Array.all_eq_true]
  intro i hi
  have h2 := List.all_eq_true.mp h.2 z.cps[i] (by rw [Array.mem_toList_iff]; exact Array.getElem_mem hi)
  unfold letterB at h2
  rw [Bool.and_eq_true, decide_eq_true_eq, decide_eq_true_eq] at h2
  exact decide_eq_true (by omega)
theorem role_word {z : Str} (h : roleB z = true) : wordB z = true := by
  unfold roleB nameB at h
  cases q : wordB z with
  | true => rfl
  | false => rw [q] at h; simp at h
theorem name_word {z : Str} (h : nameB z = true) : wordB z = true := by
  unfold nameB at h
  cases q : wordB z with
  | true => rfl
  | false => rw [q] at h; simp at h
theorem op2_ok (k : Op2) : PyData.strOk k.s = true := by cases k <;> decide +kernel
theorem unS_ok (b : Bool) : PyData.strOk (unS b) = true := by cases b <;> decide +kernel
theorem Fm.canlay : ∀ f : Fm, f.ok = true → PyData.canLay0 f.d = true
  | .yes, _ => by decide +kernel
  | .no, _ => by decide +kernel
  | .letter n, h => by
    have h : nameB n = true := h
    show (PyData.strOk "letter" && (PyData.strOk n && true)) = true
    rw [(word_ok (name_word h)).1]; decide +kernel
  | .act a b, h => by
    have h : (roleB a && roleB b) = true := h
    rw [Bool.and_eq_true] at h
    show (PyData.strOk "act" && (PyData.strOk a && (PyData.strOk b && true))) = true
    rw [(word_ok (role_word h.1)).1, (word_ok (role_word h.2)).1]; decide +kernel
  | .un b f, h => by
    show (PyData.strOk (unS b) && (PyData.canLay0 f.d && true)) = true
    rw [f.canlay h, unS_ok]; rfl
  | .bi k f g, h => by
    have h : (f.ok && g.ok) = true := h
    rw [Bool.and_eq_true] at h
    show (PyData.strOk k.s && (PyData.canLay0 f.d && (PyData.canLay0 g.d && true))) = true
    rw [f.canlay h.1, g.canlay h.2, op2_ok]; rfl
theorem Fm.depth_d : ∀ f : Fm, PyData.depth f.d = f.dep
  | .yes | .no | .letter _ | .act _ _ => rfl
  | .un b f => by
    show max 0 (max (PyData.depth f.d) 0) + 1 = f.dep + 1
    rw [f.depth_d]; omega
  | .bi k f g => by
    show max 0 (max (PyData.depth f.d) (max (PyData.depth g.d) 0)) + 1 = max f.dep g.dep + 1
    rw [f.depth_d, g.depth_d]; omega
theorem Fm.shaped {f : Fm} (h : f.ok = true) (hd : f.dep ≤ 60) : SeqAt.shaped f.d = true := by
  unfold SeqAt.shaped
  rw [f.canlay h, f.depth_d, decide_eq_true (by omega)]; rfl
theorem in_strs (z : Str) (L : List Str) : inV (.str z) (L.map V.str) = L.any (fun y => y == z) := by
  unfold inV
  rw [List.any_map]; rfl
def top (i : Nat) : Stmt := PySem.Challenge.pw_boxfall_k04_texts_of_sayings.main.body.getD i (.Pass ⟨0, 0, 0, 0⟩)
abbrev s_is_word : Stmt := top 12
theorem sc_is_word : FnScope ["thing", "sign"] ["thing"] (defScope s_is_word) := ⟨rfl, rfl, rfl, by decide +kernel, rfl, by decide +kernel, by decide +kernel⟩
abbrev s_is_name : Stmt := top 13
theorem sc_is_name : FnScope ["thing"] ["thing"] (defScope s_is_name) := ⟨rfl, rfl, rfl, by decide +kernel, rfl, by decide +kernel, by decide +kernel⟩
abbrev s_is_role : Stmt := top 14
theorem sc_is_role : FnScope ["thing"] ["thing"] (defScope s_is_role) := ⟨rfl, rfl, rfl, by decide +kernel, rfl, by decide +kernel, by decide +kernel⟩
abbrev s_wrong_path : Stmt := top 15
theorem sc_wrong_path : FnScope ["thing", "path", "kind", "k", "good", "found"] ["thing", "path"] (defScope s_wrong_path) := ⟨rfl, rfl, rfl, by decide +kernel, rfl, by decide +kernel, by decide +kernel⟩
abbrev s_tuples : Stmt := top 16
theorem sc_tuples : FnScope ["form", "part"] ["form"] (defScope s_tuples) := ⟨rfl, rfl, rfl, by decide +kernel, rfl, by decide +kernel, by decide +kernel⟩
abbrev s_form_text : Stmt := top 17
theorem sc_form_text : FnScope ["form", "kind"] ["form"] (defScope s_form_text) := ⟨rfl, rfl, rfl, by decide +kernel, rfl, by decide +kernel, by decide +kernel⟩
abbrev s_inner_forms : Stmt := top 18
theorem sc_inner_forms : FnScope ["form"] ["form"] (defScope s_inner_forms) := ⟨rfl, rfl, rfl, by decide +kernel, rfl, by decide +kernel, by decide +kernel⟩
abbrev s_all_parts : Stmt := top 19
theorem sc_all_parts : FnScope ["form", "found", "part"] ["form"] (defScope s_all_parts) := ⟨rfl, rfl, rfl, by decide +kernel, rfl, by decide +kernel, by decide +kernel⟩
abbrev s_Saying_init : Stmt := inClass (top 20) 0
theorem sc_Saying_init : FnScope ["self", "form", "path"] ["self", "form"] (defScope s_Saying_init) := ⟨rfl, rfl, rfl, by decide +kernel, rfl, by decide +kernel, by decide +kernel⟩
abbrev s_Saying_read : Stmt := inClass (top 20) 1
theorem sc_Saying_read : FnScope ["cls", "text", "is_short", "sign", "found"] ["cls", "text"] (defScope s_Saying_read) := ⟨rfl, rfl, rfl, by decide +kernel, rfl, by decide +kernel, by decide +kernel⟩
abbrev s_Saying_form : Stmt := inClass (top 20) 2
theorem sc_Saying_form : FnScope ["self"] ["self"] (defScope s_Saying_form) := ⟨rfl, rfl, rfl, by decide +kernel, rfl, by decide +kernel, by decide +kernel⟩
abbrev s_Saying_text : Stmt := inClass (top 20) 3
theorem sc_Saying_text : FnScope ["self"] ["self"] (defScope s_Saying_text) := ⟨rfl, rfl, rfl, by decide +kernel, rfl, by decide +kernel, by decide +kernel⟩
abbrev s_Saying_len : Stmt := inClass (top 20) 8
theorem sc_Saying_len : FnScope ["self"] ["self"] (defScope s_Saying_len) := ⟨rfl, rfl, rfl, by decide +kernel, rfl, by decide +kernel, by decide +kernel⟩
abbrev s_word_end : Stmt := top 21
theorem sc_word_end : FnScope ["text", "at"] ["text", "at"] (defScope s_word_end) := ⟨rfl, rfl, rfl, by decide +kernel, rfl, by decide +kernel, by decide +kernel⟩
abbrev s_read_word : Stmt := top 22
theorem sc_read_word : FnScope ["text", "at", "end", "word", "last", "whom"] ["text", "at"] (defScope s_read_word) := ⟨rfl, rfl, rfl, by decide +kernel, rfl, by decide +kernel, by decide +kernel⟩
abbrev s_read_pair : Stmt := top 23
theorem sc_read_pair : FnScope ["text", "at", "first", "between", "second"] ["text", "at"] (defScope s_read_pair) := ⟨rfl, rfl, rfl, by decide +kernel, rfl, by decide +kernel, by decide +kernel⟩
abbrev s_read_form : Stmt := top 24
theorem sc_read_form : FnScope ["text", "at", "ahead", "found", "form", "end", "sign"] ["text", "at"] (defScope s_read_form) := ⟨rfl, rfl, rfl, by decide +kernel, rfl, by decide +kernel, by decide +kernel⟩
abbrev s_law_stream : Stmt := top 26
theorem sc_law_stream : FnScope ["_law_script", "_law_k", "_law_cell"] ["_law_script", "_law_k"] (defScope s_law_stream) := ⟨rfl, rfl, rfl, by decide +kernel, rfl, by decide +kernel, by decide +kernel⟩
abbrev s_law_draw : Stmt := top 27
theorem sc_law_draw : FnScope ["_law_stream_here", "_law_many", "_law_digit", "_law_spread"] ["_law_stream_here", "_law_many"] (defScope s_law_draw) := ⟨rfl, rfl, rfl, by decide +kernel, rfl, by decide +kernel, by decide +kernel⟩
abbrev s_law_pick : Stmt := top 28
theorem sc_law_pick : FnScope ["_law_stream_here", "_law_things"] ["_law_stream_here", "_law_things"] (defScope s_law_pick) := ⟨rfl, rfl, rfl, by decide +kernel, rfl, by decide +kernel, by decide +kernel⟩
abbrev s_law_text : Stmt := top 29
theorem sc_law_text : FnScope ["_law_form", "_law_kind", "_law_sign"] ["_law_form"] (defScope s_law_text) := ⟨rfl, rfl, rfl, by decide +kernel, rfl, by decide +kernel, by decide +kernel⟩
abbrev s_law_atoms : Stmt := top 32
theorem sc_law_atoms : FnScope ["_law_found"] [] (defScope s_law_atoms) := ⟨rfl, rfl, rfl, by decide +kernel, rfl, by decide +kernel, by decide +kernel⟩
abbrev s_law_free : Stmt := top 33
theorem sc_law_free : FnScope ["_law_stream_here", "_law_atoms_here", "_law_size", "_law_kind", "_law_first"] ["_law_stream_here", "_law_atoms_here", "_law_size"] (defScope s_law_free) := ⟨rfl, rfl, rfl, by decide +kernel, rfl, by decide +kernel, by decide +kernel⟩
abbrev s_law : Stmt := top 34
theorem sc_law : FnScope ["_law_script", "_law_turn", "_law_stream_here", "_law_more", "_law_form", "_law_text_here"] ["_law_script"] (defScope s_law) := ⟨rfl, rfl, rfl, by decide +kernel, rfl, by decide +kernel, by decide +kernel⟩
structure Txt (w : World) (K : PySem.W.Frag) (mg : Str → Option Value) : Prop where
  n_len : mg "len" = none
  n_range : mg "range" = none
  n_abs : mg "abs" = none
  n_all : mg "all" = none
  n_isinstance : mg "isinstance" = none
  n_int : mg "int" = none
  n_str : mg "str" = none
  n_list : mg "list" = none
  n_tuple : mg "tuple" = none
  f_is_word : Dfn K mg "is_word" s_is_word
  f_is_name : Dfn K mg "is_name" s_is_name
  f_is_role : Dfn K mg "is_role" s_is_role
  f_wrong_path : Dfn K mg "wrong_path" s_wrong_path
  f_tuples : Dfn K mg "tuples" s_tuples
  f_form_text : Dfn K mg "form_text" s_form_text
  f_inner_forms : Dfn K mg "inner_forms" s_inner_forms
  f_all_parts : Dfn K mg "all_parts" s_all_parts
  f_word_end : Dfn K mg "word_end" s_word_end
  f_read_word : Dfn K mg "read_word" s_read_word
  f_read_pair : Dfn K mg "read_pair" s_read_pair
  f_read_form : Dfn K mg "read_form" s_read_form
  f_law_stream : Dfn K mg "_law_stream" s_law_stream
  f_law_draw : Dfn K mg "_law_draw" s_law_draw
  f_law_pick : Dfn K mg "_law_pick" s_law_pick
  f_law_text : Dfn K mg "_law_text" s_law_text
  f_law_atoms : Dfn K mg "_law_atoms" s_law_atoms
  f_law_free : Dfn K mg "_law_free" s_law_free
  f_law : Dfn K mg "law" s_law
  d_SIZES : mg "SIZES" = some (.ref (He.ga K "SIZES")) ∧ TabD K w (He.ga K "SIZES") [("yes", .int 0), ("no", .int 0), ("letter", .int 1), ("act", .int 2), ("not", .int 1), ("and", .int 2), ("or", .int 2), ("if", .int 2), ("box", .int 1)]
  d_SIGNS : mg "SIGNS" = some (.ref (He.ga K "SIGNS")) ∧ TabD K w (He.ga K "SIGNS") [("and", .str "&"), ("or", .str "|"), ("if", .str ">")]
  d_KINDS : mg "KINDS" = some (.ref (He.ga K "KINDS")) ∧ TabD K w (He.ga K "KINDS") [("&", .str "and"), ("|", .str "or"), (">", .str "if")]
  t_RESERVED : mg "RESERVED" = some (.ref (He.ga K "RESERVED")) ∧ ∀ H : Hp, SqT K H (He.ga K "RESERVED") ([.str "yes", .str "no", .str "me", .str "him", .str "x"] : List V)
  c_LETTERS : ∃ t, mg "LETTERS" = some (.str "abcdefghijklmnopqrstuvwxyz" t)
  i_DEEPEST : ∃ t, mg "DEEPEST" = some (.int 400 t)
  g_Saying : mg "Saying" = some (.ref (He.ga K "Saying"))
  cl_Saying : Cls K (He.ga K "Saying")
  mk_Saying : Mk K (He.ga K "Saying") (He.ma K (He.ga K "Saying") "__init__")
  na_Saying_kept : NoAttr K (He.ga K "Saying") "kept"
  na_Saying_parts : NoAttr K (He.ga K "Saying") "parts"
  m_Saying_init : MDfn K (He.ga K "Saying") "__init__" "Saying.__init__" s_Saying_init
  k_Saying_read : CDfn K (He.ga K "Saying") "read" "Saying.read" s_Saying_read
  m_Saying_form : MDfn K (He.ga K "Saying") "form" "Saying.form" s_Saying_form
  m_Saying_text : MDfn K (He.ga K "Saying") "text" "Saying.text" s_Saying_text
  m_Saying_len : MDfn K (He.ga K "Saying") "__len__" "Saying.__len__" s_Saying_len
  sf_Saying : PySem.W.selfFirst K (He.ga K "Saying") = true
theorem bd_is_word : Bnd "is_word" s_is_word ["thing"] := fun _ _ _ _ _ _ us hl => match us, hl with | [_], _ => rfl
theorem bd_is_name : Bnd "is_name" s_is_name ["thing"] := fun _ _ _ _ _ _ us hl => match us, hl with | [_], _ => rfl
theorem bd_is_role : Bnd "is_role" s_is_role ["thing"] := fun _ _ _ _ _ _ us hl => match us, hl with | [_], _ => rfl
theorem bd_wrong_path : Bnd "wrong_path" s_wrong_path ["thing", "path"] := fun _ _ _ _ _ _ us hl => match us, hl with | [_, _], _ => rfl
theorem bd_tuples : Bnd "tuples" s_tuples ["form"] := fun _ _ _ _ _ _ us hl => match us, hl with | [_], _ => rfl
theorem bd_form_text : Bnd "form_text" s_form_text ["form"] := fun _ _ _ _ _ _ us hl => match us, hl with | [_], _ => rfl
theorem bd_inner_forms : Bnd "inner_forms" s_inner_forms ["form"] := fun _ _ _ _ _ _ us hl => match us, hl with | [_], _ => rfl
theorem bd_all_parts : Bnd "all_parts" s_all_parts ["form"] := fun _ _ _ _ _ _ us hl => match us, hl with | [_], _ => rfl
theorem bd_Saying_init : MBnd "__init__" "Saying.__init__" s_Saying_init ["self", "form"] := fun _ _ _ _ _ _ us hl => match us, hl with | [_, _], _ => rfl
theorem bd_Saying_read : MBnd "read" "Saying.read" s_Saying_read ["cls", "text"] := fun _ _ _ _ _ _ us hl => match us, hl with | [_, _], _ => rfl
theorem bd_Saying_form : MBnd "form" "Saying.form" s_Saying_form ["self"] := fun _ _ _ _ _ _ us hl => match us, hl with | [_], _ => rfl
theorem bd_Saying_text : MBnd "text" "Saying.text" s_Saying_text ["self"] := fun _ _ _ _ _ _ us hl => match us, hl with | [_], _ => rfl
theorem bd_Saying_len : MBnd "__len__" "Saying.__len__" s_Saying_len ["self"] := fun _ _ _ _ _ _ us hl => match us, hl with | [_], _ => rfl
theorem bd_word_end : Bnd "word_end" s_word_end ["text", "at"] := fun _ _ _ _ _ _ us hl => match us, hl with | [_, _], _ => rfl
theorem bd_read_word : Bnd "read_word" s_read_word ["text", "at"] := fun _ _ _ _ _ _ us hl => match us, hl with | [_, _], _ => rfl
theorem bd_read_pair : Bnd "read_pair" s_read_pair ["text", "at"] := fun _ _ _ _ _ _ us hl => match us, hl with | [_, _], _ => rfl
theorem bd_read_form : Bnd "read_form" s_read_form ["text", "at"] := fun _ _ _ _ _ _ us hl => match us, hl with | [_, _], _ => rfl
theorem bd_law_stream : Bnd "_law_stream" s_law_stream ["_law_script", "_law_k"] := fun _ _ _ _ _ _ us hl => match us, hl with | [_, _], _ => rfl
theorem bd_law_draw : Bnd "_law_draw" s_law_draw ["_law_stream_here", "_law_many"] := fun _ _ _ _ _ _ us hl => match us, hl with | [_, _], _ => rfl
theorem bd_law_pick : Bnd "_law_pick" s_law_pick ["_law_stream_here", "_law_things"] := fun _ _ _ _ _ _ us hl => match us, hl with | [_, _], _ => rfl
theorem bd_law_text : Bnd "_law_text" s_law_text ["_law_form"] := fun _ _ _ _ _ _ us hl => match us, hl with | [_], _ => rfl
theorem bd_law_atoms : Bnd "_law_atoms" s_law_atoms [] := fun _ _ _ _ _ _ us hl => match us, hl with | [], _ => rfl
theorem bd_law_free : Bnd "_law_free" s_law_free ["_law_stream_here", "_law_atoms_here", "_law_size"] := fun _ _ _ _ _ _ us hl => match us, hl with | [_, _, _], _ => rfl
theorem bd_law : Bnd "law" s_law ["_law_script"] := fun _ _ _ _ _ _ us hl => match us, hl with | [_], _ => rfl
section
variable {P : Program} {w : World} {K : PySem.W.Frag} {mg : Str → Option Value} {base : Heap}
/-! ### texts -/
def Op2.c : Op2 → Nat
  | .and => 38
  | .or => 124
  | .ifs => 62
def unC (b : Bool) : Nat := if b then 35 else 126
def Fm.txt : Fm → List Nat
  | .yes => [121, 101, 115]
  | .no => [110, 111]
  | .letter n => n.cps.toList
  | .act a b => a.cps.toList ++ 45 :: b.cps.toList
  | .un b f => unC b :: f.txt
  | .bi k f g => 40 :: (f.txt ++ 32 :: k.c :: 32 :: (g.txt ++ [41]))
abbrev sT (l : List Nat) : Str := SX.S l
def Fm.str (f : Fm) : Str := sT f.txt
theorem Fm.txt_len : ∀ f : Fm, f.ok = true → f.txt.length ≤ 17 * f.size
  | .yes, _ => by decide
  | .no, _ => by decide
  | .letter n, h => by
    have := (word_ok (name_word (show nameB n = true from h))).2
    show n.cps.toList.length ≤ 17 * 1
    rw [Array.length_toList]
    have e : n.length = n.cps.size := rfl
    omega
  | .act a b, h => by
    have h : (roleB a && roleB b) = true := h
    rw [Bool.and_eq_true] at h
    have h1 := (word_ok (role_word h.1)).2
    have h2 := (word_ok (role_word h.2)).2
    show (a.cps.toList ++ 45 :: b.cps.toList).length ≤ 17 * 1
    rw [List.length_append, List.length_cons, Array.length_toList, Array.length_toList]
    have e : a.length = a.cps.size := rfl
    have e2 : b.length = b.cps.size := rfl
    omega
  | .un b f, h => by
    have := f.txt_len h
    show f.txt.length + 1 ≤ 17 * (f.size + 1)
    omega
  | .bi k f g, h => by
    have h : (f.ok && g.ok) = true := h
    rw [Bool.and_eq_true] at h
    have h1 := f.txt_len h.1
    have h2 := g.txt_len h.2
    show (40 :: (f.txt ++ 32 :: k.c :: 32 :: (g.txt ++ [41]))).length ≤ 17 * (f.size + g.size + 1)
    simp only [List.length_cons, List.length_append, List.length_nil]
    omega
theorem S_str (z : Str) : sT z.cps.toList = z := SX.S_tl z
theorem tx_act (a b : Str) : (a ++ ("-" : Str)) ++ b = sT (a.cps.toList ++ 45 :: b.cps.toList) := by
  have e : ("-" : Str) = sT [45] := by decide +kernel
  conv => lhs; rw [← S_str a, ← S_str b, e]
  show (SX.S _ ++ SX.S _) ++ SX.S _ = SX.S _
  rw [SX.S_cat, SX.S_cat, List.append_assoc]; rfl
theorem tx_un (b : Bool) (z : Str) (l : List Nat) (hz : z = sT [unC b]) : z ++ sT l = sT (unC b :: l) := by
  rw [hz]; exact SX.S_cat [unC b] l
theorem tx_bi (o : Op2) (z : Str) (x y : List Nat) (hz : z = sT [o.c]) : ((((("(" : Str) ++ sT x) ++ (" " : Str)) ++ z) ++ (" " : Str) ++ sT y) ++ (")" : Str) = sT (40 :: (x ++ 32 :: o.c :: 32 :: (y ++ [41]))) := by
  have e1 : ("(" : Str) = sT [40] := by decide +kernel
  have e2 : (" " : Str) = sT [32] := by decide +kernel
  have e3 : (")" : Str) = sT [41] := by decide +kernel
  rw [hz, e1, e2, e3]
  show ((((SX.S _ ++ SX.S _) ++ SX.S _) ++ SX.S _) ++ SX.S _ ++ SX.S _) ++ SX.S _ = SX.S _
  rw [SX.S_cat, SX.S_cat, SX.S_cat, SX.S_cat, SX.S_cat, SX.S_cat]
  congr 1
  simp
theorem tx_bi2 (o : Op2) (z : Str) (x y : List Nat) (hz : z = sT [32, o.c, 32]) : ((("(" : Str) ++ sT x) ++ z ++ sT y) ++ (")" : Str) = sT (40 :: (x ++ 32 :: o.c :: 32 :: (y ++ [41]))) := by
  have e1 : ("(" : Str) = sT [40] := by decide +kernel
  have e3 : (")" : Str) = sT [41] := by decide +kernel
  rw [hz, e1, e3]
  show ((SX.S _ ++ SX.S _) ++ SX.S _ ++ SX.S _) ++ SX.S _ = SX.S _
  rw [SX.S_cat, SX.S_cat, SX.S_cat, SX.S_cat]
  congr 1
  simp
theorem sT_len (l : List Nat) : (sT l).length = l.length := SX.S_len l
theorem sl_app (x y : Str) : (x ++ y).length = x.length + y.length := by
  conv => lhs; rw [← S_str x, ← S_str y]
  show (SX.S _ ++ SX.S _).length = _
  rw [SX.S_cat, SX.S_len, List.length_append, Array.length_toList, Array.length_toList]; rfl
theorem line_le {n : Nat} (h : n ≤ 1000000) : n ≤ sizeLine := Nat.le_trans h (by decide)
def spText (K : PySem.W.Frag) (n : Nat) : Sp := fun vs H Q _ => ∃ (v : V) (f : Fm), vs = [v] ∧ FAt K H v f ∧ f.ok = true ∧ f.dep < n ∧ f.size ≤ 10000 ∧ ∀ H', Same H H' → Q (.str f.str) H'
theorem ok_text (T : Txt w K mg) : ∀ n : Nat, Cal P w K mg base n "form_text" (spText K n)
  | 0 => Cal.bot T.f_form_text bd_form_text (fun vs H Q E h => by obtain ⟨v, f, _, _, _, h, _⟩ := h; omega)
  | n + 1 => by
    have C_form_text : Cal P w K mg base n "form_text" (spText K n) := ok_text T n
    refine cal_mk T.f_form_text bd_form_text sc_form_text (fun vs H Q E h => ?_) (fun fa cdv A outer s H vs Q E hr h => ?_)
    · obtain ⟨v, f, rfl, _⟩ := h; rfl
    · obtain ⟨v, f, rfl, hf, hok, hdep, hsz, k⟩ := h
      obtain ⟨a, xs, rfl, ht, hat⟩ := hf.open
      refine ⟨_, (pss_cons (ps_set (i := 1) sc_form_text.nd rfl (Or.inl rfl) (pe_ix ix_tup (pv 0) pe_int (fun _ _ => rfl)))
      (pss_cons (ps_if (pt_cmpR op_in_seq (pv 1) (pe_tup (pa_cons pe_str (pa_cons pe_str pa_nil))) (by rfl)) (pss_one (ps_ret (pv 1))) pss_nil)
      (pss_cons (ps_if (pt_cmpR op_eq (pv 1) pe_str (nomark _)) (pss_one (ps_ret (pe_ix ix_tup (pv 0) pe_int (fun _ _ => rfl)))) pss_nil)
      (pss_cons (ps_if (pt_cmpR op_eq (pv 1) pe_str (nomark _)) (pss_one (ps_ret (pe_op op_add_str (pe_op op_add_str (pe_ix ix_tup (pv 0) pe_int (fun _ _ => rfl)) pe_str) (pe_ix ix_tup (pv 0) pe_int (fun _ _ => rfl))))) pss_nil)
      (pss_cons (ps_if (pt_cmpR op_in_seq (pv 1) (pe_tup (pa_cons pe_str (pa_cons pe_str pa_nil))) (by rfl)) (pss_one (ps_ret (pe_op op_add_str (pe_ifExp (pt_cmpR op_eq (pv 1) pe_str (nomark _)) pe_str pe_str) (pe_cl C_form_text hr (by omega) rfl (pa_cons (pe_ix ix_tup (pv 0) pe_int (fun _ _ => rfl)) pa_nil))))) pss_nil)
      (pss_one (ps_ret (pe_op op_add_str (pe_op op_add_str (pe_op op_add_str (pe_op op_add_str (pe_op op_add_str (pe_op op_add_str pe_str (pe_cl C_form_text hr (by omega) rfl (pa_cons (pe_ix ix_tup (pv 0) pe_int (fun _ _ => rfl)) pa_nil))) pe_str) (pe_ix (ix_tab T.d_SIGNS.2) (pe_gr rfl T.d_SIGNS.1) (pv 1) (fun _ _ => rfl))) pe_str) (pe_cl C_form_text hr (by omega) rfl (pa_cons (pe_ix ix_tup (pv 0) pe_int (fun _ _ => rfl)) pa_nil))) pe_str)))))))), ?_⟩
      walk_at "zz"
      cases f with
      | yes =>
        cases hat with
        | @cons v0 rs _ _ h0 hr0 =>
        cases h0
        refine ⟨a, _, _, _, rfl, rfl, ht.sq, atI_nat (j := 0) rfl, ?_⟩
        walk_at "zz"
        walk_at "in2"
        walk_at "kt"
        have e : (Fm.yes).str = "yes" := by decide +kernel
        rw [← e]
        exact k _ (Same.new (by assumption))
      | no =>
        cases hat with
        | @cons v0 rs _ _ h0 hr0 =>
        cases h0
        refine ⟨a, _, _, _, rfl, rfl, ht.sq, atI_nat (j := 0) rfl, ?_⟩
        walk_at "zz"
        walk_at "in2"
        walk_at "kt"
        have e : (Fm.no).str = "no" := by decide +kernel
        rw [← e]
        exact k _ (Same.new (by assumption))
      | letter z =>
        cases hat with
        | @cons v0 rs _ _ h0 hr0 =>
        cases h0
        cases hr0 with
        | @cons v1 rs _ _ h1 hr1 =>
        cases h1
        refine ⟨a, _, _, _, rfl, rfl, ht.sq, atI_nat (j := 0) rfl, ?_⟩
        walk_at "zz"
        refine ⟨by decide, fun p hp => ?_⟩
        refine z_inT (SqT.of upd_same) rfl rfl ?_
        walk_at "zz"
        walk_at "kf"
        walk_at "kt"
        refine ⟨a, _, _, _, rfl, rfl, (ht.new hp).sq, atI_nat (j := 1) rfl, ?_⟩
        have e : (Fm.letter z).str = z := S_str z
        rw [← e]
        exact k _ (Same.new (by assumption))
      | act z y =>
        cases hat with
        | @cons v0 rs _ _ h0 hr0 =>
        cases h0
        cases hr0 with
        | @cons v1 rs _ _ h1 hr1 =>
        cases h1
        cases hr1 with
        | @cons v2 rs _ _ h2 hr2 =>
        cases h2
        have hok2 : (roleB z && roleB y) = true := hok
        rw [Bool.and_eq_true] at hok2
        have hl1 := (word_ok (role_word hok2.1)).2
        have hl2 := (word_ok (role_word hok2.2)).2
        refine ⟨a, _, _, _, rfl, rfl, ht.sq, atI_nat (j := 0) rfl, ?_⟩
        walk_at "zz"
        refine ⟨by decide, fun p hp => ?_⟩
        refine z_inT (SqT.of upd_same) rfl rfl ?_
        walk_at "zz"
        walk_at "kf"
        walk_at "kf"
        walk_at "kt"
        have ht' := (ht.new (o := .tup [V.str "yes", V.str "no"]) hp).sq
        refine ⟨a, _, _, _, rfl, rfl, ht', atI_nat (j := 1) rfl, ?_⟩
        walk_at "zz"
        have b1 : (("-" : Str)).length = 1 := by decide +kernel
        refine ⟨_, _, rfl, rfl, line_le (by omega), ?_⟩
        walk_at "zz"
        refine ⟨a, _, _, _, rfl, rfl, ht', atI_nat (j := 2) rfl, ?_⟩
        walk_at "zz"
        have e1 : (z ++ ("-" : Str)).length = z.length + 1 := by
          rw [sl_app, show (("-" : Str)).length = 1 by decide +kernel]
        refine ⟨_, _, rfl, rfl, line_le (by omega), ?_⟩
        rw [tx_act]
        exact k _ (Same.new (by assumption))
      | un b g =>
        cases hat with
        | @cons v0 rs _ _ h0 hr0 =>
        cases h0
        cases hr0 with
        | @cons v1 rs _ _ h1 hr1 =>
        have hdg : g.dep + 1 < n + 1 := hdep
        have hsg : g.size + 1 ≤ 10000 := hsz
        have hgt := g.txt_len hok
        refine ⟨a, _, _, _, rfl, rfl, ht.sq, atI_nat (j := 0) rfl, ?_⟩
        walk_at "zz"
        refine ⟨by decide, fun p hp => ?_⟩
        refine z_inT (SqT.of upd_same) rfl rfl ?_
        have s1 := Same.new (o := .tup [V.str "yes", V.str "no"]) hp
        cases b
        · walk_at "zz"
          walk_at "kf"
          walk_at "kf"
          walk_at "kf"
          refine ⟨by decide, fun q hq => ?_⟩
          refine z_inT (SqT.of upd_same) rfl rfl ?_
          have s2 := s1.trans (Same.new (o := .tup [V.str "not", V.str "box"]) hq)
          walk_at "zz"
          walk_at "kt"
          walk_at "kt"
          refine ⟨a, _, _, _, rfl, rfl, (ht.mono (TS.of s2)).sq, atI_nat (j := 1) rfl, ?_⟩
          walk_at "zz"
          refine ⟨v1, g, rfl, At.mono (TS.of s2) h1, hok, by omega, by omega, fun H' s3 => ?_⟩
          have b1 : (("~" : Str)).length = 1 := by decide +kernel
          have bg : g.str.length = g.txt.length := sT_len _
          refine ⟨_, _, rfl, rfl, line_le (by omega), ?_⟩
          rw [Fm.str, tx_un false "~" g.txt (by decide +kernel)]
          exact k _ (s2.trans s3)
        · walk_at "zz"
          walk_at "kf"
          walk_at "kf"
          walk_at "kf"
          refine ⟨by decide, fun q hq => ?_⟩
          refine z_inT (SqT.of upd_same) rfl rfl ?_
          have s2 := s1.trans (Same.new (o := .tup [V.str "not", V.str "box"]) hq)
          walk_at "zz"
          walk_at "kt"
          walk_at "kf"
          refine ⟨a, _, _, _, rfl, rfl, (ht.mono (TS.of s2)).sq, atI_nat (j := 1) rfl, ?_⟩
          walk_at "zz"
          refine ⟨v1, g, rfl, At.mono (TS.of s2) h1, hok, by omega, by omega, fun H' s3 => ?_⟩
          have b1 : (("#" : Str)).length = 1 := by decide +kernel
          have bg : g.str.length = g.txt.length := sT_len _
          refine ⟨_, _, rfl, rfl, line_le (by omega), ?_⟩
          rw [Fm.str, tx_un true "#" g.txt (by decide +kernel)]
          exact k _ (s2.trans s3)
      | bi o f g =>
        cases hat with
        | @cons v0 rs _ _ h0 hr0 =>
        cases h0
        cases hr0 with
        | @cons v1 rs _ _ h1 hr1 =>
        cases hr1 with
        | @cons v2 rs _ _ h2 hr2 =>
        have hdg : max f.dep g.dep + 1 < n + 1 := hdep
        have hsg : f.size + g.size + 1 ≤ 10000 := hsz
        have hok2 : (f.ok && g.ok) = true := hok
        rw [Bool.and_eq_true] at hok2
        have hft := f.txt_len hok2.1
        have hgt := g.txt_len hok2.2
        refine ⟨a, _, _, _, rfl, rfl, ht.sq, atI_nat (j := 0) rfl, ?_⟩
        walk_at "zz"
        refine ⟨by decide, fun p hp => ?_⟩
        refine z_inT (SqT.of upd_same) rfl rfl ?_
        have s1 := Same.new (o := .tup [V.str "yes", V.str "no"]) hp
        walk_at "zz"
        refine z_false (by cases o <;> decide +kernel) ?_
        walk_at "zz"
        refine z_false (by cases o <;> decide +kernel) ?_
        walk_at "zz"
        refine z_false (by cases o <;> decide +kernel) ?_
        walk_at "zz"
        refine ⟨by decide, fun q hq => ?_⟩
        refine z_inT (SqT.of upd_same) rfl rfl ?_
        have s2 := s1.trans (Same.new (o := .tup [V.str "not", V.str "box"]) hq)
        walk_at "zz"
        refine z_false (by cases o <;> decide +kernel) ?_
        walk_at "zz"
        refine ⟨a, _, _, _, rfl, rfl, (ht.mono (TS.of s2)).sq, atI_nat (j := 1) rfl, ?_⟩
        walk_at "zz"
        refine ⟨v1, f, rfl, At.mono (TS.of s2) h1, hok2.1, by omega, by omega, fun H3 s3 => ?_⟩
        have s4 := s2.trans s3
        have b1 : (("(" : Str)).length = 1 := by decide +kernel
        have b2 : ((" " : Str)).length = 1 := by decide +kernel
        have b3 : ((")" : Str)).length = 1 := by decide +kernel
        have b4 : (sT [o.c]).length = 1 := sT_len _
        have bf : f.str.length ≤ 170000 := by rw [Fm.str, sT_len]; omega
        have bg : g.str.length ≤ 170000 := by rw [Fm.str, sT_len]; omega
        refine ⟨_, _, rfl, rfl, line_le (by omega), ?_⟩
        walk_at "zz"
        refine ⟨_, _, rfl, rfl, line_le (by simp only [sl_app]; omega), ?_⟩
        walk_at "zz"
        refine ⟨_, .str (sT [o.c]), rfl, rfl, by cases o <;> decide +kernel, ?_⟩
        refine ⟨_, _, rfl, rfl, line_le (by simp only [sl_app]; omega), ?_⟩
        walk_at "zz"
        refine ⟨_, _, rfl, rfl, line_le (by simp only [sl_app]; omega), ?_⟩
        walk_at "zz"
        refine ⟨a, _, _, _, rfl, rfl, (ht.mono (TS.of s4)).sq, atI_nat (j := 2) rfl, ?_⟩
        walk_at "zz"
        refine ⟨v2, g, rfl, At.mono (TS.of s4) h2, hok2.2, by omega, by omega, fun H5 s5 => ?_⟩
        refine ⟨_, _, rfl, rfl, line_le (by simp only [sl_app]; omega), ?_⟩
        walk_at "zz"
        refine ⟨_, _, rfl, rfl, line_le (by simp only [sl_app]; omega), ?_⟩
        rw [Fm.str, Fm.str, tx_bi o _ f.txt g.txt rfl]
        exact k _ (s4.trans s5)
def spLText (K : PySem.W.Frag) (n : Nat) : Sp := fun vs H Q _ => ∃ (v : V) (f : Fm), vs = [v] ∧ FAt K H v f ∧ f.ok = true ∧ f.dep < n ∧ f.size ≤ 10000 ∧ ∀ H', Same H H' → Q (.str f.str) H'
theorem ok_ltext (T : Txt w K mg) : ∀ n : Nat, Cal P w K mg base n "_law_text" (spLText K n)
  | 0 => Cal.bot T.f_law_text bd_law_text (fun vs H Q E h => by obtain ⟨v, f, _, _, _, h, _⟩ := h; omega)
  | n + 1 => by
    have C_law_text : Cal P w K mg base n "_law_text" (spLText K n) := ok_ltext T n
    refine cal_mk T.f_law_text bd_law_text sc_law_text (fun vs H Q E h => ?_) (fun fa cdv A outer s H vs Q E hr h => ?_)
    · obtain ⟨v, f, rfl, _⟩ := h; rfl
    · obtain ⟨v, f, rfl, hf, hok, hdep, hsz, k⟩ := h
      obtain ⟨a, xs, rfl, ht, hat⟩ := hf.open
      refine ⟨_, (pss_cons (ps_set (i := 1) sc_law_text.nd rfl (Or.inl rfl) (pe_ix ix_tup (pv 0) pe_int (fun _ _ => rfl)))
      (pss_cons (ps_if (pt_cmpR op_eq (pv 1) pe_str (nomark _)) (pss_one (ps_ret (pe_ix ix_tup (pv 0) pe_int (fun _ _ => rfl)))) pss_nil)
      (pss_cons (ps_if (pt_cmpR op_eq (pv 1) pe_str (nomark _)) (pss_one (ps_ret (pe_op op_add_str (pe_op op_add_str (pe_ix ix_tup (pv 0) pe_int (fun _ _ => rfl)) pe_str) (pe_ix ix_tup (pv 0) pe_int (fun _ _ => rfl))))) pss_nil)
      (pss_cons (ps_if (pt_cmpR op_in_seq (pv 1) (pe_tup (pa_cons pe_str (pa_cons pe_str pa_nil))) (by rfl)) (pss_one (ps_ret (pe_op op_add_str (pe_ifExp (pt_cmpR op_eq (pv 1) pe_str (nomark _)) pe_str pe_str) (pe_cl C_law_text hr (by omega) rfl (pa_cons (pe_ix ix_tup (pv 0) pe_int (fun _ _ => rfl)) pa_nil))))) pss_nil)
      (pss_cons (ps_if (pt_cmpR op_in_seq (pv 1) (pe_tup (pa_cons pe_str (pa_cons pe_str (pa_cons pe_str pa_nil)))) (by rfl)) (pss_cons (ps_set (i := 2) sc_law_text.nd rfl (Or.inl rfl) (pe_dget (hu1 hr) (pe_disp (pps_cons pe_str pe_str (pps_cons pe_str pe_str (pps_cons pe_str pe_str pps_nil))) rfl rfl (by simp) (by decide)) (pv 1) (fun _ _ => rfl)))
      (pss_one (ps_ret (pe_op op_add_str (pe_op op_add_str (pe_op op_add_str (pe_op op_add_str pe_str (pe_cl C_law_text hr (by omega) rfl (pa_cons (pe_ix ix_tup (pv 0) pe_int (fun _ _ => rfl)) pa_nil))) (pv 2)) (pe_cl C_law_text hr (by omega) rfl (pa_cons (pe_ix ix_tup (pv 0) pe_int (fun _ _ => rfl)) pa_nil))) pe_str)))) pss_nil)
      (pss_one (ps_ret (pv 1)))))))), ?_⟩
      walk_at "zz"
      cases f with
      | yes =>
        cases hat with
        | @cons v0 rs _ _ h0 hr0 =>
        cases h0
        refine ⟨a, _, _, _, rfl, rfl, ht.sq, atI_nat (j := 0) rfl, ?_⟩
        walk_at "zz"
        walk_at "kf"
        walk_at "kf"
        refine ⟨by decide, fun p hp => ?_⟩
        refine z_inT (SqT.of upd_same) rfl rfl ?_
        walk_at "zz"
        walk_at "kf"
        refine ⟨by decide, fun q hq => ?_⟩
        refine z_inT (SqT.of upd_same) rfl rfl ?_
        walk_at "zz"
        walk_at "kf"
        have e : (Fm.yes).str = "yes" := by decide +kernel
        rw [← e]
        exact k _ ((Same.new hp).trans (Same.new hq))
      | no =>
        cases hat with
        | @cons v0 rs _ _ h0 hr0 =>
        cases h0
        refine ⟨a, _, _, _, rfl, rfl, ht.sq, atI_nat (j := 0) rfl, ?_⟩
        walk_at "zz"
        walk_at "kf"
        walk_at "kf"
        refine ⟨by decide, fun p hp => ?_⟩
        refine z_inT (SqT.of upd_same) rfl rfl ?_
        walk_at "zz"
        walk_at "kf"
        refine ⟨by decide, fun q hq => ?_⟩
        refine z_inT (SqT.of upd_same) rfl rfl ?_
        walk_at "zz"
        walk_at "kf"
        have e : (Fm.no).str = "no" := by decide +kernel
        rw [← e]
        exact k _ ((Same.new hp).trans (Same.new hq))
      | letter z =>
        cases hat with
        | @cons v0 rs _ _ h0 hr0 =>
        cases h0
        cases hr0 with
        | @cons v1 rs _ _ h1 hr1 =>
        cases h1
        refine ⟨a, _, _, _, rfl, rfl, ht.sq, atI_nat (j := 0) rfl, ?_⟩
        walk_at "zz"
        walk_at "kt"
        refine ⟨a, _, _, _, rfl, rfl, ht.sq, atI_nat (j := 1) rfl, ?_⟩
        have e : (Fm.letter z).str = z := S_str z
        rw [← e]
        exact k _ (Same.refl _)
      | act z y =>
        cases hat with
        | @cons v0 rs _ _ h0 hr0 =>
        cases h0
        cases hr0 with
        | @cons v1 rs _ _ h1 hr1 =>
        cases h1
        cases hr1 with
        | @cons v2 rs _ _ h2 hr2 =>
        cases h2
        have hok2 : (roleB z && roleB y) = true := hok
        rw [Bool.and_eq_true] at hok2
        have hl1 := (word_ok (role_word hok2.1)).2
        have hl2 := (word_ok (role_word hok2.2)).2
        refine ⟨a, _, _, _, rfl, rfl, ht.sq, atI_nat (j := 0) rfl, ?_⟩
        walk_at "zz"
        walk_at "kf"
        walk_at "kt"
        refine ⟨a, _, _, _, rfl, rfl, ht.sq, atI_nat (j := 1) rfl, ?_⟩
        walk_at "zz"
        have b1 : (("-" : Str)).length = 1 := by decide +kernel
        refine ⟨_, _, rfl, rfl, line_le (by omega), ?_⟩
        walk_at "zz"
        refine ⟨a, _, _, _, rfl, rfl, ht.sq, atI_nat (j := 2) rfl, ?_⟩
        walk_at "zz"
        refine ⟨_, _, rfl, rfl, line_le (by simp only [sl_app]; omega), ?_⟩
        rw [tx_act]
        exact k _ (Same.refl _)
      | un b g =>
        cases hat with
        | @cons v0 rs _ _ h0 hr0 =>
        cases h0
        cases hr0 with
        | @cons v1 rs _ _ h1 hr1 =>
        have hdg : g.dep + 1 < n + 1 := hdep
        have hsg : g.size + 1 ≤ 10000 := hsz
        have hgt := g.txt_len hok
        refine ⟨a, _, _, _, rfl, rfl, ht.sq, atI_nat (j := 0) rfl, ?_⟩
        walk_at "zz"
        refine z_false (by cases b <;> decide +kernel) ?_
        walk_at "zz"
        refine z_false (by cases b <;> decide +kernel) ?_
        walk_at "zz"
        refine ⟨by decide, fun q hq => ?_⟩
        refine z_inT (SqT.of upd_same) rfl rfl ?_
        have s2 := Same.new (o := .tup [V.str "not", V.str "box"]) hq
        walk_at "zz"
        refine z_true (by cases b <;> decide +kernel) ?_
        walk_at "zz"
        have bg : g.str.length = g.txt.length := sT_len _
        cases b
        · refine z_true (by decide +kernel) ?_
          walk_at "zz"
          refine ⟨a, _, _, _, rfl, rfl, (ht.mono (TS.of s2)).sq, atI_nat (j := 1) rfl, ?_⟩
          walk_at "zz"
          refine ⟨v1, g, rfl, At.mono (TS.of s2) h1, hok, by omega, by omega, fun H' s3 => ?_⟩
          have b1 : (("~" : Str)).length = 1 := by decide +kernel
          refine ⟨_, _, rfl, rfl, line_le (by omega), ?_⟩
          rw [Fm.str, tx_un false "~" g.txt (by decide +kernel)]
          exact k _ (s2.trans s3)
        · refine z_false (by decide +kernel) ?_
          walk_at "zz"
          refine ⟨a, _, _, _, rfl, rfl, (ht.mono (TS.of s2)).sq, atI_nat (j := 1) rfl, ?_⟩
          walk_at "zz"
          refine ⟨v1, g, rfl, At.mono (TS.of s2) h1, hok, by omega, by omega, fun H' s3 => ?_⟩
          have b1 : (("#" : Str)).length = 1 := by decide +kernel
          refine ⟨_, _, rfl, rfl, line_le (by omega), ?_⟩
          rw [Fm.str, tx_un true "#" g.txt (by decide +kernel)]
          exact k _ (s2.trans s3)
      | bi o f g =>
        cases hat with
        | @cons v0 rs _ _ h0 hr0 =>
        cases h0
        cases hr0 with
        | @cons v1 rs _ _ h1 hr1 =>
        cases hr1 with
        | @cons v2 rs _ _ h2 hr2 =>
        have hdg : max f.dep g.dep + 1 < n + 1 := hdep
        have hsg : f.size + g.size + 1 ≤ 10000 := hsz
        have hok2 : (f.ok && g.ok) = true := hok
        rw [Bool.and_eq_true] at hok2
        have hft := f.txt_len hok2.1
        have hgt := g.txt_len hok2.2
        refine ⟨a, _, _, _, rfl, rfl, ht.sq, atI_nat (j := 0) rfl, ?_⟩
        walk_at "zz"
        refine z_false (by cases o <;> decide +kernel) ?_
        walk_at "zz"
        refine z_false (by cases o <;> decide +kernel) ?_
        walk_at "zz"
        refine ⟨by decide, fun q hq => ?_⟩
        refine z_inT (SqT.of upd_same) rfl rfl ?_
        have s1 := Same.new (o := .tup [V.str "not", V.str "box"]) hq
        walk_at "zz"
        refine z_false (by cases o <;> decide +kernel) ?_
        walk_at "zz"
        refine ⟨by decide, fun q2 hq2 => ?_⟩
        refine z_inT (SqT.of upd_same) rfl rfl ?_
        have s2 := s1.trans (Same.new (o := .tup [V.str "and", V.str "or", V.str "if"]) hq2)
        walk_at "zz"
        refine z_true (by cases o <;> decide +kernel) ?_
        walk_at "zz"
        intro dd hdd
        walk_at "zz"
        have hv : valV (mergeK [] [(Sum.inr ("and" : Str), V.str " & "), (Sum.inr ("or" : Str), V.str " | "), (Sum.inr ("if" : Str), V.str " > ")]) (Sum.inr o.s) = some (.str (sT [32, o.c, 32])) := by cases o <;> decide +kernel
        refine ⟨upd_same, [(Sum.inr ("and" : Str), V.str " & "), (Sum.inr ("or" : Str), V.str " | "), (Sum.inr ("if" : Str), V.str " > ")], rfl, by decide, ?_⟩
        walk_at "zz"
        refine ⟨dd, .str (sT [32, o.c, 32]), rfl, (show DGet _ _ (kV (Sum.inr o.s)) _ from by rw [← hv]; exact DGet.k upd_same), ?_⟩
        have s3 := Same.upd (o := .dK (mergeK [] [(Sum.inr ("and" : Str), V.str " & "), (Sum.inr ("or" : Str), V.str " | "), (Sum.inr ("if" : Str), V.str " > ")])) (Same.upd (o := .dK []) s2 (s2.free hdd)) (s2.free hdd)
        walk_at "zz"
        refine ⟨a, _, _, _, rfl, rfl, (ht.mono (TS.of s3)).sq, atI_nat (j := 1) rfl, ?_⟩
        walk_at "zz"
        refine ⟨v1, f, rfl, At.mono (TS.of s3) h1, hok2.1, by omega, by omega, fun H3 s4' => ?_⟩
        have s4 := s3.trans s4'
        have b1 : (("(" : Str)).length = 1 := by decide +kernel
        have b3 : ((")" : Str)).length = 1 := by decide +kernel
        have b4 : (sT [32, o.c, 32]).length = 3 := sT_len _
        have bf : f.str.length ≤ 170000 := by rw [Fm.str, sT_len]; omega
        have bg : g.str.length ≤ 170000 := by rw [Fm.str, sT_len]; omega
        refine ⟨_, _, rfl, rfl, line_le (by omega), ?_⟩
        walk_at "zz"
        refine ⟨_, _, rfl, rfl, line_le (by simp only [sl_app]; omega), ?_⟩
        walk_at "zz"
        refine ⟨a, _, _, _, rfl, rfl, (ht.mono (TS.of s4)).sq, atI_nat (j := 2) rfl, ?_⟩
        walk_at "zz"
        refine ⟨v2, g, rfl, At.mono (TS.of s4) h2, hok2.2, by omega, by omega, fun H5 s5 => ?_⟩
        refine ⟨_, _, rfl, rfl, line_le (by simp only [sl_app]; omega), ?_⟩
        walk_at "zz"
        refine ⟨_, _, rfl, rfl, line_le (by simp only [sl_app]; omega), ?_⟩
        rw [Fm.str, Fm.str, tx_bi2 o _ f.txt g.txt rfl]
        exact k _ (s4.trans s5)
end
section
variable {P : Program} {w : World} {K : PySem.W.Frag} {mg : Str → Option Value} {base : Heap}
theorem letters_eq : (Str.ofString "abcdefghijklmnopqrstuvwxyz").cps.toList = List.range' 97 26 := by decide +kernel
theorem letters_mem (c : Nat) : decide (c ∈ (Str.ofString "abcdefghijklmnopqrstuvwxyz").cps.toList) = letterB c := by
  rw [letters_eq]
  unfold letterB
  rw [Bool.eq_iff_iff]
  simp [List.mem_range'_1]
  omega
def wordD : PyData → Bool
  | .str z => wordB z
  | _ => false
def nameD : PyData → Bool
  | .str z => nameB z
  | _ => false
def roleD : PyData → Bool
  | .str z => roleB z
  | _ => false
def shortD : PyData → Prop
  | .str z => z.length ≤ 100000
  | _ => True
theorem short_line {n : Nat} (h : n ≤ 100000) : n ≤ sizeLine := Nat.le_trans h (by decide)
def spWord (K : PySem.W.Frag) : Sp := fun vs H Q _ => ∃ (v : V) (d : PyData), vs = [v] ∧ Dp K H v d ∧ shortD d ∧ ∀ H', Same H H' → Q (.bl (wordD d)) H'
theorem ok_word (T : Txt w K mg) : Cal P w K mg base 1 "is_word" (spWord K) := by
  refine cal_mk T.f_is_word bd_is_word sc_is_word (fun vs H Q E h => ?_) (fun f cdv A outer s H vs Q E hr h => ?_)
  · obtain ⟨v, d, rfl, _⟩ := h; rfl
  · obtain ⟨v, d, rfl, hd, hsh, k⟩ := h
    refine ⟨_, (pss_one (ps_ret (pe_and (pe_callB call_isi (by rfl) T.n_isinstance (by decide +kernel) (pa_cons (pv 0) (pa_cons (pe_bltn (v := .ty "str") (by rfl) T.n_str (by decide +kernel) rfl) pa_nil))) (pe_and (pe_chain op_le op_le pe_int (pe_callB call_len (by rfl) T.n_len (by decide +kernel) (pa_cons (pv 0) pa_nil)) pe_int) (pe_one (pe_callB (cr_all rfl) (by rfl) T.n_all (by decide +kernel) (pa_cons (pe_lc (own := [("sign", 1)]) (by rfl) sc_is_word.nd (pi_str (pv 0)) (blkOk_by (N := ["thing", "sign"]) (sc := defScope s_is_word) (by decide +kernel)) (fun _ _ _ _ _ => (pg_name (i := 1) sc_is_word.nd rfl (Or.inl rfl))) (fun _ _ _ _ _ => pts_nil) (fun _ _ _ _ _ => (pe_cmpR op_in_sign (pv 1) (pe_gs rfl T.c_LETTERS) (by rfl)))) pa_nil))))))), ?_⟩
    walk_at "zz"
    cases hd with
    | non =>
      refine ⟨_, _, _, _, false, rfl, ClsV.ty _, .base .non, kit_ty (by decide +kernel), ?_⟩
      walk_at "zz"
      exact k H (Same.refl H)
    | bl b =>
      refine ⟨_, _, _, _, false, rfl, ClsV.ty _, .base (.bl b), kit_ty (by decide +kernel), ?_⟩
      walk_at "zz"
      exact k H (Same.refl H)
    | int i =>
      refine ⟨_, _, _, _, false, rfl, ClsV.ty _, .base (.int i), kit_ty (by decide +kernel), ?_⟩
      walk_at "zz"
      exact k H (Same.refl H)
    | lst h1 h2 =>
      refine ⟨_, _, _, _, false, rfl, ClsV.ty _, ty_sqL h1, kit_ty (by decide +kernel), ?_⟩
      walk_at "zz"
      exact k H (Same.refl H)
    | tup h1 h2 =>
      refine ⟨_, _, _, _, false, rfl, ClsV.ty _, ty_sqT h1, kit_ty (by decide +kernel), ?_⟩
      walk_at "zz"
      exact k H (Same.refl H)
    | str z =>
      have hz : z.length ≤ 100000 := hsh
      refine ⟨_, _, _, _, true, rfl, ClsV.ty _, .base (.str z), kit_ty (by decide +kernel), ?_⟩
      walk_at "zz"
      refine ⟨_, z.length, rfl, ⟨short_line hz, rfl⟩, ?_⟩
      walk_at "zz"
      refine z_dec (fun h1 => ?_) (fun h1 => ?_)
      · walk_at "zz"
        refine z_dec (fun h2 => ?_) (fun h2 => ?_)
        · walk_at "zz"
          refine ⟨z, rfl, fun D hD => ?_⟩
          refine lc_it walk_str (fun i H' => H' D = some (.lst (((z.cps.toList.take i).map letterB).map V.bl)) ∧ Same H H') ⟨upd_same, Same.new hD⟩ (fun _ _ _ _ => True.intro) ?_ ?_
          · rintro i x H1 H2 hi ⟨e1, s1⟩ ⟨rfl, c, hc, rfl⟩
            walk_at "zz"
            refine ⟨rfl, ?_⟩
            walk_at "zz"
            refine ⟨c, _, rfl, rfl, ?_⟩
            rw [letters_mem]
            have hc' : z.cps.toList[i]? = some c := by rw [Array.getElem?_toList]; exact hc
            have hil : i < z.cps.toList.length := by rw [Array.length_toList]; exact hi
            refine ⟨_, e1, by rw [List.length_map, List.length_map, List.length_take]; exact Nat.lt_of_lt_of_le (m := 10) (by have : z.cps.toList.length = z.length := Array.length_toList; omega) (by decide), ?_, Same.upd s1 hD⟩
            rw [upd_same, List.take_succ, hc', List.map_append, List.map_append]; rfl
          · rintro H1 ⟨e1, s1⟩
            walk_at "zz"
            refine ⟨D, _, rfl, SqL.of e1, ?_⟩
            have e2 : z.cps.toList.take z.cps.size = z.cps.toList := List.take_of_length_le (by rw [Array.length_toList]; exact Nat.le_refl _)
            rw [e2]
            have e3 : ((z.cps.toList.map letterB).all id) = wordB z := by
              unfold wordB
              rw [decide_eq_true (show 1 ≤ z.length by omega), decide_eq_true (show z.length ≤ 8 by omega), List.all_map]; rfl
            rw [e3]
            exact k H1 s1
        · walk_at "zz"
          have e3 : wordB z = false := by
            unfold wordB
            rw [decide_eq_false (show ¬ z.length ≤ 8 by omega), Bool.and_false, Bool.false_and]
          have k2 := k H (Same.refl H)
          have e4 : wordD (.str z) = false := e3
          rw [e4] at k2
          exact k2
      · walk_at "zz"
        have e3 : wordB z = false := by
          unfold wordB
          rw [decide_eq_false (show ¬ 1 ≤ z.length by omega), Bool.false_and, Bool.false_and]
        have k2 := k H (Same.refl H)
        have e4 : wordD (.str z) = false := e3
        rw [e4] at k2
        exact k2
def spName (K : PySem.W.Frag) : Sp := fun vs H Q _ => ∃ (v : V) (d : PyData), vs = [v] ∧ Dp K H v d ∧ shortD d ∧ ∀ H', Same H H' → Q (.bl (nameD d)) H'
theorem ok_name (T : Txt w K mg) : Cal P w K mg base 2 "is_name" (spName K) := by
  have C_is_word : Cal P w K mg base 1 "is_word" (spWord K) := ok_word T
  refine cal_mk T.f_is_name bd_is_name sc_is_name (fun vs H Q E h => ?_) (fun f cdv A outer s H vs Q E hr h => ?_)
  · obtain ⟨v, d, rfl, _⟩ := h; rfl
  · obtain ⟨v, d, rfl, hd, hsh, k⟩ := h
    refine ⟨_, (pss_one (ps_ret (pe_and (pe_cl C_is_word hr (by omega) rfl (pa_cons (pv 0) pa_nil)) (pe_one (pe_cmpR op_notIn_seq (pv 0) (pe_gr rfl T.t_RESERVED.1) (by rfl)))))), ?_⟩
    walk_at "zz"
    refine ⟨v, d, rfl, hd, hsh, fun H1 s1 => ?_⟩
    walk_at "zz"
    refine z_bool (fun hw => ?_) (fun hw => ?_)
    · cases hd with
      | str z =>
        have hw : wordB z = true := hw
        walk_at "zz"
        refine ⟨_, _, rfl, .inr (T.t_RESERVED.2 H1), rfl, rfl, ?_⟩
        have k2 := k H1 s1
        have e : nameD (.str z) = !inV (.str z) (reserved.map V.str) := by
          show nameB z = _
          unfold nameB
          rw [hw, in_strs]; rfl
        rw [e] at k2
        exact k2
      | _ => cases hw
    · have k2 := k H1 s1
      have e : nameD d = false := by
        cases d with
        | str z =>
          have hw : wordB z = false := hw
          show nameB z = false
          unfold nameB
          rw [hw]; rfl
        | _ => rfl
      rw [e] at k2
      exact k2
def spRole (K : PySem.W.Frag) : Sp := fun vs H Q _ => ∃ (v : V) (d : PyData), vs = [v] ∧ Dp K H v d ∧ shortD d ∧ ∀ H', Same H H' → Q (.bl (roleD d)) H'
theorem ok_role (T : Txt w K mg) : Cal P w K mg base 3 "is_role" (spRole K) := by
  have C_is_word : Cal P w K mg base 1 "is_word" (spWord K) := ok_word T
  have C_is_name : Cal P w K mg base 2 "is_name" (spName K) := ok_name T
  refine cal_mk T.f_is_role bd_is_role sc_is_role (fun vs H Q E h => ?_) (fun f cdv A outer s H vs Q E hr h => ?_)
  · obtain ⟨v, d, rfl, _⟩ := h; rfl
  · obtain ⟨v, d, rfl, hd, hsh, k⟩ := h
    refine ⟨_, (pss_one (ps_ret (pe_or (pe_cl C_is_name hr (by omega) rfl (pa_cons (pv 0) pa_nil)) (pe_one (pe_and (pe_cl C_is_word hr (by omega) rfl (pa_cons (pv 0) pa_nil)) (pe_one (pe_cmpR op_in_seq (pv 0) (pe_tup (pa_cons pe_str (pa_cons pe_str pa_nil))) (by rfl)))))))), ?_⟩
    walk_at "zz"
    refine ⟨v, d, rfl, hd, hsh, fun H1 s1 => ?_⟩
    walk_at "zz"
    refine z_bool (fun hn => ?_) (fun hn => ?_)
    · have k2 := k H1 s1
      have e : roleD d = true := by
        cases d with
        | str z =>
          have hn : nameB z = true := hn
          show roleB z = true
          unfold roleB
          rw [hn]; rfl
        | _ => cases hn
      rw [e] at k2
      exact k2
    · walk_at "zz"
      refine ⟨v, d, rfl, Dp.same s1 hd, hsh, fun H2 s2 => ?_⟩
      walk_at "zz"
      refine z_bool (fun hw => ?_) (fun hw => ?_)
      · cases hd with
        | str z =>
          have hw : wordB z = true := hw
          have hn : nameB z = false := hn
          walk_at "zz"
          refine ⟨by show 2 ≤ sizeLine; decide, fun p hp => ?_⟩
          refine ⟨p, _, rfl, .inr (SqT.of upd_same), rfl, rfl, ?_⟩
          have k2 := k _ ((s1.trans s2).trans (Same.new (o := .tup [V.str "me", V.str "him"]) hp))
          have e : roleD (.str z) = inV (.str z) ([("me" : Str), "him"].map V.str) := by
            show roleB z = _
            unfold roleB
            rw [hn, hw, in_strs]; rfl
          rw [e] at k2
          exact k2
        | _ => cases hw
      · have k2 := k H2 (s1.trans s2)
        have e : roleD d = false := by
          cases d with
          | str z =>
            have hw : wordB z = false := hw
            have hn : nameB z = false := hn
            show roleB z = false
            unfold roleB
            rw [hw, hn]; rfl
          | _ => rfl
        rw [e] at k2
        exact k2
end
/-! ### the first item of a form that is wrong itself -/
def sizes : List (Str × V) := [("yes", .int 0), ("no", .int 0), ("letter", .int 1), ("act", .int 2), ("not", .int 1), ("and", .int 2), ("or", .int 2), ("if", .int 2), ("box", .int 1)]
def kindD : PyData → Option Str
  | .str z => some z
  | _ => none
def wrongN (t : PyData → Bool) : List PyData → Int → List Int → Option (List Int)
  | [], _, _ => none
  | x :: xs, i, p => if t x = true then wrongN t xs (i + 1) p else some (p ++ [i])
mutual
def wrongP : PyData → List Int → Option (List Int)
  | .list xs, p => wrongS xs p
  | .tuple xs, p => wrongS xs p
  | _, p => some p
def wrongS : List PyData → List Int → Option (List Int)
  | [], p => some p
  | k :: rest, p => match kindD k with
    | some s => if sizes.lookup s = some (V.int ((rest.length : Nat) : Int)) then (if s = "letter" then wrongN nameD rest 1 p else if s = "act" then wrongN roleD rest 1 p else wrongL rest 1 p) else some p
    | none => some p
def wrongL : List PyData → Int → List Int → Option (List Int)
  | [], _, _ => none
  | x :: xs, i, p => match wrongP x (p ++ [i]) with
    | some q => some q
    | none => wrongL xs (i + 1) p
end
theorem wrongP_seq {d : PyData} {xs : List PyData} (h : seqOf d = some xs) (p : List Int) : wrongP d p = wrongS xs p := by
  cases d <;> simp [seqOf] at h <;> subst h <;> simp [wrongP]
theorem wrongP_not {d : PyData} (h : seqOf d = none) (p : List Int) : wrongP d p = some p := by
  cases d <;> simp [seqOf] at h <;> simp [wrongP]
def wrongG (s : Str) (xs : List PyData) (i : Int) (p : List Int) : Option (List Int) := if s = "letter" then wrongN nameD xs i p else if s = "act" then wrongN roleD xs i p else wrongL xs i p
theorem wrongS_str (s : Str) (rest : List PyData) (p : List Int) : wrongS (.str s :: rest) p = if sizes.lookup s = some (V.int ((rest.length : Nat) : Int)) then wrongG s rest 1 p else some p := by
  rw [wrongS]; rfl
theorem wrongS_not {k : PyData} (h : kindD k = none) (rest : List PyData) (p : List Int) : wrongS (k :: rest) p = some p := by
  rw [wrongS, h]
/-- one item -/
def wrong1 (s : Str) (x : PyData) (i : Int) (p : List Int) : Option (List Int) := if s = "letter" then (if nameD x = true then none else some (p ++ [i])) else if s = "act" then (if roleD x = true then none else some (p ++ [i])) else wrongP x (p ++ [i])
theorem wrongG_cons (s : Str) (x : PyData) (xs : List PyData) (i : Int) (p : List Int) : wrongG s (x :: xs) i p = match wrong1 s x i p with
    | some q => some q
    | none => wrongG s xs (i + 1) p := by
  unfold wrongG wrong1
  by_cases h1 : s = "letter"
  · rw [if_pos h1, if_pos h1, if_pos h1, wrongN]
    cases nameD x <;> rfl
  · rw [if_neg h1, if_neg h1, if_neg h1]
    by_cases h2 : s = "act"
    · rw [if_pos h2, if_pos h2, if_pos h2, wrongN]
      cases roleD x <;> rfl
    · rw [if_neg h2, if_neg h2, if_neg h2, wrongL]
theorem wrongG_nil (s : Str) (i : Int) (p : List Int) : wrongG s [] i p = none := by
  unfold wrongG
  split
  · rfl
  · split
    · rfl
    · rw [wrongL]
theorem unS_facts (b : Bool) : unS b ≠ "letter" ∧ unS b ≠ "act" ∧ sizes.lookup (unS b) = some (V.int 1) := by cases b <;> decide +kernel
theorem op2_facts (k : Op2) : k.s ≠ "letter" ∧ k.s ≠ "act" ∧ sizes.lookup k.s = some (V.int 2) := by cases k <;> decide +kernel
/-- a form has no wrong item -/
theorem wrong_none {d : PyData} {f : Fm} (h : Lo d f) : f.ok = true → ∀ p, wrongP d p = none := by
  induction h with
  | yes h => intro _ p; rw [wrongP_seq h, wrongS_str, if_pos (by decide +kernel), wrongG_nil]
  | no h => intro _ p; rw [wrongP_seq h, wrongS_str, if_pos (by decide +kernel), wrongG_nil]
  | @letter d n h =>
    intro ok p
    have ok : nameB n = true := ok
    rw [wrongP_seq h, wrongS_str, if_pos (show sizes.lookup ("letter" : Str) = some (V.int (([PyData.str n].length : Nat) : Int)) from (by decide +kernel : sizes.lookup ("letter" : Str) = some (V.int 1))), wrongG_cons]
    have e : wrong1 "letter" (.str n) 1 p = none := by
      unfold wrong1
      rw [if_pos rfl]
      show (if nameB n = true then none else _) = none
      rw [if_pos ok]
    rw [e, wrongG_nil]
  | @act d a b h =>
    intro ok p
    have ok : (roleB a && roleB b) = true := ok
    rw [Bool.and_eq_true] at ok
    have hne : ¬ ("act" : Str) = "letter" := by decide +kernel
    rw [wrongP_seq h, wrongS_str, if_pos (show sizes.lookup ("act" : Str) = some (V.int (([PyData.str a, PyData.str b].length : Nat) : Int)) from (by decide +kernel : sizes.lookup ("act" : Str) = some (V.int 2))), wrongG_cons]
    have e : ∀ (z : Str) (i : Int), roleB z = true → wrong1 "act" (.str z) i p = none := fun z i hz => by
      unfold wrong1
      rw [if_neg hne, if_pos rfl]
      show (if roleB z = true then none else _) = none
      rw [if_pos hz]
    rw [e a 1 ok.1]
    show wrongG "act" [.str b] (1 + 1) p = none
    rw [wrongG_cons, e b _ ok.2, wrongG_nil]
  | @un d e b f h k ih =>
    intro ok p
    obtain ⟨h1, h2, h3⟩ := unS_facts b
    rw [wrongP_seq h, wrongS_str, if_pos (show sizes.lookup (unS b) = some (V.int (([e].length : Nat) : Int)) from h3), wrongG_cons]
    have e1 : wrong1 (unS b) e 1 p = none := by
      unfold wrong1
      rw [if_neg h1, if_neg h2]
      exact ih ok _
    rw [e1, wrongG_nil]
  | @bi d e e' k f g h k1 k2 ih1 ih2 =>
    intro ok p
    have ok : (f.ok && g.ok) = true := ok
    rw [Bool.and_eq_true] at ok
    obtain ⟨h1, h2, h3⟩ := op2_facts k
    rw [wrongP_seq h, wrongS_str, if_pos (show sizes.lookup k.s = some (V.int (([e, e'].length : Nat) : Int)) from h3), wrongG_cons]
    have e1 : wrong1 k.s e 1 p = none := by
      unfold wrong1
      rw [if_neg h1, if_neg h2]
      exact ih1 ok.1 _
    rw [e1]
    show wrongG k.s [e'] (1 + 1) p = none
    rw [wrongG_cons]
    have e2 : wrong1 k.s e' (1 + 1) p = none := by
      unfold wrong1
      rw [if_neg h1, if_neg h2]
      exact ih2 ok.2 _
    rw [e2, wrongG_nil]
mutual
/-- all texts in it are short -/
def shortA : PyData → Prop
  | .str z => z.length ≤ 100000
  | .list xs => shortAll xs
  | .tuple xs => shortAll xs
  | _ => True
def shortAll : List PyData → Prop
  | [] => True
  | x :: xs => shortA x ∧ shortAll xs
end
theorem shortA.top {d : PyData} (h : shortA d) : shortD d := by
  cases d with
  | str z => simp only [shortA] at h; exact h
  | _ => trivial
theorem shortAll_get : ∀ {xs : List PyData}, shortAll xs → ∀ (i : Nat) (x : PyData), xs[i]? = some x → shortA x
  | [], _, i, x, h => by simp at h
  | y :: ys, h, 0, x, e => by
    simp only [shortAll] at h
    cases (Option.some.inj e)
    exact h.1
  | y :: ys, h, i + 1, x, e => by
    simp only [shortAll] at h
    exact shortAll_get h.2 i x e
theorem shortA_seq {d : PyData} {xs : List PyData} (h : seqOf d = some xs) (s : shortA d) : shortAll xs := by
  cases d <;> simp [seqOf] at h <;> subst h <;> simpa only [shortA] using s
theorem depth_get : ∀ {xs : List PyData} (i : Nat) (x : PyData), xs[i]? = some x → PyData.depth x ≤ PyData.depthAll xs
  | [], i, x, h => by simp at h
  | y :: ys, 0, x, e => by
    cases (Option.some.inj e)
    show PyData.depth y ≤ max (PyData.depth y) (PyData.depthAll ys)
    omega
  | y :: ys, i + 1, x, e => by
    have := depth_get (xs := ys) i x e
    show PyData.depth x ≤ max (PyData.depth y) (PyData.depthAll ys)
    omega
theorem depth_seq {d : PyData} {xs : List PyData} (h : seqOf d = some xs) : PyData.depth d = PyData.depthAll xs + 1 := by
  cases d <;> simp [seqOf] at h <;> subst h <;> rfl
/-- data as a sequence -/
theorem dp_seq {K : PySem.W.Frag} {H : Hp} {v : V} {d : PyData} (h : Dp K H v d) : (∃ a xs ds, v = .ref a ∧ seqOf d = some ds ∧ SqX K H a xs ∧ DpAll K H xs ds) ∨ seqOf d = none := by
  cases h with
  | lst h1 h2 => exact .inl ⟨_, _, _, rfl, rfl, .inl h1, h2⟩
  | tup h1 h2 => exact .inl ⟨_, _, _, rfl, rfl, .inr h1, h2⟩
  | _ => exact .inr rfl
section
variable {P : Program} {w : World} {K : PySem.W.Frag} {mg : Str → Option Value} {base : Heap}
/-! ### reading -/
theorem cut_nat (t : List Nat) (i j : Nat) : cutS (sT t) (some (i : Int)) (some (j : Int)) = sT ((t.drop i).take (j - i)) := by
  unfold cutS
  rw [HT.sIx_nat, HT.sIx_nat, sT_len]
  show (⟨((t.toArray.toList.drop (min i t.length)).take (min j t.length - min i t.length)).toArray⟩ : Str) = ⟨((t.drop i).take (j - i)).toArray⟩
  congr 2
  by_cases h : i ≤ t.length
  · rw [Nat.min_eq_left h]
    by_cases h2 : j ≤ t.length
    · rw [Nat.min_eq_left h2]
    · rw [Nat.min_eq_right (by omega), List.take_of_length_le (by rw [List.length_drop]; exact Nat.le_refl _), List.take_of_length_le (by rw [List.length_drop]; omega)]
  · have e : min i t.length = t.length := Nat.min_eq_right (by omega)
    rw [e]
    show (t.drop t.length).take _ = _
    rw [List.drop_length, List.drop_of_length_le (by omega), List.take_nil, List.take_nil]
theorem cut_mid (p w r : List Nat) : cutS (sT (p ++ (w ++ r))) (some (p.length : Int)) (some ((p.length + w.length : Nat) : Int)) = sT w := by
  rw [cut_nat, List.drop_left, Nat.add_sub_cancel_left, List.take_left]
theorem cut_at (p r : List Nat) (n : Nat) : cutS (sT (p ++ r)) (some (p.length : Int)) (some ((p.length + n : Nat) : Int)) = sT (r.take n) := by
  rw [cut_nat, List.drop_left, Nat.add_sub_cancel_left]
theorem get_app (p s : List Nat) (j : Nat) : (p ++ s)[p.length + j]? = s[j]? := by
  rw [List.getElem?_append_right (by omega)]
  congr 1; omega
def noL : List Nat → Bool
  | [] => true
  | c :: _ => !letterB c
def stopB : List Nat → Bool
  | [] => true
  | c :: _ => !letterB c && c != 45
theorem stop_noL {r : List Nat} (h : stopB r = true) : noL r = true := by
  cases r with
  | nil => rfl
  | cons c r =>
    have h : (!letterB c && c != 45) = true := h
    rw [Bool.and_eq_true] at h
    exact h.1
def spWEnd : Sp := fun vs H Q _ => ∃ (p w r : List Nat), vs = [.str (sT (p ++ (w ++ r))), .int (p.length : Int)] ∧ w.all letterB = true ∧ noL r = true ∧ (p ++ (w ++ r)).length ≤ 1000000 ∧ Q (.int ((p.length + w.length : Nat) : Int)) H
theorem ok_wend (T : Txt w K mg) : Cal P w K mg base 1 "word_end" spWEnd := by
  refine cal_mk T.f_word_end bd_word_end sc_word_end (fun vs H Q E h => ?_) (fun fa cdv A outer s H vs Q E hr h => ?_)
  · obtain ⟨p, w, r, rfl, _⟩ := h; rfl
  · obtain ⟨p, l, r, rfl, hw, hr', hlen, k⟩ := h
    refine ⟨_, (pss_cons (ps_while PassesOwn.never (PW.pt (pw_and (pt_cmpR op_lt (pv 1) (pe_callB call_len (by rfl) T.n_len (by decide +kernel) (pa_cons (pv 0) pa_nil)) (nomark _)) (pw_and1 (pt_cmpR op_in_sign (pe_ix ix_str (pv 0) (pv 1) (fun _ _ => rfl)) (pe_gs rfl T.c_LETTERS) (by rfl))))) (pss_one (ps_aug (i := 1) sc_word_end.nd rfl (Or.inl rfl) pe_int ip_add)))
      (pss_one (ps_ret (pv 1)))), ?_⟩
    walk_at "zz"
    have hlen' : (sT (p ++ (l ++ r))).length = p.length + (l.length + r.length) := by rw [sT_len, List.length_append, List.length_append]
    have hlen2 : p.length + (l.length + r.length) ≤ 1000000 := by rw [List.length_append, List.length_append] at hlen; exact hlen
    refine z_while (fun m σ' H' => m ≤ l.length ∧ σ' = [some (.str (sT (p ++ (l ++ r)))), some (.int ((p.length + (l.length - m) : Nat) : Int))] ∧ H' = H) l.length ⟨Nat.le_refl _, by rw [Nat.sub_self]; rfl, rfl⟩ ?_
    rintro m σ' H' ⟨h1, rfl, rfl⟩
    walk_at "zz"
    refine ⟨_, _, rfl, ⟨by rw [hlen']; exact line_le hlen2, rfl⟩, ?_⟩
    walk_at "zz"
    refine z_dec (fun hlt => ?_) (fun hlt => ?_)
    · walk_at "zz"
      have hlt : p.length + (l.length - m) < p.length + (l.length + r.length) := by rw [← hlen']; exact Int.ofNat_lt.mp hlt
      have hc : ∃ c, (p ++ (l ++ r))[p.length + (l.length - m)]? = some c ∧ letterB c = decide (m ≠ 0) := by
        rw [get_app]
        by_cases hm : m = 0
        · subst hm
          rw [Nat.sub_zero, show l.length = l.length + 0 from rfl, get_app]
          cases r with
          | nil => rw [List.length_nil] at hlt; omega
          | cons c r => exact ⟨c, rfl, by have : (!letterB c) = true := hr'; simpa using this⟩
        · have hj : l.length - m < l.length := by omega
          rw [List.getElem?_append_left hj, List.getElem?_eq_getElem hj]
          refine ⟨_, rfl, ?_⟩
          rw [decide_eq_true hm]
          exact List.all_eq_true.mp hw _ (List.getElem_mem hj)
      obtain ⟨c, hc1, hc2⟩ := hc
      refine ⟨_, _, c, rfl, rfl, by rw [hlen']; exact line_le hlen2, atI_nat hc1, ?_⟩
      walk_at "zz"
      refine ⟨c, _, rfl, rfl, ?_⟩
      rw [letters_mem, hc2]
      walk_at "zz"
      refine z_dec (fun hm => ?_) (fun hm => ?_)
      · refine z_again ?_
        walk_at "zz"
        refine ⟨m - 1, by omega, by omega, ?_, rfl⟩
        have e : ((p.length + (l.length - m) : Nat) : Int) + 1 = ((p.length + (l.length - (m - 1)) : Nat) : Int) := by omega
        rw [← e]; rfl
      · walk_at "zz"
        have e : m = 0 := by omega
        subst e
        exact k
    · walk_at "zz"
      have hlt : ¬ p.length + (l.length - m) < p.length + (l.length + r.length) := by rw [← hlen']; exact fun z => hlt (Int.ofNat_lt.mpr z)
      have e : m = 0 := by omega
      subst e
      exact k
theorem cut_one (p w r : List Nat) : cutS (sT (p ++ (w ++ r))) (some ((p.length + w.length : Nat) : Int)) (some (((p.length + w.length : Nat) : Int) + 1)) = sT (r.take 1) := by
  have h := cut_at (p ++ w) r 1
  rw [List.append_assoc, List.length_append] at h
  exact h
theorem no_dash {r : List Nat} (h : stopB r = true) : ¬ (decide (V.str (sT (r.take 1)) = V.str "-") = true) := by
  intro e
  have e := of_decide_eq_true e
  have e2 : sT (r.take 1) = sT [45] := by rw [V.str.inj e]; decide +kernel
  have e3 := SX.S_inj e2
  cases r with
  | nil => cases e3
  | cons c r =>
    have e4 : [c] = [45] := e3
    cases e4
    cases (show (!letterB 45 && (45 : Nat) != 45) = true from h)
theorem short_str8 {z : Str} (h : z.length ≤ 8) : shortD (.str z) := by show z.length ≤ 100000; omega
theorem role_lits {z : Str} (h : roleB z = true) : z.cps.toList.all letterB = true := by
  have := role_word h
  unfold wordB at this
  rw [Bool.and_eq_true] at this
  exact this.2
theorem name_lits {z : Str} (h : nameB z = true) : z.cps.toList.all letterB = true := by
  have := name_word h
  unfold wordB at this
  rw [Bool.and_eq_true] at this
  exact this.2
def Fm.atom : Fm → Bool
  | .yes | .no | .letter _ | .act _ _ => true
  | _ => false
/-- what a reading leaves: the form and the place behind it -/
def Found (K : PySem.W.Frag) (H H' : Hp) (q : Addr) (f : Fm) (e : Nat) : Prop := Same H H' ∧ ∃ fv, H' q = some (.tup [fv, .int (e : Int)]) ∧ FAt K H' fv f
def spRWord (K : PySem.W.Frag) : Sp := fun vs H Q _ => ∃ (p r : List Nat) (f : Fm), vs = [.str (sT (p ++ (f.txt ++ r))), .int (p.length : Int)] ∧ f.atom = true ∧ f.ok = true ∧ stopB r = true ∧ (p ++ (f.txt ++ r)).length ≤ 1000000 ∧ ∀ q H', Found K H H' q f (p.length + f.txt.length) → Q (.ref q) H'
theorem ok_rword (T : Txt w K mg) : Cal P w K mg base 4 "read_word" (spRWord K) := by
  have C_word_end : Cal P w K mg base 1 "word_end" spWEnd := ok_wend T
  have C_is_role : Cal P w K mg base 3 "is_role" (spRole K) := ok_role T
  have C_is_name : Cal P w K mg base 2 "is_name" (spName K) := ok_name T
  refine cal_mk T.f_read_word bd_read_word sc_read_word (fun vs H Q E h => ?_) (fun fa cdv A outer s H vs Q E hr h => ?_)
  · obtain ⟨p, r, f, rfl, _⟩ := h; rfl
  · obtain ⟨p, r, f, rfl, hat, hok, hst, hlen, k⟩ := h
    refine ⟨_, (pss_cons (ps_set (i := 2) sc_read_word.nd rfl (Or.inl rfl) (pe_cl C_word_end hr (by omega) rfl (pa_cons (pv 0) (pa_cons (pv 1) pa_nil))))
      (pss_cons (ps_set (i := 3) sc_read_word.nd rfl (Or.inl rfl) (pe_slice sl_str (pv 0) (po_some (pv 1)) (po_some (pv 2))))
      (pss_cons (ps_if (pt_cmpR op_eq (pe_slice sl_str (pv 0) (po_some (pv 2)) (po_some (pe_op op_add (pv 2) pe_int))) pe_str (nomark _)) (pss_cons (ps_set (i := 4) sc_read_word.nd rfl (Or.inl rfl) (pe_cl C_word_end hr (by omega) rfl (pa_cons (pv 0) (pa_cons (pe_op op_add (pv 2) pe_int) pa_nil))))
      (pss_cons (ps_set (i := 5) sc_read_word.nd rfl (Or.inl rfl) (pe_slice sl_str (pv 0) (po_some (pe_op op_add (pv 2) pe_int)) (po_some (pv 4))))
      (pss_one (ps_ret (pe_ifExp (PW.pt (pw_and (pt_val (pe_cl C_is_role hr (by omega) rfl (pa_cons (pv 3) pa_nil))) (pw_and1 (pt_val (pe_cl C_is_role hr (by omega) rfl (pa_cons (pv 5) pa_nil)))))) (pe_tup (pa_cons (pe_tup (pa_cons pe_str (pa_cons (pv 3) (pa_cons (pv 5) pa_nil)))) (pa_cons (pv 4) pa_nil))) pe_non))))) pss_nil)
      (pss_cons (ps_if (pt_cmpR op_in_seq (pv 3) (pe_tup (pa_cons pe_str (pa_cons pe_str pa_nil))) (by rfl)) (pss_one (ps_ret (pe_tup (pa_cons (pe_tup (pa_cons (pv 3) pa_nil)) (pa_cons (pv 2) pa_nil))))) pss_nil)
      (pss_one (ps_ret (pe_ifExp (pt_val (pe_cl C_is_name hr (by omega) rfl (pa_cons (pv 3) pa_nil))) (pe_tup (pa_cons (pe_tup (pa_cons pe_str (pa_cons (pv 3) pa_nil))) (pa_cons (pv 2) pa_nil))) pe_non))))))), ?_⟩
    walk_at "zz"
    have hL : (sT (p ++ (f.txt ++ r))).length ≤ sizeLine := by rw [sT_len]; exact line_le hlen
    cases f with
    | un b f => cases hat
    | bi o f g => cases hat
    | act a b =>
      have hok2 : (roleB a && roleB b) = true := hok
      rw [Bool.and_eq_true] at hok2
      have e0 : p ++ ((Fm.act a b).txt ++ r) = p ++ (a.cps.toList ++ (45 :: (b.cps.toList ++ r))) := by
        show p ++ ((a.cps.toList ++ 45 :: b.cps.toList) ++ r) = _
        rw [List.append_assoc]; rfl
      rw [e0] at hlen hL ⊢
      refine ⟨p, _, _, rfl, role_lits hok2.1, rfl, hlen, ?_⟩
      walk_at "zz"
      refine ⟨_, rfl, hL, ?_⟩
      rw [cut_mid, S_str]
      walk_at "zz"
      refine ⟨_, rfl, hL, ?_⟩
      rw [cut_one]
      walk_at "zz"
      refine z_true (by show decide (V.str (sT [45]) = V.str "-") = true; decide +kernel) ?_
      walk_at "zz"
      have ep : p ++ (a.cps.toList ++ (45 :: (b.cps.toList ++ r))) = (p ++ (a.cps.toList ++ [45])) ++ (b.cps.toList ++ r) := by simp
      have el : ((p.length + a.cps.toList.length : Nat) : Int) + 1 = ((p ++ (a.cps.toList ++ [45])).length : Int) := by simp only [List.length_append, List.length_cons, List.length_nil]; omega
      rw [el, ep]
      rw [ep] at hlen hL
      refine ⟨_, _, _, rfl, role_lits hok2.2, stop_noL hst, hlen, ?_⟩
      walk_at "zz"
      rw [el]
      refine ⟨_, rfl, hL, ?_⟩
      rw [cut_mid, S_str]
      walk_at "zz"
      refine ⟨_, _, rfl, .str a, short_str8 (word_ok (role_word hok2.1)).2, fun H1 s1 => ?_⟩
      walk_at "zz"
      refine z_true hok2.1 ?_
      walk_at "zz"
      refine ⟨_, _, rfl, .str b, short_str8 (word_ok (role_word hok2.2)).2, fun H2 s2 => ?_⟩
      walk_at "zz"
      refine z_true hok2.2 ?_
      walk_at "zz"
      refine ⟨by show 3 ≤ sizeLine; decide, fun q1 hq1 => ?_⟩
      walk_at "zz"
      refine ⟨by show 2 ≤ sizeLine; decide, fun q2 hq2 => ?_⟩
      refine k q2 _ ⟨(s1.trans s2).trans ((Same.new hq1).trans (Same.new hq2)), .ref q1, ?_, ?_⟩
      · rw [upd_same]
        have e : (p ++ (a.cps.toList ++ [45])).length + b.cps.toList.length = p.length + (Fm.act a b).txt.length := by
          show _ = p.length + (a.cps.toList ++ 45 :: b.cps.toList).length
          simp only [List.length_append, List.length_cons, List.length_nil]; omega
        rw [e]
      · exact .tup (Tp.of ((Same.new hq2) _ _ upd_same)) (.cons (.str _) (.cons (.str _) (.cons (.str _) .nil)))
    | yes =>
      refine ⟨p, _, _, rfl, (by decide : (Fm.yes).txt.all letterB = true), stop_noL hst, hlen, ?_⟩
      walk_at "zz"
      refine ⟨_, rfl, hL, ?_⟩
      rw [cut_mid]
      walk_at "zz"
      refine ⟨_, rfl, hL, ?_⟩
      rw [cut_one]
      walk_at "zz"
      refine z_false (no_dash hst) ?_
      walk_at "zz"
      refine ⟨by decide, fun q hq => ?_⟩
      refine z_inT (SqT.of upd_same) rfl rfl ?_
      walk_at "zz"
      refine z_true (by decide +kernel) ?_
      walk_at "zz"
      refine ⟨by show 1 ≤ sizeLine; decide, fun q1 hq1 => ?_⟩
      walk_at "zz"
      refine ⟨by show 2 ≤ sizeLine; decide, fun q2 hq2 => ?_⟩
      refine k q2 _ ⟨(Same.new hq).trans ((Same.new hq1).trans (Same.new hq2)), .ref q1, upd_same, ?_⟩
      have e : sT (Fm.yes).txt = "yes" := by decide +kernel
      refine .tup (Tp.of ((Same.new hq2) _ _ upd_same)) (.cons ?_ .nil)
      rw [e]
      exact .str _
    | no =>
      refine ⟨p, _, _, rfl, (by decide : (Fm.no).txt.all letterB = true), stop_noL hst, hlen, ?_⟩
      walk_at "zz"
      refine ⟨_, rfl, hL, ?_⟩
      rw [cut_mid]
      walk_at "zz"
      refine ⟨_, rfl, hL, ?_⟩
      rw [cut_one]
      walk_at "zz"
      refine z_false (no_dash hst) ?_
      walk_at "zz"
      refine ⟨by decide, fun q hq => ?_⟩
      refine z_inT (SqT.of upd_same) rfl rfl ?_
      walk_at "zz"
      refine z_true (by decide +kernel) ?_
      walk_at "zz"
      refine ⟨by show 1 ≤ sizeLine; decide, fun q1 hq1 => ?_⟩
      walk_at "zz"
      refine ⟨by show 2 ≤ sizeLine; decide, fun q2 hq2 => ?_⟩
      refine k q2 _ ⟨(Same.new hq).trans ((Same.new hq1).trans (Same.new hq2)), .ref q1, upd_same, ?_⟩
      have e : sT (Fm.no).txt = "no" := by decide +kernel
      refine .tup (Tp.of ((Same.new hq2) _ _ upd_same)) (.cons ?_ .nil)
      rw [e]
      exact .str _
    | letter z =>
      have hok2 : nameB z = true := hok
      have ht : (Fm.letter z).txt = z.cps.toList := rfl
      rw [ht] at hlen hL k ⊢
      refine ⟨p, _, _, rfl, name_lits hok2, stop_noL hst, hlen, ?_⟩
      walk_at "zz"
      refine ⟨_, rfl, hL, ?_⟩
      rw [cut_mid, S_str]
      walk_at "zz"
      refine ⟨_, rfl, hL, ?_⟩
      rw [cut_one]
      walk_at "zz"
      refine z_false (no_dash hst) ?_
      walk_at "zz"
      refine ⟨by decide, fun q hq => ?_⟩
      refine z_inT (SqT.of upd_same) rfl rfl ?_
      walk_at "zz"
      have hnr : inV (.str z) [V.str "yes", V.str "no"] = false := by
        have h := hok2
        unfold nameB at h
        rw [Bool.and_eq_true] at h
        have h2 := h.2
        have e := in_strs z ["yes", "no"]
        show inV (.str z) ((["yes", "no"] : List Str).map V.str) = false
        rw [e]
        simp only [reserved, List.any_cons, List.any_nil, Bool.or_false, Bool.not_eq_true', Bool.or_eq_false_iff] at h2 ⊢
        exact ⟨h2.1, h2.2.1⟩
      refine z_false (by rw [hnr]; decide) ?_
      walk_at "zz"
      refine ⟨_, _, rfl, .str z, short_str8 (word_ok (name_word hok2)).2, fun H1 s1 => ?_⟩
      walk_at "zz"
      refine z_true hok2 ?_
      walk_at "zz"
      refine ⟨by show 2 ≤ sizeLine; decide, fun q1 hq1 => ?_⟩
      walk_at "zz"
      refine ⟨by show 2 ≤ sizeLine; decide, fun q2 hq2 => ?_⟩
      refine k q2 _ ⟨((Same.new hq).trans s1).trans ((Same.new hq1).trans (Same.new hq2)), .ref q1, upd_same, ?_⟩
      exact .tup (Tp.of ((Same.new hq2) _ _ upd_same)) (.cons (.str _) (.cons (.str _) .nil))
end
section
variable {P : Program} {w : World} {K : PySem.W.Frag} {mg : Str → Option Value} {base : Heap}
def spRForm (K : PySem.W.Frag) (n : Nat) : Sp := fun vs H Q _ => ∃ (p r : List Nat) (f : Fm), vs = [.str (sT (p ++ (f.txt ++ r))), .int (p.length : Int)] ∧ f.dep < n ∧ f.ok = true ∧ stopB r = true ∧ (p ++ (f.txt ++ r)).length ≤ 1000000 ∧ ∀ q H', Found K H H' q f (p.length + f.txt.length) → Q (.ref q) H'
def spRPair (K : PySem.W.Frag) (n : Nat) : Sp := fun vs H Q _ => ∃ (p r : List Nat) (o : Op2) (f g : Fm), vs = [.str (sT (p ++ ((Fm.bi o f g).txt ++ r))), .int (p.length : Int)] ∧ f.dep < n ∧ g.dep < n ∧ f.ok = true ∧ g.ok = true ∧ (p ++ ((Fm.bi o f g).txt ++ r)).length ≤ 1000000 ∧ ∀ q H', Found K H H' q (.bi o f g) (p.length + (Fm.bi o f g).txt.length) → Q (.ref q) H'
theorem un_at2 {K : PySem.W.Frag} {H : Hp} {p : Addr} {f : Fm} {b : Bool} {z : Str} (hz : z = unS b) (h : FAt K H (.ref p) f) {t : Addr} (ht : H t = none) : FAt K (upd H t (.tup [.str z, .ref p])) (.ref t) (.un b f) := by
  subst hz
  exact .tup (Tp.of upd_same) (.cons (.str _) (.cons (At.mono (TS.of (Same.new ht)) h) .nil))
theorem cut_thr (p w r : List Nat) : cutS (sT (p ++ (w ++ r))) (some ((p.length + w.length : Nat) : Int)) (some (((p.length + w.length : Nat) : Int) + 3)) = sT (r.take 3) := by
  have h := cut_at (p ++ w) r 3
  rw [List.append_assoc, List.length_append] at h
  exact h
theorem ok_rpair (T : Txt w K mg) {m n : Nat} (C_read_form : Cal P w K mg base m "read_form" (spRForm K n)) : Cal P w K mg base (m + 1) "read_pair" (spRPair K n) := by
  refine cal_mk T.f_read_pair bd_read_pair sc_read_pair (fun vs H Q E h => ?_) (fun fa cdv A outer s H vs Q E hr h => ?_)
  · obtain ⟨p, r, o, f, g, rfl, _⟩ := h; rfl
  · obtain ⟨p, r, o, f, g, rfl, hdf, hdg, hokf, hokg, hlen, k⟩ := h
    refine ⟨_, (pss_cons (ps_set (i := 2) sc_read_pair.nd rfl (Or.inl rfl) (pe_cl C_read_form hr (by omega) rfl (pa_cons (pv 0) (pa_cons (pe_op op_add (pv 1) pe_int) pa_nil))))
      (pss_cons (ps_if (pt_cmpR op_isN (pv 2) pe_non (nomark _)) (pss_one (ps_ret pe_non)) pss_nil)
      (pss_cons (ps_set (i := 3) sc_read_pair.nd rfl (Or.inl rfl) (pe_slice sl_str (pv 0) (po_some (pe_ix ix_tup (pv 2) pe_int (fun _ _ => rfl))) (po_some (pe_op op_add (pe_ix ix_tup (pv 2) pe_int (fun _ _ => rfl)) pe_int))))
      (pss_cons (ps_if (PW.pt (pw_or (pt_cmpR op_ne (pe_callB call_len (by rfl) T.n_len (by decide +kernel) (pa_cons (pv 3) pa_nil)) pe_int (nomark _)) (pw_or (pt_cmpR op_ne (pe_ix ix_str (pv 3) pe_int (fun _ _ => rfl)) pe_str (nomark _)) (pw_or (pt_cmpR op_ne (pe_ix ix_str (pv 3) pe_int (fun _ _ => rfl)) pe_str (nomark _)) (pw_or1 (pt_cmpR (op_notIn_tab T.d_KINDS.2) (pe_ix ix_str (pv 3) pe_int (fun _ _ => rfl)) (pe_gr rfl T.d_KINDS.1) (by rfl))))))) (pss_one (ps_ret pe_non)) pss_nil)
      (pss_cons (ps_set (i := 4) sc_read_pair.nd rfl (Or.inl rfl) (pe_cl C_read_form hr (by omega) rfl (pa_cons (pv 0) (pa_cons (pe_op op_add (pe_ix ix_tup (pv 2) pe_int (fun _ _ => rfl)) pe_int) pa_nil))))
      (pss_cons (ps_if (PW.pt (pw_or (pt_cmpR op_isN (pv 4) pe_non (nomark _)) (pw_or1 (pt_cmpR op_ne (pe_slice sl_str (pv 0) (po_some (pe_ix ix_tup (pv 4) pe_int (fun _ _ => rfl))) (po_some (pe_op op_add (pe_ix ix_tup (pv 4) pe_int (fun _ _ => rfl)) pe_int))) pe_str (nomark _))))) (pss_one (ps_ret pe_non)) pss_nil)
      (pss_one (ps_ret (pe_tup (pa_cons (pe_tup (pa_cons (pe_ix (ix_tab T.d_KINDS.2) (pe_gr rfl T.d_KINDS.1) (pe_ix ix_str (pv 3) pe_int (fun _ _ => rfl)) (fun _ _ => rfl)) (pa_cons (pe_ix ix_tup (pv 2) pe_int (fun _ _ => rfl)) (pa_cons (pe_ix ix_tup (pv 4) pe_int (fun _ _ => rfl)) pa_nil)))) (pa_cons (pe_op op_add (pe_ix ix_tup (pv 4) pe_int (fun _ _ => rfl)) pe_int) pa_nil))))))))))), ?_⟩
    walk_at "zz"
    have e0 : p ++ ((Fm.bi o f g).txt ++ r) = (p ++ [40]) ++ (f.txt ++ (32 :: o.c :: 32 :: (g.txt ++ (41 :: r)))) := by
      show p ++ ((40 :: (f.txt ++ 32 :: o.c :: 32 :: (g.txt ++ [41]))) ++ r) = _
      simp
    have e1 : ((p.length : Nat) : Int) + 1 = ((p ++ [40]).length : Int) := by rw [List.length_append]; rfl
    have eT : (Fm.bi o f g).txt.length = 1 + f.txt.length + 3 + g.txt.length + 1 := by
      show (40 :: (f.txt ++ 32 :: o.c :: 32 :: (g.txt ++ [41]))).length = _
      simp only [List.length_append, List.length_cons, List.length_nil]; omega
    rw [e0] at hlen ⊢
    have hL : (sT ((p ++ [40]) ++ (f.txt ++ (32 :: o.c :: 32 :: (g.txt ++ (41 :: r)))))).length ≤ sizeLine := by rw [sT_len]; exact line_le hlen
    rw [e1]
    refine ⟨_, _, f, rfl, hdf, hokf, rfl, hlen, fun q1 H1 hq1 => ?_⟩
    obtain ⟨s1, fv, hq1, hf⟩ := hq1
    walk_at "zz"
    refine ⟨rfl, ?_⟩
    walk_at "zz"
    refine z_false (by simp) ?_
    walk_at "zz"
    refine ⟨q1, _, _, _, rfl, rfl, SqT.of hq1, atI_nat (j := 1) rfl, ?_⟩
    walk_at "zz"
    refine ⟨q1, _, _, _, rfl, rfl, SqT.of hq1, atI_nat (j := 1) rfl, ?_⟩
    walk_at "zz"
    refine ⟨_, rfl, hL, ?_⟩
    rw [cut_thr]
    have eb : sT ((32 :: o.c :: 32 :: (g.txt ++ (41 :: r))).take 3) = sT [32, o.c, 32] := rfl
    rw [eb]
    have hb3 : (sT [32, o.c, 32]).length = 3 := rfl
    walk_at "zz"
    refine ⟨_, _, rfl, ⟨by rw [hb3]; decide, rfl⟩, ?_⟩
    walk_at "zz"
    refine z_false (by rw [hb3]; decide) ?_
    walk_at "zz"
    refine ⟨_, 0, 32, rfl, rfl, by rw [hb3]; decide, atI_nat (j := 0) rfl, ?_⟩
    walk_at "zz"
    refine z_false (by decide +kernel) ?_
    walk_at "zz"
    refine ⟨_, 2, 32, rfl, rfl, by rw [hb3]; decide, atI_nat (j := 2) rfl, ?_⟩
    walk_at "zz"
    refine z_false (by decide +kernel) ?_
    walk_at "zz"
    refine ⟨_, 1, o.c, rfl, rfl, by rw [hb3]; decide, atI_nat (j := 1) rfl, ?_⟩
    walk_at "zz"
    refine ⟨_, rfl, rfl, ?_⟩
    walk_at "zz"
    refine z_false (by cases o <;> decide +kernel) ?_
    walk_at "zz"
    refine ⟨q1, _, _, _, rfl, rfl, SqT.of hq1, atI_nat (j := 1) rfl, ?_⟩
    walk_at "zz"
    have e2 : (p ++ [40]) ++ (f.txt ++ (32 :: o.c :: 32 :: (g.txt ++ (41 :: r)))) = (p ++ [40] ++ (f.txt ++ [32, o.c, 32])) ++ (g.txt ++ (41 :: r)) := by simp
    have e3 : (((p ++ [40]).length + f.txt.length : Nat) : Int) + 3 = ((p ++ [40] ++ (f.txt ++ [32, o.c, 32])).length : Int) := by simp only [List.length_append, List.length_cons, List.length_nil]; omega
    rw [e3, e2]
    rw [e2] at hlen hL
    refine ⟨_, _, g, rfl, hdg, hokg, rfl, hlen, fun q2 H2 hq2 => ?_⟩
    obtain ⟨s2, gv, hq2, hg⟩ := hq2
    walk_at "zz"
    refine ⟨rfl, ?_⟩
    walk_at "zz"
    refine z_false (by simp) ?_
    walk_at "zz"
    refine ⟨q2, _, _, _, rfl, rfl, SqT.of hq2, atI_nat (j := 1) rfl, ?_⟩
    walk_at "zz"
    refine ⟨q2, _, _, _, rfl, rfl, SqT.of hq2, atI_nat (j := 1) rfl, ?_⟩
    walk_at "zz"
    refine ⟨_, rfl, hL, ?_⟩
    rw [cut_one]
    walk_at "zz"
    refine z_false (by show ¬ (!decide (V.str (sT [41]) = V.str ")")) = true; decide +kernel) ?_
    walk_at "zz"
    refine ⟨_, 1, o.c, rfl, rfl, by rw [hb3]; decide, atI_nat (j := 1) rfl, ?_⟩
    walk_at "zz"
    refine ⟨_, .str o.s, rfl, rfl, by cases o <;> decide +kernel, ?_⟩
    walk_at "zz"
    refine ⟨q1, _, _, _, rfl, rfl, SqT.of (s2 _ _ hq1), atI_nat (j := 0) rfl, ?_⟩
    walk_at "zz"
    refine ⟨q2, _, _, _, rfl, rfl, SqT.of hq2, atI_nat (j := 0) rfl, ?_⟩
    walk_at "zz"
    refine ⟨by show 3 ≤ sizeLine; decide, fun q3 hq3 => ?_⟩
    walk_at "zz"
    refine ⟨q2, _, _, _, rfl, rfl, SqT.of ((Same.new hq3) _ _ hq2), atI_nat (j := 1) rfl, ?_⟩
    walk_at "zz"
    refine ⟨by show 2 ≤ sizeLine; decide, fun q4 hq4 => ?_⟩
    have s4 := (Same.new (o := .tup [V.str o.s, fv, gv]) hq3)
    refine k q4 _ ⟨(s1.trans s2).trans (s4.trans (Same.new hq4)), .ref q3, ?_, ?_⟩
    · rw [upd_same]
      have e : (((p ++ [40] ++ (f.txt ++ [32, o.c, 32])).length + g.txt.length : Nat) : Int) + 1 = ((p.length + (Fm.bi o f g).txt.length : Nat) : Int) := by
        rw [eT]
        simp only [List.length_append, List.length_cons, List.length_nil]; omega
      rw [e]
    · exact .tup (Tp.of ((Same.new hq4) _ _ upd_same)) (.cons (.str _) (.cons (At.mono (TS.of (s2.trans (s4.trans (Same.new hq4)))) hf) (.cons (At.mono (TS.of (s4.trans (Same.new hq4))) hg) .nil)))
def Fm.us : Fm → List Bool
  | .un b f => b :: f.us
  | _ => []
def Fm.core : Fm → Fm
  | .un _ f => f.core
  | f => f
theorem Fm.txt_split : ∀ f : Fm, f.txt = f.us.map unC ++ f.core.txt
  | .un b f => by
    show unC b :: f.txt = unC b :: (f.us.map unC ++ f.core.txt)
    rw [← f.txt_split]
  | .yes | .no | .letter _ | .act _ _ | .bi _ _ _ => rfl
theorem Fm.fold_us : ∀ f : Fm, f.us.reverse.foldl (fun g b => Fm.un b g) f.core = f
  | .un b f => by
    show (b :: f.us).reverse.foldl _ f.core = _
    rw [List.reverse_cons, List.foldl_append, f.fold_us]; rfl
  | .yes | .no | .letter _ | .act _ _ | .bi _ _ _ => rfl
theorem Fm.core_ok : ∀ f : Fm, f.core.ok = f.ok
  | .un b f => f.core_ok
  | .yes | .no | .letter _ | .act _ _ | .bi _ _ _ => rfl
theorem Fm.core_dep : ∀ f : Fm, f.core.dep ≤ f.dep
  | .un b f => Nat.le_succ_of_le f.core_dep
  | .yes | .no | .letter _ | .act _ _ | .bi _ _ _ => Nat.le_refl _
theorem Fm.core_kind : ∀ f : Fm, f.core.atom = true ∨ ∃ o g h, f.core = .bi o g h
  | .un b f => f.core_kind
  | .yes | .no | .letter _ | .act _ _ => .inl rfl
  | .bi o g h => .inr ⟨o, g, h, rfl⟩
/-- a core's text begins with a bracket or a letter -/
theorem head_lit {z : Str} (h : wordB z = true) : ∃ c l, z.cps.toList = c :: l ∧ letterB c = true := by
  unfold wordB at h
  rw [Bool.and_eq_true, Bool.and_eq_true] at h
  have h1 := of_decide_eq_true h.1.1
  cases e : z.cps.toList with
  | nil =>
    have : z.cps.toList.length = z.length := Array.length_toList
    rw [e, List.length_nil] at this
    omega
  | cons c l =>
    have h2 := h.2
    rw [e, List.all_cons, Bool.and_eq_true] at h2
    exact ⟨c, l, rfl, h2.1⟩
theorem Fm.head_atom {f : Fm} (h : f.atom = true) (hok : f.ok = true) : ∃ c l, f.txt = c :: l ∧ letterB c = true := by
  cases f with
  | yes => exact ⟨_, _, rfl, by decide⟩
  | no => exact ⟨_, _, rfl, by decide⟩
  | letter z => exact head_lit (name_word (show nameB z = true from hok))
  | act a b =>
    have hok2 : (roleB a && roleB b) = true := hok
    rw [Bool.and_eq_true] at hok2
    obtain ⟨c, l, e, hc⟩ := head_lit (role_word hok2.1)
    refine ⟨c, l ++ 45 :: b.cps.toList, ?_, hc⟩
    show a.cps.toList ++ _ = _
    rw [e]; rfl
  | un b f => cases h
  | bi o f g => cases h
theorem cut_off (p s : List Nat) (j : Nat) : cutS (sT (p ++ s)) (some ((p.length + j : Nat) : Int)) (some (((p.length + j : Nat) : Int) + 1)) = sT ((s.drop j).take 1) := by
  have h := cut_nat (p ++ s) (p.length + j) (p.length + j + 1)
  rw [← List.drop_drop, List.drop_left, Nat.add_sub_cancel_left] at h
  exact h
theorem sign_in (c : Nat) : inV (.str (sT [c])) [V.str "~", V.str "#"] = (c == 126 || c == 35) := by
  have e := in_strs (sT [c]) ["~", "#"]
  have e1 : ("~" : Str) = sT [126] := by decide +kernel
  have e2 : ("#" : Str) = sT [35] := by decide +kernel
  show inV (.str (sT [c])) ((["~", "#"] : List Str).map V.str) = _
  rw [e]
  simp only [List.any_cons, List.any_nil, Bool.or_false, e1, e2]
  rw [SX.S_beq, SX.S_beq]
  have e3 : ∀ a : Nat, (([a] : List Nat) == [c]) = (c == a) := fun a => by
    by_cases h : a = c
    · subst h; simp
    · have h' : ¬ c = a := fun z => h z.symm
      rw [beq_eq_false_iff_ne.mpr h', beq_eq_false_iff_ne.mpr (by simpa using h)]
  rw [e3, e3]
theorem rev_sT (l : List Nat) : revS (sT l) = sT l.reverse := rfl
theorem ok_rform (T : Txt w K mg) : ∀ n : Nat, Cal P w K mg base (2 * n + 4) "read_form" (spRForm K n)
  | 0 => (Cal.bot T.f_read_form bd_read_form (fun vs H Q E h => by obtain ⟨p, r, f, _, h, _⟩ := h; omega)).mono (by omega)
  | n + 1 => by
    have C_read_pair : Cal P w K mg base (2 * n + 5) "read_pair" (spRPair K n) := ok_rpair T (ok_rform T n)
    have C_read_word : Cal P w K mg base 4 "read_word" (spRWord K) := ok_rword T
    refine cal_mk T.f_read_form bd_read_form sc_read_form (fun vs H Q E h => ?_) (fun fa cdv A outer s H vs Q E hr h => ?_)
    · obtain ⟨p, r, f, rfl, _⟩ := h; rfl
    · obtain ⟨p, r, f, rfl, hdf, hok, hst, hlen, k⟩ := h
      refine ⟨_, (pss_cons (ps_set (i := 2) sc_read_form.nd rfl (Or.inl rfl) (pv 1))
      (pss_cons (ps_while PassesOwn.never (pt_cmpR op_in_seq (pe_slice sl_str (pv 0) (po_some (pv 2)) (po_some (pe_op op_add (pv 2) pe_int))) (pe_tup (pa_cons pe_str (pa_cons pe_str pa_nil))) (by rfl)) (pss_one (ps_aug (i := 2) sc_read_form.nd rfl (Or.inl rfl) pe_int ip_add)))
      (pss_cons (ps_set (i := 3) sc_read_form.nd rfl (Or.inl rfl) (pe_cut (pe_ifExp (pt_cmpR op_eq (pe_slice sl_str (pv 0) (po_some (pv 2)) (po_some (pe_op op_add (pv 2) pe_int))) pe_str (nomark _)) (pe_cl C_read_pair hr (by omega) rfl (pa_cons (pv 0) (pa_cons (pv 2) pa_nil))) (pe_cl C_read_word hr (by omega) rfl (pa_cons (pv 0) (pa_cons (pv 2) pa_nil))))))
      (pss_cons (ps_if (pt_cmpR op_isN (pv 3) pe_non (nomark _)) (pss_one (ps_ret pe_non)) pss_nil)
      (pss_cons (ps_asg (pv 3) (pg_tup rfl (pgs_cons (pg_name (i := 4) sc_read_form.nd rfl (Or.inl rfl)) (pgs_cons (pg_name (i := 5) sc_read_form.nd rfl (Or.inl rfl)) pgs_nil))))
      (pss_cons (ps_for PassesOwn.never rfl (pi_str (pe_revS (pe_slice sl_str (pv 0) (po_some (pv 1)) (po_some (pv 2))))) (pg_name (i := 6) sc_read_form.nd rfl (Or.inl rfl)) (pss_one (ps_set (i := 4) sc_read_form.nd rfl (Or.inl rfl) (pe_tup (pa_cons (pe_ifExp (pt_cmpR op_eq (pv 6) pe_str (nomark _)) pe_str pe_str) (pa_cons (pv 4) pa_nil))))))
      (pss_one (ps_ret (pe_tup (pa_cons (pv 4) (pa_cons (pv 5) pa_nil))))))))))), ?_⟩
      walk_at "zz"
      have e0 : p ++ (f.txt ++ r) = p ++ (f.us.map unC ++ (f.core.txt ++ r)) := by rw [f.txt_split, List.append_assoc]
      have hcok : f.core.ok = true := by rw [f.core_ok]; exact hok
      have hcd := f.core_dep
      have hhd : ∃ c l, f.core.txt = c :: l ∧ (c == 126 || c == 35) = false ∧ (c = 40 ↔ f.core.atom = false) := by
        rcases f.core_kind with ha | ⟨o, g, h, e⟩
        · obtain ⟨c, l, e, hc⟩ := Fm.head_atom ha hcok
          unfold letterB at hc
          rw [Bool.and_eq_true, decide_eq_true_eq, decide_eq_true_eq] at hc
          refine ⟨c, l, e, ?_, ?_⟩
          · simp; omega
          · rw [ha]
            constructor
            · intro z; omega
            · intro z; cases z
        · rw [e]
          exact ⟨40, _, rfl, by decide, by simp [Fm.atom]⟩
      obtain ⟨hc, hl, hhd1, hhd2, hhd3⟩ := hhd
      have hulen : (f.us.map unC).length = f.us.length := List.length_map ..
      rw [e0] at hlen ⊢
      have hL : (sT (p ++ (f.us.map unC ++ (f.core.txt ++ r)))).length ≤ sizeLine := by rw [sT_len]; exact line_le hlen
      refine z_while (fun m σ' H' => m ≤ f.us.length ∧ σ' = [some (.str (sT (p ++ (f.us.map unC ++ (f.core.txt ++ r))))), some (.int (p.length : Int)), some (.int ((p.length + (f.us.length - m) : Nat) : Int)), none, none, none, none] ∧ Same H H') f.us.length ⟨Nat.le_refl _, by rw [Nat.sub_self]; rfl, Same.refl _⟩ ?_
      rintro m σ' H1 ⟨h1, rfl, s1⟩
      walk_at "zz"
      refine ⟨_, rfl, hL, ?_⟩
      rw [cut_off]
      walk_at "zz"
      refine ⟨by decide, fun q hq => ?_⟩
      refine z_inT (SqT.of upd_same) rfl rfl ?_
      have s2 := s1.trans (Same.new (o := .tup [V.str "~", V.str "#"]) hq)
      generalize upd H1 q (.tup [V.str "~", V.str "#"]) = H2 at s2
      have hsg : inV (.str (sT (((f.us.map unC ++ (f.core.txt ++ r)).drop (f.us.length - m)).take 1))) [V.str "~", V.str "#"] = decide (m ≠ 0) := by
        by_cases hm : m = 0
        · subst hm
          rw [Nat.sub_zero, ← hulen, List.drop_left, hhd1]
          show inV (.str (sT [hc])) _ = _
          rw [sign_in, hhd2]; rfl
        · have hj : f.us.length - m < f.us.length := by omega
          rw [List.drop_append_of_le_length (by rw [hulen]; omega), List.drop_eq_getElem_cons (by rw [hulen]; exact hj)]
          show inV (.str (sT [_])) _ = _
          rw [sign_in, decide_eq_true hm, List.getElem_map]
          cases f.us[f.us.length - m] <;> rfl
      rw [hsg]
      walk_at "zz"
      refine z_dec (fun hm => ?_) (fun hm => ?_)
      · refine z_again ?_
        walk_at "zz"
        refine ⟨m - 1, by omega, by omega, ?_, s2⟩
        have e : ((p.length + (f.us.length - m) : Nat) : Int) + 1 = ((p.length + (f.us.length - (m - 1)) : Nat) : Int) := by omega
        rw [← e]; rfl
      · have e : m = 0 := by omega
        subst e
        rw [Nat.sub_zero]
        clear hsg
        walk_at "zz"
        have ep : p ++ (f.us.map unC ++ (f.core.txt ++ r)) = (p ++ f.us.map unC) ++ (f.core.txt ++ r) := by rw [List.append_assoc]
        have el : p.length + f.us.length = (p ++ f.us.map unC).length := by rw [List.length_append, hulen]
        have ed : ((f.us.map unC ++ (f.core.txt ++ r)).drop f.us.length).take 1 = [hc] := by
          rw [← hulen, List.drop_left, hhd1]; rfl
        refine z_mid (fun v H' => ∃ q, v = .ref q ∧ Found K H2 H' q f.core (p.length + f.us.length + f.core.txt.length)) ?_ ?_
        · walk_at "zz"
          refine ⟨_, rfl, hL, ?_⟩
          rw [cut_off, ed]
          walk_at "zz"
          rcases f.core_kind with ha | ⟨o, g, h, ec⟩
          · refine z_false (fun z => ?_) ?_
            · have z2 : sT [hc] = sT [40] := by rw [V.str.inj (of_decide_eq_true z)]; decide +kernel
              have z3 : hc = 40 := by have := SX.S_inj z2; simpa using this
              rw [hhd3.mp z3] at ha
              cases ha
            · walk_at "zz"
              rw [ep, el]
              rw [ep] at hlen
              exact ⟨_, r, f.core, rfl, ha, hcok, hst, hlen, fun q H' hF => ⟨q, rfl, hF⟩⟩
          · refine z_true ?_ ?_
            · have z3 : hc = 40 := hhd3.mpr (by rw [ec]; rfl)
              rw [z3]; decide +kernel
            · walk_at "zz"
              rw [ec] at hcok hcd hlen hL ep ⊢
              have hcok2 : (g.ok && h.ok) = true := hcok
              rw [Bool.and_eq_true] at hcok2
              have hcd2 : max g.dep h.dep + 1 ≤ f.dep := hcd
              rw [ep, el]
              rw [ep] at hlen
              exact ⟨_, r, o, g, h, rfl, by omega, by omega, hcok2.1, hcok2.2, hlen, fun q H' hF => ⟨q, rfl, hF⟩⟩
        · rintro v H3 ⟨q, rfl, s3, fv, hq3, hf3⟩
          walk_at "zz"
          refine ⟨rfl, ?_⟩
          walk_at "zz"
          refine z_false (by simp) ?_
          walk_at "zz"
          refine ⟨q, _, rfl, SqT.of hq3, rfl, ?_⟩
          refine ⟨_, _, rfl, ?_⟩
          refine ⟨_, _, rfl, rfl, ?_⟩
          walk_at "zz"
          have ecm := cut_mid p (f.us.map unC) (f.core.txt ++ r)
          rw [hulen] at ecm
          refine ⟨_, rfl, hL, ?_⟩
          rw [ecm]
          have hLu : (sT (f.us.map unC)).length ≤ sizeLine := by
            rw [sT_len]
            refine line_le (Nat.le_trans ?_ hlen)
            simp only [List.length_append]; omega
          refine ⟨_, rfl, hLu, sT (f.us.map unC).reverse, rfl, ?_⟩
          have hn : (sT (f.us.map unC).reverse).cps.size = f.us.length := by
            show (f.us.map unC).reverse.toArray.size = _
            rw [List.size_toArray, List.length_reverse, hulen]
          refine for_it walk_str (fun i σ' H' => Same H3 H' ∧ ∃ gv v6, σ' = [some (.str (sT (p ++ (f.us.map unC ++ (f.core.txt ++ r))))), some (.int (p.length : Int)), some (.int ((p.length + f.us.length : Nat) : Int)), some (.ref q), some gv, some (.int ((p.length + f.us.length + f.core.txt.length : Nat) : Int)), v6] ∧ FAt K H' gv ((f.us.reverse.take i).foldl (fun g b => .un b g) f.core)) ⟨Same.refl _, fv, none, rfl, hf3⟩ (fun _ _ _ _ _ => True.intro) ?_ ?_
          · rintro i x _ H4 H5 hi ⟨s4, gv, v6, rfl, hgv⟩ ⟨rfl, c, hc', rfl⟩
            have hb : ∃ b, f.us.reverse[i]? = some b ∧ c = unC b := by
              have h1 : ((f.us.map unC).reverse)[i]? = some c := by
                have h2 : (f.us.map unC).reverse.toArray[i]? = some c := hc'
                rw [List.getElem?_toArray] at h2
                exact h2
              rw [← List.map_reverse, List.getElem?_map] at h1
              cases e : f.us.reverse[i]? with
              | none => rw [e] at h1; cases h1
              | some b => rw [e] at h1; exact ⟨b, rfl, (Option.some.inj h1).symm⟩
            obtain ⟨b, hb1, rfl⟩ := hb
            obtain ⟨ga, gx, rfl, _⟩ := hgv.open
            walk_at "zz"
            cases b
            · refine z_true (by decide +kernel) ?_
              walk_at "zz"
              refine ⟨by show 2 ≤ sizeLine; decide, fun t ht => ?_⟩
              walk_at "zz"
              refine ⟨s4.trans (Same.new ht), .ref t, _, rfl, ?_⟩
              rw [List.take_succ, hb1, List.foldl_append]
              exact un_at2 (b := false) rfl hgv ht
            · refine z_false (by decide +kernel) ?_
              walk_at "zz"
              refine ⟨by show 2 ≤ sizeLine; decide, fun t ht => ?_⟩
              walk_at "zz"
              refine ⟨s4.trans (Same.new ht), .ref t, _, rfl, ?_⟩
              rw [List.take_succ, hb1, List.foldl_append]
              exact un_at2 (b := true) rfl hgv ht
          · rintro _ H4 ⟨s4, gv, v6, rfl, hgv⟩
            rw [hn, List.take_of_length_le (by rw [List.length_reverse]; exact Nat.le_refl _), f.fold_us] at hgv
            walk_at "zz"
            refine ⟨by show 2 ≤ sizeLine; decide, fun t ht => ?_⟩
            refine k t _ ⟨((s2.trans s3).trans s4).trans (Same.new ht), gv, ?_, At.mono (TS.of (Same.new ht)) hgv⟩
            rw [upd_same]
            have e : p.length + f.us.length + f.core.txt.length = p.length + f.txt.length := by
              rw [f.txt_split, List.length_append, hulen]; omega
            rw [e]
end
section
variable {P : Program} {w : World} {K : PySem.W.Frag} {mg : Str → Option Value} {base : Heap}
/-- what wrong_path tells -/
def WPost (H : Hp) (o : Option (List Int)) (r : V) : Prop := match o with
  | none => r = .non
  | some qs => ∃ p, r = .ref p ∧ H p = some (.tup (qs.map V.int))
theorem WPost.same {H H' : Hp} {o : Option (List Int)} {r : V} (s : Same H H') (h : WPost H o r) : WPost H' o r := by
  cases o with
  | none => exact h
  | some qs =>
    obtain ⟨p, e, h⟩ := h
    exact ⟨p, e, s _ _ h⟩
def spWrong (K : PySem.W.Frag) (n : Nat) : Sp := fun vs H Q _ => ∃ (v : V) (d : PyData) (q : Addr) (ps : List Int), vs = [v, .ref q] ∧ Dp K H v d ∧ shortA d ∧ H q = some (.tup (ps.map V.int)) ∧ PyData.depth d < n ∧ ps.length + PyData.depth d ≤ 1000 ∧ ∀ r H', Same H H' → WPost H' (wrongP d ps) r → Q r H'
theorem kit_no {K : PySem.W.Frag} {a : String} (h1 : kitB a "list" = some false) (h2 : kitB a "tuple" = some false) : PySem.W.kitAny K (.type a) [.type "list", .type "tuple"] = some false :=
  kitAny_cons (b := false) (kit_ty h1) (fun _ => kitAny_cons (b := false) (kit_ty h2) (fun _ => rfl) (fun e => by cases e)) (fun e => by cases e)
theorem kit_seq {K : PySem.W.Frag} {H : Hp} {v : V} {d : PyData} (h : Dp K H v d) : ∃ t, TyX K H v t ∧ PySem.W.kitAny K t [.type "list", .type "tuple"] = some (seqOf d).isSome := by
  cases h with
  | non => exact ⟨_, .base .non, kit_no (by decide +kernel) (by decide +kernel)⟩
  | bl b => exact ⟨_, .base (.bl b), kit_no (by decide +kernel) (by decide +kernel)⟩
  | int i => exact ⟨_, .base (.int i), kit_no (by decide +kernel) (by decide +kernel)⟩
  | str z => exact ⟨_, .base (.str z), kit_no (by decide +kernel) (by decide +kernel)⟩
  | lst h1 h2 => exact ⟨_, ty_sqL h1, kitAny_cons (b := true) (kit_ty (by decide +kernel)) (fun e => by cases e) (fun _ => rfl)⟩
  | tup h1 h2 => exact ⟨_, ty_sqT h1, kitAny_cons (b := false) (kit_ty (by decide +kernel)) (fun _ => kitAny_cons (b := true) (kit_ty (by decide +kernel)) (fun e => by cases e) (fun _ => rfl)) (fun e => by cases e)⟩
theorem sizes_mem {z : Str} {v : V} (h : sizes.lookup z = some v) : (z, v) ∈ sizes := PySem.mem_of_lookup h
theorem sizes_int {z : Str} {v : V} (h : sizes.lookup z = some v) : ∃ n : Int, v = .int n := by
  have m := sizes_mem h
  simp only [sizes, List.mem_cons, Prod.mk.injEq, List.not_mem_nil, or_false] at m
  rcases m with ⟨_, e⟩ | ⟨_, e⟩ | ⟨_, e⟩ | ⟨_, e⟩ | ⟨_, e⟩ | ⟨_, e⟩ | ⟨_, e⟩ | ⟨_, e⟩ | ⟨_, e⟩ <;> exact ⟨_, e⟩
theorem sizes_le {z : Str} {n : Int} {m : Nat} (h : sizes.lookup z = some (V.int n)) (e : n = (m : Int)) : m ≤ 2 := by
  have q := sizes_mem h
  simp only [sizes, List.mem_cons, Prod.mk.injEq, List.not_mem_nil, or_false, V.int.injEq] at q
  rcases q with ⟨_, e⟩ | ⟨_, e⟩ | ⟨_, e⟩ | ⟨_, e⟩ | ⟨_, e⟩ | ⟨_, e⟩ | ⟨_, e⟩ | ⟨_, e⟩ | ⟨_, e⟩ <;> omega
theorem path_more {H : Hp} {Q : VK} {σ : L2.St} {q : Addr} {ps : List Int} {i : Int} (hq : H q = some (.tup (ps.map V.int))) (hl : ps.length ≤ 100000)
    (k : ∀ p H', Same H H' → H' p = some (.tup ((ps ++ [i]).map V.int)) → Q (.ref p) H') (h1 : σ[1]? = some (some (.ref q)) := by rfl) (h3 : σ[3]? = some (some (.int i)) := by rfl) : tMid (tOp (rCatA K) (tVar 1) (tTup (tCons (tVar 3) tNil))) σ H Q := by
  refine z_mid Q ?_ (fun _ _ h => h)
  refine ⟨_, h1, _, h3, by show 1 ≤ sizeLine; decide, fun t ht => ?_⟩
  have hq' := Same.new (o := .tup [V.int i]) ht _ _ hq
  refine ⟨q, t, _, _, rfl, rfl, SqT.of hq', SqT.of upd_same, ?_, fun e => ?_, fun _ e => ?_, fun _ _ p hp => ?_⟩
  · rw [List.length_map]; show ps.length + 1 ≤ sizeLine; exact Nat.le_trans (Nat.succ_le_succ hl) (by decide)
  · have : ps = [] := List.map_eq_nil_iff.mp e
    subst this
    exact k t _ (Same.new ht) upd_same
  · cases e
  · refine k p _ ((Same.new ht).trans (Same.new hp)) ?_
    rw [upd_same, List.map_append]; rfl
theorem ok_wrong (T : Txt w K mg) : ∀ n : Nat, Cal P w K mg base (n + 4) "wrong_path" (spWrong K n)
  | 0 => (Cal.bot T.f_wrong_path bd_wrong_path (fun vs H Q E h => by obtain ⟨v, d, q, ps, _, _, _, _, h, _⟩ := h; omega)).mono (by omega)
  | n + 1 => by
    have C_is_name : Cal P w K mg base 2 "is_name" (spName K) := ok_name T
    have C_is_role : Cal P w K mg base 3 "is_role" (spRole K) := ok_role T
    have C_wrong_path : Cal P w K mg base (n + 4) "wrong_path" (spWrong K n) := ok_wrong T n
    refine cal_mk T.f_wrong_path bd_wrong_path sc_wrong_path (fun vs H Q E h => ?_) (fun f cdv A outer s H vs Q E hr h => ?_)
    · obtain ⟨v, d, q, ps, rfl, _⟩ := h; rfl
    · obtain ⟨v, d, q, ps, rfl, hd, hsh, hq, hdep, hps, k⟩ := h
      refine ⟨_, (pss_cons (ps_if (PW.pt (pw_or (pt_not (pt_val (pe_callB call_isiT (by rfl) T.n_isinstance (by decide +kernel) (pa_cons (pv 0) (pa_cons (pe_tup (pa_cons (pe_bltn (v := .ty "list") (by rfl) T.n_list (by decide +kernel) rfl) (pa_cons (pe_bltn (v := .ty "tuple") (by rfl) T.n_tuple (by decide +kernel) rfl) pa_nil))) pa_nil))))) (pw_or1 (pt_cmpR op_eq (pe_callB call_len (by rfl) T.n_len (by decide +kernel) (pa_cons (pv 0) pa_nil)) pe_int (nomark _))))) (pss_one (ps_ret (pv 1))) pss_nil)
      (pss_cons (ps_set (i := 2) sc_wrong_path.nd rfl (Or.inl rfl) (pe_ix ix_seq (pv 0) pe_int (fun _ _ => rfl)))
      (pss_cons (ps_if (PW.pt (pw_or (pt_not (pt_val (pe_callB call_isi (by rfl) T.n_isinstance (by decide +kernel) (pa_cons (pv 2) (pa_cons (pe_bltn (v := .ty "str") (by rfl) T.n_str (by decide +kernel) rfl) pa_nil))))) (pw_or (pt_cmpR (op_notIn_tab T.d_SIZES.2) (pv 2) (pe_gr rfl T.d_SIZES.1) (by rfl)) (pw_or1 (pt_cmpR op_ne (pe_callB call_len (by rfl) T.n_len (by decide +kernel) (pa_cons (pv 0) pa_nil)) (pe_op op_add (pe_ix (ix_tab T.d_SIZES.2) (pe_gr rfl T.d_SIZES.1) (pv 2) (fun _ _ => rfl)) pe_int) (nomark _)))))) (pss_one (ps_ret (pv 1))) pss_nil)
      (pss_cons (ps_for PassesOwn.never rfl (pi_range2 (by rfl) T.n_range (pa_cons pe_int (pa_cons (pe_callB call_len (by rfl) T.n_len (by decide +kernel) (pa_cons (pv 0) pa_nil)) pa_nil))) (pg_name (i := 3) sc_wrong_path.nd rfl (Or.inl rfl)) (pss_mid (ps_if (pt_cmpR op_in_seq (pv 2) (pe_tup (pa_cons pe_str (pa_cons pe_str pa_nil))) (by rfl)) (pss_cons (ps_set (i := 4) sc_wrong_path.nd rfl (Or.inl rfl) (pe_cut (pe_ifExp (pt_cmpR op_eq (pv 2) pe_str (nomark _)) (pe_cl C_is_name hr (by omega) rfl (pa_cons (pe_ix ix_seq (pv 0) (pv 3) (fun _ _ => rfl)) pa_nil)) (pe_cl C_is_role hr (by omega) rfl (pa_cons (pe_ix ix_seq (pv 0) (pv 3) (fun _ _ => rfl)) pa_nil)))))
      (pss_one (ps_set (i := 5) sc_wrong_path.nd rfl (Or.inl rfl) (pe_cut (pe_ifExp (pt_val (pv 4)) pe_non (pe_cut (pe_op op_catA (pv 1) (pe_tup (pa_cons (pv 3) pa_nil))))))))) (pss_one (ps_set (i := 5) sc_wrong_path.nd rfl (Or.inl rfl) (pe_cl C_wrong_path hr (by omega) rfl (pa_cons (pe_ix ix_seq (pv 0) (pv 3) (fun _ _ => rfl)) (pa_cons (pe_cut (pe_op op_catA (pv 1) (pe_tup (pa_cons (pv 3) pa_nil)))) pa_nil))))))
      (pss_one (ps_if (pt_cmpR op_notN (pv 5) pe_non (nomark _)) (pss_one (ps_ret (pv 5))) pss_nil))))
      (pss_one (ps_ret pe_non)))))), ?_⟩
      walk_at "zz"
      refine ⟨by show 2 ≤ sizeLine; decide, fun tp htp => ?_⟩
      walk_at "zz"
      obtain ⟨ty, hty, hkit⟩ := kit_seq (Dp.same (Same.new (o := .tup [V.ty "list", V.ty "tuple"]) htp) hd)
      refine ⟨v, tp, [V.ty "list", V.ty "tuple"], ty, [.type "list", .type "tuple"], _, rfl, upd_same, .cons (.ty _) (.cons (.ty _) .nil), hty, hkit, ?_⟩
      have s1 : Same H (upd H tp (.tup [V.ty "list", V.ty "tuple"])) := Same.new htp
      generalize upd H tp (.tup [V.ty "list", V.ty "tuple"]) = H1 at s1 hty
      have hd1 := Dp.same s1 hd
      have hq1 := s1 _ _ hq
      clear hty hkit
      walk_at "zz"
      rcases dp_seq hd1 with ⟨a, xs, ds, rfl, eds, hx, hall⟩ | hno
      · rw [eds, Option.isSome_some]
        walk_at "zz"
        have hlen := DpAll.len hall
        have hbad : wrongP d ps = some ps → WPost H1 (wrongP d ps) (.ref q) := fun e => by rw [e]; exact ⟨q, rfl, hq1⟩
        rw [wrongP_seq eds] at hbad
        refine ⟨_, _, rfl, hx.len, ?_⟩
        walk_at "zz"
        refine z_dec (fun h0 => ?_) (fun h0 => ?_)
        · walk_at "zz"
          refine k _ _ s1 ?_
          rw [wrongP_seq eds]
          have : ds = [] := List.eq_nil_of_length_eq_zero (by have := V.int.inj h0; omega)
          subst this
          exact hbad (by rw [wrongS])
        · cases hall with
          | nil => exact absurd rfl h0
          | @cons v0 vrest k0 rest hv0 hrest =>
            have hsh1 := shortA_seq eds hsh
            simp only [shortAll] at hsh1
            walk_at "zz"
            refine hx.ix (atI_nat (j := 0) rfl) ?_
            walk_at "zz"
            have notstr : kindD k0 = none → WPost H1 (wrongP d ps) (.ref q) := fun e => by rw [wrongP_seq eds]; exact hbad (wrongS_not e rest ps)
            cases hv0 with
            | non =>
              refine ⟨_, _, _, _, false, rfl, ClsV.ty _, .base .non, kit_ty (by decide +kernel), ?_⟩
              walk_at "zz"
              exact k _ _ s1 (notstr rfl)
            | bl b =>
              refine ⟨_, _, _, _, false, rfl, ClsV.ty _, .base (.bl b), kit_ty (by decide +kernel), ?_⟩
              walk_at "zz"
              exact k _ _ s1 (notstr rfl)
            | int i =>
              refine ⟨_, _, _, _, false, rfl, ClsV.ty _, .base (.int i), kit_ty (by decide +kernel), ?_⟩
              walk_at "zz"
              exact k _ _ s1 (notstr rfl)
            | lst h1 h2 =>
              refine ⟨_, _, _, _, false, rfl, ClsV.ty _, ty_sqL h1, kit_ty (by decide +kernel), ?_⟩
              walk_at "zz"
              exact k _ _ s1 (notstr rfl)
            | tup h1 h2 =>
              refine ⟨_, _, _, _, false, rfl, ClsV.ty _, ty_sqT h1, kit_ty (by decide +kernel), ?_⟩
              walk_at "zz"
              exact k _ _ s1 (notstr rfl)
            | str z =>
              clear notstr
              refine ⟨_, _, _, _, true, rfl, ClsV.ty _, .base (.str z), kit_ty (by decide +kernel), ?_⟩
              walk_at "zz"
              refine ⟨z, rfl, rfl, ?_⟩
              walk_at "zz"
              have bad : sizes.lookup z ≠ some (V.int ((rest.length : Nat) : Int)) → WPost H1 (wrongP d ps) (.ref q) := fun e => by
                rw [wrongP_seq eds]
                exact hbad (by rw [wrongS_str, if_neg e])
              cases hlook : sizes.lookup z with
              | none =>
                have hl2 : (List.lookup z ([("yes", V.int 0), ("no", V.int 0), ("letter", V.int 1), ("act", V.int 2), ("not", V.int 1), ("and", V.int 2), ("or", V.int 2), ("if", V.int 2), ("box", V.int 1)] : List (Str × V))) = none := hlook
                rw [hl2]
                show if (!false) = true then _ else _
                walk_at "zz"
                exact k _ _ s1 (bad (by rw [hlook]; intro e; cases e))
              | some v1 =>
                have hl2 : (List.lookup z ([("yes", V.int 0), ("no", V.int 0), ("letter", V.int 1), ("act", V.int 2), ("not", V.int 1), ("and", V.int 2), ("or", V.int 2), ("if", V.int 2), ("box", V.int 1)] : List (Str × V))) = some v1 := hlook
                obtain ⟨nz, rfl⟩ : ∃ n : Int, v1 = .int n := sizes_int hlook
                rw [hl2]
                show if (!true) = true then _ else _
                walk_at "zz"
                refine ⟨_, _, rfl, hx.len, ?_⟩
                walk_at "zz"
                refine ⟨z, _, rfl, rfl, hl2, ?_⟩
                walk_at "zz"
                have hln : ((V.str z :: vrest).length : Int) = (rest.length : Int) + 1 := by rw [List.length_cons, DpAll.len hrest]; omega
                rw [hln]
                refine z_ndec (fun hb => ?_) (fun hb => ?_)
                · walk_at "zz"
                  exact k _ _ s1 (bad (by rw [hlook]; intro e; exact hb (by rw [V.int.inj (Option.some.inj e)])))
                · have hnz : nz = (rest.length : Int) := by have := V.int.inj hb; omega
                  have hgood : wrongP d ps = wrongG z rest 1 ps := by rw [wrongP_seq eds, wrongS_str, if_pos (by rw [hlook, hnz])]
                  walk_at "zz"
                  refine ⟨_, _, rfl, hx.len, ?_⟩
                  rw [hln]
                  walk_at "zz"
                  have hrl : rest.length ≤ 2 := sizes_le hlook hnz
                  refine ⟨_, _, rfl, ⟨by omega, by omega, by omega, by omega⟩, ?_⟩
                  have hn2 : ((rest.length : Int) + 1 - 1).toNat = rest.length := by omega
                  rw [hn2]
                  refine for_range (lo := 1) (n := rest.length) (fun i σ' H' => Same H1 H' ∧ (∃ v3 v4 v5 : Option V, σ' = [some (.ref a), some (.ref q), some (.str z), v3, v4, v5]) ∧ wrongP d ps = wrongG z (rest.drop i) (1 + (i : Int)) ps) ⟨Same.refl _, ⟨_, _, _, rfl⟩, by rw [hgood]; rfl⟩ ?_ ?_
                  · rintro i _ H2 hi ⟨s2, ⟨v3, v4, v5, rfl⟩, hw⟩
                    obtain ⟨di, hdi⟩ : ∃ x, rest[i]? = some x := ⟨rest[i], List.getElem?_eq_getElem hi⟩
                    obtain ⟨vi, hvi⟩ : ∃ x, vrest[i]? = some x := ⟨vrest[i]'(by rw [DpAll.len hrest]; exact hi), List.getElem?_eq_getElem (by rw [DpAll.len hrest]; exact hi)⟩
                    obtain ⟨di', hdi', hvd⟩ := DpAll.get hrest i vi hvi
                    rw [hdi] at hdi'
                    cases hdi'
                    have hshi : shortA di := shortAll_get hsh1.2 i di hdi
                    have hxi : atI (V.str z :: vrest) (1 + (i : Int)) = some vi := at_of (j := i + 1) (by omega) hvi
                    have hx2 : SqX K H2 a (V.str z :: vrest) := SqX.same s2 hx
                    have hvd2 : Dp K H2 vi di := Dp.same s2 hvd
                    have hq2 := s2 _ _ hq1
                    have hdi2 : PyData.depth di < n ∧ ps.length + 1 + PyData.depth di ≤ 1000 := by
                      have e1 := depth_seq eds
                      have e2 := depth_get i di hdi
                      have e3 : PyData.depthAll (PyData.str z :: rest) = max 0 (PyData.depthAll rest) := rfl
                      omega
                    walk_at "zz"
                    refine z_midS (fun σ' H' => Same H2 H' ∧ ∃ (v4 : Option V) (r : V), σ' = [some (.ref a), some (.ref q), some (.str z), some (.int (1 + (i : Int))), v4, some r] ∧ WPost H' (wrong1 z di (1 + (i : Int)) ps) r) ?_ ?_
                    · walk_at "zz"
                      refine ⟨by show 2 ≤ sizeLine; decide, fun tp2 htp2 => ?_⟩
                      refine z_inT (SqT.of upd_same) rfl rfl ?_
                      have s3 : Same H2 (upd H2 tp2 (.tup [V.str "letter", V.str "act"])) := Same.new htp2
                      generalize upd H2 tp2 (.tup [V.str "letter", V.str "act"]) = H3 at s3
                      walk_at "zz"
                      have einV : inV (.str z) [V.str "letter", V.str "act"] = (([("letter" : Str), "act"]).any fun y => y == z) := in_strs z ["letter", "act"]
                      refine z_bool (fun hb => ?_) (fun hb => ?_)
                      · walk_at "zz"
                        refine z_mid (fun v' H' => v' = .bl (if z = "letter" then nameD di else roleD di) ∧ Same H3 H') ?_ ?_
                        · walk_at "zz"
                          refine z_dec (fun hl => ?_) (fun hl => ?_)
                          · walk_at "zz"
                            refine (SqX.same s3 hx2).ix hxi ?_
                            walk_at "zz"
                            refine ⟨vi, di, rfl, Dp.same s3 hvd2, hshi.top, fun H4 s4 => ⟨?_, s4⟩⟩
                            rw [if_pos (V.str.inj hl)]
                          · walk_at "zz"
                            refine (SqX.same s3 hx2).ix hxi ?_
                            walk_at "zz"
                            refine ⟨vi, di, rfl, Dp.same s3 hvd2, hshi.top, fun H4 s4 => ⟨?_, s4⟩⟩
                            rw [if_neg (fun e => hl (by rw [e]))]
                        · rintro _ H4 ⟨rfl, s4⟩
                          walk_at "zz"
                          have hla : z = "letter" ∨ z = "act" := by
                            rw [einV] at hb
                            simp only [List.any_cons, List.any_nil, Bool.or_false, Bool.or_eq_true, beq_iff_eq] at hb
                            exact hb.imp Eq.symm Eq.symm
                          have e1 : wrong1 z di (1 + (i : Int)) ps = if (if z = "letter" then nameD di else roleD di) = true then none else some (ps ++ [1 + (i : Int)]) := by
                            unfold wrong1
                            by_cases h1 : z = "letter"
                            · rw [if_pos h1, if_pos h1]
                            · rw [if_neg h1, if_neg h1, if_pos (hla.resolve_left h1)]
                          refine z_mid (fun v' H' => WPost H' (wrong1 z di (1 + (i : Int)) ps) v' ∧ Same H4 H') ?_ ?_
                          · walk_at "zz"
                            refine z_bool (fun hg => ?_) (fun hg => ?_)
                            · walk_at "zz"
                              refine ⟨?_, Same.refl _⟩
                              rw [e1, if_pos hg]
                              exact rfl
                            · refine path_more (s4 _ _ (s3 _ _ hq2)) (by omega) fun p H5 s5 hp5 => ⟨?_, s5⟩
                              rw [e1, hg, if_neg Bool.false_ne_true]
                              exact ⟨p, rfl, hp5⟩
                          · rintro r H5 ⟨hr5, s5⟩
                            walk_at "zz"
                            exact ⟨((s3.trans s4).trans s5), _, r, rfl, hr5⟩
                      · walk_at "zz"
                        refine (SqX.same s3 hx2).ix hxi ?_
                        walk_at "zz"
                        refine path_more (s3 _ _ hq2) (by omega) fun p H4 s4 hp4 => ?_
                        walk_at "zz"
                        refine ⟨vi, di, p, ps ++ [1 + (i : Int)], rfl, Dp.same s4 (Dp.same s3 hvd2), hshi, hp4, by omega, by rw [List.length_append]; show ps.length + 1 + _ ≤ _; omega, fun r H5 s5 hr5 => ?_⟩
                        walk_at "zz"
                        refine ⟨(s3.trans s4).trans s5, _, r, rfl, ?_⟩
                        have hla : ¬ z = "letter" ∧ ¬ z = "act" := by
                          rw [einV] at hb
                          simp only [List.any_cons, List.any_nil, Bool.or_false, Bool.or_eq_false_iff, beq_eq_false_iff_ne] at hb
                          exact ⟨fun e => hb.1 e.symm, fun e => hb.2 e.symm⟩
                        unfold wrong1
                        rw [if_neg hla.1, if_neg hla.2]
                        exact hr5
                    · rintro _ H3 ⟨s3, v4', r, rfl, hr3⟩
                      have hstep : wrongP d ps = match wrong1 z di (1 + (i : Int)) ps with
                          | some q => some q
                          | none => wrongG z (rest.drop (i + 1)) (1 + (i : Int) + 1) ps := by
                        have e1 : rest.drop i = di :: rest.drop (i + 1) := by
                          rw [List.drop_eq_getElem_cons hi]
                          congr 1
                          rw [List.getElem?_eq_getElem hi] at hdi
                          exact Option.some.inj hdi
                        rw [hw, e1, wrongG_cons]
                        all_goals (cases wrong1 z di (1 + (i : Int)) ps <;> rfl)
                      walk_at "zz"
                      refine ⟨rfl, ?_⟩
                      walk_at "zz"
                      cases hw1 : wrong1 z di (1 + (i : Int)) ps with
                      | none =>
                        rw [hw1] at hstep hr3
                        have hr3 : r = .non := hr3
                        subst hr3
                        refine z_ndec (fun e => absurd rfl e) (fun _ => ?_)
                        walk_at "zz"
                        refine ⟨s2.trans s3, ⟨_, _, _, rfl⟩, ?_⟩
                        rw [hstep, show (1 : Int) + ((i + 1 : Nat) : Int) = 1 + (i : Int) + 1 by omega]
                      | some qs =>
                        rw [hw1] at hstep hr3
                        obtain ⟨p, rfl, hp⟩ := id hr3
                        refine z_ndec (fun _ => ?_) (fun e => by cases e)
                        walk_at "zz"
                        refine k _ _ ((s1.trans s2).trans s3) ?_
                        rw [hstep]
                        exact hr3
                  · rintro _ H2 ⟨s2, ⟨v3, v4, v5, rfl⟩, hw⟩
                    walk_at "zz"
                    refine k _ _ (s1.trans s2) ?_
                    rw [hw, List.drop_length, wrongG_nil]
                    exact rfl
      · rw [hno, Option.isSome_none]
        walk_at "zz"
        refine k _ _ s1 ?_
        rw [wrongP_not hno]
        exact ⟨q, rfl, hq1⟩
end
section
variable {P : Program} {w : World} {K : PySem.W.Frag} {mg : Str → Option Value} {base : Heap}
theorem Lo.items {d : PyData} {f : Fm} (h : Lo d f) : ∃ ds, seqOf d = some ds ∧ ds.length = f.items.length ∧ ∀ (i : Nat) (e : PyData), ds[i]? = some e → ∃ t, f.items[i]? = some t ∧ ((∃ s, e = .str s ∧ t = .str s) ∨ ∃ g, Lo e g ∧ t = g.d ∧ g.dep < f.dep) := by
  cases h with
  | yes h => exact ⟨_, h, rfl, fun i e q => match i, q with | 0, q => ⟨_, rfl, .inl ⟨_, (Option.some.inj q).symm, rfl⟩⟩ | i + 1, q => by simp at q⟩
  | no h => exact ⟨_, h, rfl, fun i e q => match i, q with | 0, q => ⟨_, rfl, .inl ⟨_, (Option.some.inj q).symm, rfl⟩⟩ | i + 1, q => by simp at q⟩
  | letter h => exact ⟨_, h, rfl, fun i e q => match i, q with | 0, q => ⟨_, rfl, .inl ⟨_, (Option.some.inj q).symm, rfl⟩⟩ | 1, q => ⟨_, rfl, .inl ⟨_, (Option.some.inj q).symm, rfl⟩⟩ | i + 2, q => by simp at q⟩
  | act h => exact ⟨_, h, rfl, fun i e q => match i, q with | 0, q => ⟨_, rfl, .inl ⟨_, (Option.some.inj q).symm, rfl⟩⟩ | 1, q => ⟨_, rfl, .inl ⟨_, (Option.some.inj q).symm, rfl⟩⟩ | 2, q => ⟨_, rfl, .inl ⟨_, (Option.some.inj q).symm, rfl⟩⟩ | i + 3, q => by simp at q⟩
  | @un _ e' b g h k =>
    refine ⟨_, h, rfl, fun i e q => match i, q with | 0, q => ⟨_, rfl, .inl ⟨_, (Option.some.inj q).symm, rfl⟩⟩ | 1, q => ⟨_, rfl, .inr ⟨g, ?_, rfl, Nat.lt_succ_self _⟩⟩ | i + 2, q => by simp at q⟩
    rw [← Option.some.inj q]; exact k
  | @bi _ e1 e2 k g g' h h1 h2 =>
    refine ⟨_, h, rfl, fun i e q => match i, q with | 0, q => ⟨_, rfl, .inl ⟨_, (Option.some.inj q).symm, rfl⟩⟩ | 1, q => ⟨_, rfl, .inr ⟨g, ?_, rfl, ?_⟩⟩ | 2, q => ⟨_, rfl, .inr ⟨g', ?_, rfl, ?_⟩⟩ | i + 3, q => by simp at q⟩
    · rw [← Option.some.inj q]; exact h1
    · show g.dep < max g.dep g'.dep + 1; omega
    · rw [← Option.some.inj q]; exact h2
    · show g'.dep < max g.dep g'.dep + 1; omega
theorem Fm.items_le (f : Fm) : f.items.length ≤ 3 := by cases f <;> simp [Fm.items]
theorem take_snoc {α : Type} {xs : List α} {i : Nat} {x : α} (h : xs[i]? = some x) : xs.take (i + 1) = xs.take i ++ [x] := by rw [List.take_succ, h]; rfl
def spTuples (K : PySem.W.Frag) (n : Nat) : Sp := fun vs H Q _ => ∃ (v : V) (d : PyData) (f : Fm), vs = [v] ∧ Dp K H v d ∧ Lo d f ∧ f.dep < n ∧ ∀ p H', Same H H' → FAt K H' (.ref p) f → Q (.ref p) H'
theorem ok_tuples (T : Txt w K mg) : ∀ n : Nat, Cal P w K mg base n "tuples" (spTuples K n)
  | 0 => Cal.bot T.f_tuples bd_tuples (fun vs H Q E h => by obtain ⟨v, d, f, _, _, _, h, _⟩ := h; omega)
  | n + 1 => by
    have C_tuples : Cal P w K mg base n "tuples" (spTuples K n) := ok_tuples T n
    refine cal_mk T.f_tuples bd_tuples sc_tuples (fun vs H Q E h => ?_) (fun fa cdv A outer s H vs Q E hr h => ?_)
    · obtain ⟨v, d, f, rfl, _⟩ := h; rfl
    · obtain ⟨v, d, f, rfl, hd, hlo, hdep, k⟩ := h
      refine ⟨_, (pss_one (ps_ret (pe_callTy call_tuple_of (by rfl) T.n_tuple (by decide +kernel) (pa_cons (pe_lc (own := [("part", 1)]) (by rfl) sc_tuples.nd (pi_or (pi_list (pv 0)) (pi_tup (pv 0))) (blkOk_by (N := ["form", "part"]) (sc := defScope s_tuples) (by decide +kernel)) (fun _ _ _ _ _ => (pg_name (i := 1) sc_tuples.nd rfl (Or.inl rfl))) (fun _ _ _ _ _ => pts_nil) (fun _ _ _ _ _ => (pe_ifExp (pt_val (pe_callB (show CallR _ _ (rIsi K) from call_isi) (by rfl) T.n_isinstance (by decide +kernel) (pa_cons (pv 1) (pa_cons (pe_bltn (v := .ty "str") (by rfl) T.n_str (by decide +kernel) rfl) pa_nil)))) (pv 1) (pe_cl C_tuples hr (by omega) rfl (pa_cons (pv 1) pa_nil))))) pa_nil)))), ?_⟩
      obtain ⟨ds, eds, hlen, hit⟩ := hlo.items
      rcases dp_seq hd with ⟨a, xs, ds', rfl, eds', hx, hall⟩ | hno
      · rw [eds] at eds'
        cases eds'
        have hxl : xs.length = f.items.length := by rw [DpAll.len hall, hlen]
        walk_at "zz"
        refine iX hx rfl fun J G hG hW D hD => ?_
        refine lc_it hW (fun i H' => Same H H' ∧ ∃ vs, H' D = some (.lst vs) ∧ AtAll K H' vs (f.items.take i)) ⟨Same.new hD, [], upd_same, .nil⟩ (fun i H' _ p => hG H' p.1) ?_ ?_
        · rintro i x _ H1 hi ⟨s1, vs, hD1, hat⟩ ⟨rfl, hxi⟩
          obtain ⟨e, hei, hve⟩ := DpAll.get hall i x hxi
          obtain ⟨t, hti, hor⟩ := hit i e hei
          have h3 := f.items_le
          have hvl : vs.length < sizeLine := by
            rw [AtAll.len hat, List.length_take]
            exact Nat.lt_of_le_of_lt (m := 3) (by omega) (by decide)
          walk_at "zz"
          refine ⟨rfl, ?_⟩
          walk_at "zz"
          rcases hor with ⟨z, rfl, rfl⟩ | ⟨g, hlg, rfl, hgd⟩
          · cases hve
            refine ⟨_, _, _, _, true, rfl, ClsV.ty _, .base (.str z), kit_ty (by decide +kernel), ?_⟩
            walk_at "zz"
            refine ⟨vs, hD1, hvl, Same.upd s1 hD, _, upd_same, ?_⟩
            rw [take_snoc hti]
            exact AtAll.app (AtAll.mono (fun b ys q => by rw [upd_ne (fun z => by rw [z, hD1] at q; cases q)]; exact q) hat) (.cons (.str z) .nil)
          · obtain ⟨es, ees, _⟩ := hlg.items
            have hse : seqOf e = some es := ees
            have hve1 := Dp.same s1 hve
            have hty : ∃ t, TyX K H1 x (.type t) ∧ kitB t "str" = some false := by
              cases hve1 with
              | lst q1 q2 => exact ⟨_, ty_sqL q1, by decide +kernel⟩
              | tup q1 q2 => exact ⟨_, ty_sqT q1, by decide +kernel⟩
              | _ => cases hse
            obtain ⟨ty, hty, hk⟩ := hty
            refine ⟨_, _, _, _, false, rfl, ClsV.ty _, hty, kit_ty hk, ?_⟩
            walk_at "zz"
            refine ⟨x, e, g, rfl, hve1, hlg, by omega, fun p H2 s2 hp => ?_⟩
            have hD2 := s2 _ _ hD1
            refine ⟨vs, hD2, hvl, Same.upd (s1.trans s2) hD, _, upd_same, ?_⟩
            have ts : TS H2 (upd H2 D (.lst (vs ++ [.ref p]))) := fun b ys q => by rw [upd_ne (fun z => by rw [z, hD2] at q; cases q)]; exact q
            rw [take_snoc hti]
            exact AtAll.app (AtAll.mono (TS.trans (TS.of s2) ts) hat) (.cons (At.mono ts hp) .nil)
        · rintro H1 ⟨s1, vs, hD1, hat⟩
          walk_at "zz"
          refine ⟨D, vs, rfl, .inl ⟨SqL.of hD1, fun l hl => ?_⟩⟩
          walk_at "zz"
          refine k l _ (s1.trans (Same.new hl)) ?_
          show At K _ (.ref l) f.d
          rw [f.d_eq]
          rw [hxl, List.take_length] at hat
          exact .tup (Tp.of upd_same) (AtAll.mono (TS.of (Same.new hl)) hat)
      · rw [eds] at hno; cases hno
end
section
variable {P : Program} {w : World} {K : PySem.W.Frag} {mg : Str → Option Value} {base : Heap}
theorem kind_leaf (f : Fm) : inV (.str f.kind) [V.str "yes", V.str "no", V.str "letter", V.str "act"] = f.inner.isEmpty := by
  have l1 : inV (.str "box") [V.str "yes", V.str "no", V.str "letter", V.str "act"] = false := by decide +kernel
  have l2 : inV (.str "not") [V.str "yes", V.str "no", V.str "letter", V.str "act"] = false := by decide +kernel
  have l3 : inV (.str "and") [V.str "yes", V.str "no", V.str "letter", V.str "act"] = false := by decide +kernel
  have l4 : inV (.str "or") [V.str "yes", V.str "no", V.str "letter", V.str "act"] = false := by decide +kernel
  have l5 : inV (.str "if") [V.str "yes", V.str "no", V.str "letter", V.str "act"] = false := by decide +kernel
  have l6 : inV (.str "yes") [V.str "yes", V.str "no", V.str "letter", V.str "act"] = true := by decide +kernel
  have l7 : inV (.str "no") [V.str "yes", V.str "no", V.str "letter", V.str "act"] = true := by decide +kernel
  have l8 : inV (.str "letter") [V.str "yes", V.str "no", V.str "letter", V.str "act"] = true := by decide +kernel
  have l9 : inV (.str "act") [V.str "yes", V.str "no", V.str "letter", V.str "act"] = true := by decide +kernel
  cases f with
  | un b f => cases b <;> first | exact l1 | exact l2
  | bi k f g => cases k <;> first | exact l3 | exact l4 | exact l5
  | yes => exact l6
  | no => exact l7
  | letter n => exact l8
  | act a b => exact l9
theorem Fm.items_kind (f : Fm) : f.items = .str f.kind :: f.items.drop 1 := by cases f <;> rfl
theorem Fm.items_inner (f : Fm) (h : f.inner.isEmpty = false) : f.items.drop 1 = f.inner.map Fm.d := by
  cases f with
  | un b f => rfl
  | bi k f g => rfl
  | _ => cases h
/-- a form's tuple opened: its kind, the rest -/
theorem FAt.kind {K : PySem.W.Frag} {H : Hp} {v : V} {f : Fm} (h : FAt K H v f) : ∃ a rs, v = .ref a ∧ Tp K H a (.str f.kind :: rs) ∧ AtAll K H rs (f.items.drop 1) := by
  obtain ⟨a, xs, rfl, ht, ha⟩ := h.open
  rw [f.items_kind] at ha
  cases ha with
  | @cons v0 rs _ _ h0 hr =>
    cases h0
    exact ⟨a, rs, rfl, ht, hr⟩
theorem cut_from1 (x : V) (xs : List V) : cutV (x :: xs) (some 1) none = xs := by
  unfold cutV
  have e : HT.sIx (x :: xs).length 0 (some 1) = 1 := by
    have := HT.sIx_nat (x :: xs).length 0 1
    rw [List.length_cons] at this ⊢
    have e2 : (some ((1 : Nat) : Int)) = some (1 : Int) := rfl
    rw [e2] at this
    rw [this]; omega
  rw [e, HT.sIx_none, List.drop_succ_cons, List.drop_zero, List.length_cons]
  exact List.take_of_length_le (by omega)
def spInner (K : PySem.W.Frag) : Sp := fun vs H Q _ => ∃ (v : V) (f : Fm), vs = [v] ∧ FAt K H v f ∧ ∀ p H' vs, Same H H' → Tp K H' p vs → AtAll K H' vs (f.inner.map Fm.d) → Q (.ref p) H'
theorem ok_inner (T : Txt w K mg) : Cal P w K mg base 1 "inner_forms" (spInner K) := by
  refine cal_mk T.f_inner_forms bd_inner_forms sc_inner_forms (fun vs H Q E h => ?_) (fun fa cdv A outer s H vs Q E hr h => ?_)
  · obtain ⟨v, f, rfl, _⟩ := h; rfl
  · obtain ⟨v, f, rfl, hf, k⟩ := h
    obtain ⟨a, rs, rfl, ht, hrs⟩ := hf.kind
    refine ⟨_, (pss_one (ps_ret (pe_ifExp (pt_cmpR op_in_seq (pe_ix ix_tup (pv 0) pe_int (fun _ _ => rfl)) (pe_tup (pa_cons pe_str (pa_cons pe_str (pa_cons pe_str (pa_cons pe_str pa_nil))))) (by rfl)) (pe_tup pa_nil) (pe_slice sl_tupA (pv 0) (po_some pe_int) po_none)))), ?_⟩
    walk_at "zz"
    refine ⟨a, _, _, V.str f.kind, rfl, rfl, ht.sq, atI_nat (j := 0) rfl, ?_⟩
    walk_at "zz"
    refine ⟨by show 4 ≤ sizeLine; decide, fun p hp => ?_⟩
    refine z_inT (SqT.of upd_same) rfl rfl ?_
    rw [kind_leaf]
    have s1 : Same H (upd H p (.tup [V.str "yes", V.str "no", V.str "letter", V.str "act"])) := Same.new hp
    generalize upd H p (.tup [V.str "yes", V.str "no", V.str "letter", V.str "act"]) = H1 at s1
    walk_at "zz"
    refine z_bool (fun hb => ?_) (fun hb => ?_)
    · walk_at "zz"
      refine ⟨Nat.zero_le _, fun q hq => ?_⟩
      refine k q _ [] (s1.trans (Same.new hq)) (Tp.of upd_same) ?_
      rw [List.isEmpty_iff.mp hb]
      exact .nil
    · walk_at "zz"
      refine ⟨a, _, rfl, (ht.mono (TS.of s1)).sq, fun hw => ?_, fun hw q hq => ?_⟩
      · exfalso
        have e := hw.1
        have e2 := HT.sIx_nat (V.str f.kind :: rs).length 0 1
        have e3 : HT.sIx (V.str f.kind :: rs).length 0 (some 1) = min 1 (V.str f.kind :: rs).length := e2
        rw [e3, List.length_cons] at e
        omega
      · rw [cut_from1]
        refine k q _ rs (s1.trans (Same.new hq)) (Tp.of upd_same) ?_
        rw [← f.items_inner hb]
        exact AtAll.mono (TS.of (s1.trans (Same.new hq))) hrs
theorem Fm.parts_eq (f : Fm) : f.parts = f :: f.inner.flatMap Fm.parts := by
  cases f with
  | un b f => show _ :: f.parts = _ :: (f.parts ++ []); rw [List.append_nil]
  | bi k f g => show _ :: (f.parts ++ g.parts) = _ :: (f.parts ++ (g.parts ++ [])); rw [List.append_nil]
  | _ => rfl
theorem Fm.inner_dep {f g : Fm} (h : g ∈ f.inner) : g.dep < f.dep := by
  cases f with
  | un b f => simp [Fm.inner] at h; subst h; exact Nat.lt_succ_self _
  | bi k f f' =>
    simp [Fm.inner] at h
    rcases h with rfl | rfl
    · show g.dep < max g.dep f'.dep + 1; omega
    · show g.dep < max f.dep g.dep + 1; omega
  | _ => simp [Fm.inner] at h
theorem Fm.inner_size {f g : Fm} (h : g ∈ f.inner) : g.size < f.size := by
  cases f with
  | un b f => simp [Fm.inner] at h; subst h; exact Nat.lt_succ_self _
  | bi k f f' =>
    simp [Fm.inner] at h
    rcases h with rfl | rfl
    · show g.size < g.size + f'.size + 1; omega
    · show g.size < f.size + g.size + 1; omega
  | _ => simp [Fm.inner] at h
theorem flat_take {l : List Fm} {i : Nat} {g : Fm} (h : l[i]? = some g) : (l.take (i + 1)).flatMap Fm.parts = (l.take i).flatMap Fm.parts ++ g.parts := by
  rw [take_snoc h, List.flatMap_append]
  show _ ++ (g.parts ++ []) = _
  rw [List.append_nil]
theorem flat_le (f : Fm) (i : Nat) : ((f.inner.take i).flatMap Fm.parts).length + 1 ≤ f.size := by
  rw [← f.parts_len, f.parts_eq, List.length_cons]
  have : ((f.inner.take i).flatMap Fm.parts).length ≤ (f.inner.flatMap Fm.parts).length := by
    conv => rhs; rw [← List.take_append_drop i f.inner, List.flatMap_append, List.length_append]
    omega
  omega
def spAll (K : PySem.W.Frag) (n : Nat) : Sp := fun vs H Q _ => ∃ (v : V) (f : Fm), vs = [v] ∧ FAt K H v f ∧ f.dep < n ∧ f.size ≤ 100000 ∧ ∀ p H' vs, H p = none → Same H H' → H' p = some (.lst vs) → AtAll K H' vs (f.parts.map Fm.d) → Q (.ref p) H'
theorem ok_all (T : Txt w K mg) : ∀ n : Nat, Cal P w K mg base (n + 1) "all_parts" (spAll K n)
  | 0 => (Cal.bot T.f_all_parts bd_all_parts (fun vs H Q E h => by obtain ⟨v, f, _, _, h, _⟩ := h; omega)).mono (by omega)
  | n + 1 => by
    have C_inner_forms : Cal P w K mg base 1 "inner_forms" (spInner K) := ok_inner T
    have C_all_parts : Cal P w K mg base (n + 1) "all_parts" (spAll K n) := ok_all T n
    refine cal_mk T.f_all_parts bd_all_parts sc_all_parts (fun vs H Q E h => ?_) (fun fa cdv A outer s H vs Q E hr h => ?_)
    · obtain ⟨v, f, rfl, _⟩ := h; rfl
    · obtain ⟨v, f, rfl, hf, hdep, hsz, k⟩ := h
      refine ⟨_, (pss_cons (ps_set (i := 1) sc_all_parts.nd rfl (Or.inl rfl) (pe_lst (pa_cons (pv 0) pa_nil)))
      (pss_cons (ps_for PassesOwn.never rfl (pi_tup (pe_cl C_inner_forms hr (by omega) rfl (pa_cons (pv 0) pa_nil))) (pg_name (i := 2) sc_all_parts.nd rfl (Or.inl rfl)) (pss_one (ps_expr (pe_bm PySem.F.plainAttrs_list PySem.F.slot_list_extend PySem.F.type_list_extend mt_extend (pv 1) (pa_cons (pe_cl C_all_parts hr (by omega) rfl (pa_cons (pv 2) pa_nil)) pa_nil)))))
      (pss_one (ps_ret (pv 1))))), ?_⟩
      walk_at "zz"
      refine ⟨by show 1 ≤ sizeLine; decide, fun l hl => ?_⟩
      have s1 : Same H (upd H l (.lst [v])) := Same.new hl
      walk_at "zz"
      refine ⟨v, f, rfl, At.mono (TS.of s1) hf, fun p H1 ivs s2 hp hat => ?_⟩
      have hl1 : H1 l = some (.lst [v]) := s2 _ _ upd_same
      have hilen : ivs.length = f.inner.length := by rw [AtAll.len hat, List.length_map]
      refine ⟨p, rfl, ⟨ivs, hp.sq⟩, ?_⟩
      refine for_tup (xs := ivs) (fun i σ' H' => Same H H' ∧ TS H1 H' ∧ (∃ v2 : Option V, σ' = [some v, some (.ref l), v2]) ∧ ∃ vs, H' l = some (.lst vs) ∧ AtAll K H' vs ((f :: (f.inner.take i).flatMap Fm.parts).map Fm.d)) ⟨s1.trans s2, TS.refl _, ⟨_, rfl⟩, [v], hl1, .cons (At.mono (TS.of (s1.trans s2)) hf) .nil⟩ (fun i σ' H' _ h => (hp.mono h.2.1).sq) ?_ ?_
      · rintro i x _ H2 hxi ⟨s3, ts3, ⟨v2, rfl⟩, vs, hl2, hat2⟩
        obtain ⟨dg, hdg, hxd⟩ := AtAll.get hat i x hxi
        rw [List.getElem?_map] at hdg
        obtain ⟨g, hg, rfl⟩ : ∃ g, f.inner[i]? = some g ∧ g.d = dg := by
          cases e : f.inner[i]? with
          | none => rw [e] at hdg; cases hdg
          | some g => rw [e] at hdg; exact ⟨g, rfl, Option.some.inj hdg⟩
        have hgm : g ∈ f.inner := List.mem_of_getElem? hg
        have hgd := Fm.inner_dep hgm
        have hgs := Fm.inner_size hgm
        walk_at "zz"
        refine ⟨_, rfl, .inl ⟨rfl, _, SqL.of hl2⟩, ?_⟩
        walk_at "zz"
        refine ⟨x, g, rfl, At.mono ts3 hxd, by omega, by omega, fun q H3 ws hq s4 hq3 hat3 => ?_⟩
        have hl3 := s4 _ _ hl2
        have hvl := AtAll.len hat2
        have hwl := AtAll.len hat3
        refine ⟨l, q, vs, ws, rfl, rfl, hl3, hq3, ?_, ?_⟩
        · have h1 := flat_le f (i + 1)
          rw [flat_take hg, List.length_append] at h1
          rw [hvl, hwl, List.length_map, List.length_map, List.length_cons]
          exact Nat.le_trans (m := 100000) (by omega) (by decide)
        · walk_at "zz"
          have ts : TS H3 (upd H3 l (.lst (vs ++ ws))) := fun b ys q => by rw [upd_ne (fun z => by rw [z, hl3] at q; cases q)]; exact q
          refine ⟨Same.upd (s3.trans s4) hl, ts3.trans ((TS.of s4).trans ts), ⟨_, rfl⟩, _, upd_same, ?_⟩
          rw [flat_take hg]
          have e : (f :: ((f.inner.take i).flatMap Fm.parts ++ g.parts)).map Fm.d = (f :: (f.inner.take i).flatMap Fm.parts).map Fm.d ++ g.parts.map Fm.d := by rw [← List.map_append]; rfl
          rw [e]
          exact AtAll.app (AtAll.mono ((TS.of s4).trans ts) hat2) (AtAll.mono ts hat3)
      · rintro _ H2 ⟨s3, ts3, ⟨v2, rfl⟩, vs, hl2, hat2⟩
        walk_at "zz"
        refine k l H2 vs hl s3 hl2 ?_
        rw [hilen, List.take_length, ← f.parts_eq] at hat2
        exact hat2
end
section
variable {P : Program} {w : World} {K : PySem.W.Frag} {mg : Str → Option Value} {base : Heap}
def sayF (p l : Addr) : List (Str × V) := [("kept", .ref p), ("parts", .ref l)]
theorem kp_ne : ¬ (("kept" : Str) = "parts") := by decide +kernel
theorem put_parts (p l : Addr) : putF "parts" (.ref l) (putF "kept" (.ref p) []) = sayF p l := by
  show (if ("kept" : Str) = "parts" then [(("kept" : Str), V.ref l)] else (("kept" : Str), V.ref p) :: putF "parts" (V.ref l) []) = _
  rw [if_neg kp_ne]; rfl
theorem say_kept (p l : Addr) : (sayF p l).lookup ("kept" : Str) = some (.ref p) := by
  unfold sayF
  rw [List.lookup_cons]; simp
theorem say_parts (p l : Addr) : (sayF p l).lookup ("parts" : Str) = some (.ref l) := by
  unfold sayF
  rw [List.lookup_cons, List.lookup_cons]
  have : (("parts" : Str) == "kept") = false := by decide +kernel
  rw [this]; simp
theorem say_no (p l : Addr) {m : Str} (h1 : (m == "kept") = false) (h2 : (m == "parts") = false) : (sayF p l).lookup m = none := by
  unfold sayF
  rw [List.lookup_cons, h1, List.lookup_cons, h2]; rfl
/-- the saying f stands at a -/
def SayAt (K : PySem.W.Frag) (H : Hp) (a : Addr) (f : Fm) : Prop := ∃ dx p l vs, H a = some (.ins (He.ga K "Saying") dx (sayF p l)) ∧ FAt K H (.ref p) f ∧ H l = some (.lst vs) ∧ vs.length = f.size
theorem SayAt.same {K : PySem.W.Frag} {H H' : Hp} {a : Addr} {f : Fm} (s : Same H H') (h : SayAt K H a f) : SayAt K H' a f := by
  obtain ⟨dx, p, l, vs, h1, h2, h3, h4⟩ := h
  exact ⟨dx, p, l, vs, s _ _ h1, At.mono (TS.of s) h2, s _ _ h3, h4⟩
theorem Lo.depth {d : PyData} {f : Fm} (h : Lo d f) : PyData.depth d = f.dep := by
  induction h with
  | yes h => rw [depth_seq h]; rfl
  | no h => rw [depth_seq h]; rfl
  | letter h => rw [depth_seq h]; rfl
  | act h => rw [depth_seq h]; rfl
  | @un d e b f h k ih =>
    rw [depth_seq h]
    show max 0 (max (PyData.depth e) 0) + 1 = f.dep + 1
    rw [ih]; omega
  | @bi d e e' k f g h h1 h2 ih1 ih2 =>
    rw [depth_seq h]
    show max 0 (max (PyData.depth e) (max (PyData.depth e') 0)) + 1 = max f.dep g.dep + 1
    rw [ih1, ih2]; omega
theorem shortA_of {d : PyData} {xs : List PyData} (h : seqOf d = some xs) (s : shortAll xs) : shortA d := by
  cases d <;> simp [seqOf] at h <;> subst h <;> simpa only [shortA] using s
theorem short_str {z : Str} (h : z.length ≤ 100000) : shortA (.str z) := by simp only [shortA]; exact h
theorem Lo.short {d : PyData} {f : Fm} (h : Lo d f) : f.ok = true → shortA d := by
  induction h with
  | yes h => intro _; exact shortA_of h (by simp only [shortAll]; exact ⟨short_str (by decide +kernel), trivial⟩)
  | no h => intro _; exact shortA_of h (by simp only [shortAll]; exact ⟨short_str (by decide +kernel), trivial⟩)
  | @letter d n h =>
    intro ok
    have ok : nameB n = true := ok
    exact shortA_of h (by simp only [shortAll]; exact ⟨short_str (by decide +kernel), short_str (by have := (word_ok (name_word ok)).2; omega), trivial⟩)
  | @act d a b h =>
    intro ok
    have ok : (roleB a && roleB b) = true := ok
    rw [Bool.and_eq_true] at ok
    exact shortA_of h (by simp only [shortAll]; exact ⟨short_str (by decide +kernel), short_str (by have := (word_ok (role_word ok.1)).2; omega), short_str (by have := (word_ok (role_word ok.2)).2; omega), trivial⟩)
  | @un d e b f h k ih => intro ok; exact shortA_of h (by simp only [shortAll]; exact ⟨short_str (by cases b <;> decide +kernel), ih ok, trivial⟩)
  | @bi d e e' k f g h h1 h2 ih1 ih2 =>
    intro ok
    have ok : (f.ok && g.ok) = true := ok
    rw [Bool.and_eq_true] at ok
    exact shortA_of h (by simp only [shortAll]; exact ⟨short_str (by cases k <;> decide +kernel), ih1 ok.1, ih2 ok.2, trivial⟩)
def spInit (K : PySem.W.Frag) : Sp := fun vs H Q _ => ∃ (a dx : Addr) (v : V) (d : PyData) (f : Fm), vs = [.ref a, v] ∧ H a = some (.ins (He.ga K "Saying") dx []) ∧ Dp K H v d ∧ Lo d f ∧ f.ok = true ∧ f.dep ≤ 40 ∧ f.size ≤ 100000 ∧ ∀ H', SameX a H H' → SayAt K H' a f → Q .non H'
theorem ts_ins {H : Hp} {a C dx : Addr} {fs gs : List (Str × V)} (h : H a = some (.ins C dx fs)) : TS H (upd H a (.ins C dx gs)) := fun b ys q => by rw [upd_ne (fun z => by rw [z, h] at q; cases q)]; exact q
theorem ok_init (T : Txt w K mg) : KCal P w K mg base 46 "Saying" (He.ga K "Saying") (spInit K) := by
  have C_wrong_path : Cal P w K mg base 45 "wrong_path" (spWrong K 41) := ok_wrong T 41
  have C_tuples : Cal P w K mg base 41 "tuples" (spTuples K 41) := ok_tuples T 41
  have C_all_parts : Cal P w K mg base 42 "all_parts" (spAll K 41) := ok_all T 41
  refine kcal_mk T.mk_Saying T.g_Saying T.m_Saying_init bd_Saying_init sc_Saying_init (fun vs H Q E h => ?_) (fun fa cdv A outer s H vs Q E hr h => ?_)
  · obtain ⟨a, dx, v, d, f, rfl, _⟩ := h; rfl
  · obtain ⟨a, dx, v, d, f, rfl, ha, hd, hlo, hok, hdep, hsz, k⟩ := h
    refine ⟨_, (pss_cons (ps_set (i := 2) sc_Saying_init.nd rfl (Or.inl rfl) (pe_cl C_wrong_path hr (by omega) rfl (pa_cons (pv 1) (pa_cons (pe_tup pa_nil) pa_nil))))
      (pss_cons (ps_if (pt_cmpR op_notN (pv 2) pe_non (nomark _)) (pss_one ps_never) pss_nil)
      (pss_cons (ps_fld (pv 0) (pe_cl C_tuples hr (by omega) rfl (pa_cons (pv 1) pa_nil)) rfl)
      (pss_one (ps_fld (pv 0) (pe_cl C_all_parts hr (by omega) rfl (pa_cons (pe_fld (pv 0) rfl) pa_nil)) rfl))))), ?_⟩
    walk_at "zz"
    refine ⟨Nat.zero_le _, fun q hq => ?_⟩
    walk_at "zz"
    have s1 : Same H (upd H q (.tup [])) := Same.new hq
    refine ⟨v, d, q, [], rfl, Dp.same s1 hd, hlo.short hok, upd_same, by rw [hlo.depth]; omega, by rw [hlo.depth]; show 0 + _ ≤ _; omega, fun r H1 s2 hw => ?_⟩
    rw [wrong_none hlo hok] at hw
    have hw : r = .non := hw
    subst hw
    have s12 := s1.trans s2
    walk_at "zz"
    refine ⟨rfl, ?_⟩
    walk_at "zz"
    refine z_ndec (fun e => absurd rfl e) (fun _ => ?_)
    walk_at "zz"
    refine ⟨v, d, f, rfl, Dp.same s12 hd, hlo, by omega, fun p H2 s3 hp => ?_⟩
    have s13 := s12.trans s3
    have ha2 := s13 _ _ ha
    walk_at "zz"
    refine ⟨a, _, dx, [], rfl, ha2, T.cl_Saying, T.na_Saying_kept, by show 0 < 1000; decide, ?_⟩
    walk_at "zz"
    refine ⟨a, _, dx, _, _, rfl, upd_same, T.cl_Saying, T.na_Saying_kept, rfl, ?_⟩
    walk_at "zz"
    refine ⟨.ref p, f, rfl, At.mono (ts_ins ha2) hp, by omega, hsz, fun l H3 vs hl s4 hl3 hat => ?_⟩
    have ha3 := s4 _ _ (upd_same (H := H2) (a := a) (o := .ins (He.ga K "Saying") dx (putF "kept" (.ref p) [])))
    walk_at "zz"
    refine ⟨a, _, dx, _, rfl, ha3, T.cl_Saying, T.na_Saying_parts, by show 1 < 1000; decide, ?_⟩
    walk_at "zz"
    rw [put_parts]
    have hla : l ≠ a := fun e => by rw [e, upd_same] at hl; cases hl
    refine k _ ?_ ⟨dx, p, l, vs, upd_same, At.mono ((ts_ins ha2).trans ((TS.of s4).trans (ts_ins ha3))) hp, by rw [upd_ne hla]; exact hl3, ?_⟩
    · exact (((SameX.of s13).self).trans (SameX.of s4)).self
    · rw [AtAll.len hat, List.length_map, f.parts_len]
/-- what a new saying leaves -/
def spNew (K : PySem.W.Frag) (f : Fm) (H : Hp) (Q : VK) : Prop := ∀ b H', H b = none → Same H H' → SayAt K H' b f → Q (.ref b) H'
/-- the call Saying(..) of a form that stands -/
theorem new_say {K : PySem.W.Frag} {H : Hp} {Q : VK} {v : V} {d : PyData} {f : Fm} (hd : Dp K H v d) (hlo : Lo d f) (hok : f.ok = true) (hdep : f.dep ≤ 40) (hsz : f.size ≤ 100000) (k : spNew K f H Q) :
    ∀ x dx, H x = none → H dx = none → dx ≠ x → spInit K [.ref x, v] (upd (upd H dx (.own x)) x (.ins (He.ga K "Saying") dx [])) (fun u H2 => u = .non ∧ Q (.ref x) H2) C8.E0 := by
  intro x dx hx hdx hne
  have s1 : Same H (upd (upd H dx (.own x)) x (.ins (He.ga K "Saying") dx [])) := (Same.new hdx).trans (Same.new (by rw [upd_ne (Ne.symm hne)]; exact hx))
  refine ⟨x, dx, v, d, f, rfl, upd_same, Dp.same s1 hd, hlo, hok, hdep, hsz, fun H' sx ha => ⟨rfl, k x H' hx ?_ ha⟩⟩
  exact fun b o e => sx b o (ne_of_none e hx) (s1 b o e)
/-- the same, for a goal whose end is a pattern in the new place -/
theorem new_say1 {K : PySem.W.Frag} {H : Hp} {R : Addr → Hp → Prop} {v : V} {d : PyData} {f : Fm} (hd : Dp K H v d) (hlo : Lo d f) (hok : f.ok = true) (hdep : f.dep ≤ 40) (hsz : f.size ≤ 100000) (k : ∀ b H', H b = none → Same H H' → SayAt K H' b f → R b H') :
    ∀ x dx, H x = none → H dx = none → dx ≠ x → spInit K (.ref x :: ([v] ++ [])) (upd (upd H dx (.own x)) x (.ins (He.ga K "Saying") dx [])) (fun u H2 => u = .non ∧ R x H2) C8.E0 := by
  intro x dx hx hdx hne
  have s1 : Same H (upd (upd H dx (.own x)) x (.ins (He.ga K "Saying") dx [])) := (Same.new hdx).trans (Same.new (by rw [upd_ne (Ne.symm hne)]; exact hx))
  refine ⟨x, dx, v, d, f, rfl, upd_same, Dp.same s1 hd, hlo, hok, hdep, hsz, fun H' sx ha => ⟨rfl, k x H' hx ?_ ha⟩⟩
  exact fun b o e => sx b o (ne_of_none e hx) (s1 b o e)
def spForm (K : PySem.W.Frag) : Sp := fun vs H Q _ => ∃ (a : Addr) (f : Fm), vs = [.ref a] ∧ SayAt K H a f ∧ ∀ p, FAt K H (.ref p) f → Q (.ref p) H
theorem ok_form (T : Txt w K mg) : MCal P w K mg base 1 (He.ga K "Saying") "form" (spForm K) := by
  refine mcal_mk T.cl_Saying T.m_Saying_form bd_Saying_form sc_Saying_form (fun vs H Q E h => ?_) (fun fa cdv A outer s H vs Q E hr h => ?_)
  · obtain ⟨a, f, rfl, _⟩ := h; rfl
  · obtain ⟨a, f, rfl, ⟨dx, p, l, ws, ha, hp, hl, hn⟩, k⟩ := h
    refine ⟨_, (pss_one (ps_ret (pe_fld (pv 0) rfl))), ?_⟩
    walk_at "zz"
    refine ⟨a, _, dx, _, _, rfl, ha, T.cl_Saying, T.na_Saying_kept, say_kept p l, ?_⟩
    exact k p hp
def spLen (K : PySem.W.Frag) : Sp := fun vs H Q _ => ∃ (a : Addr) (f : Fm), vs = [.ref a] ∧ SayAt K H a f ∧ Q (.int (f.size : Int)) H
theorem ok_slen (T : Txt w K mg) : MCal P w K mg base 1 (He.ga K "Saying") "__len__" (spLen K) := by
  refine mcal_mk T.cl_Saying T.m_Saying_len bd_Saying_len sc_Saying_len (fun vs H Q E h => ?_) (fun fa cdv A outer s H vs Q E hr h => ?_)
  · obtain ⟨a, f, rfl, _⟩ := h; rfl
  · obtain ⟨a, f, rfl, ⟨dx, p, l, ws, ha, hp, hl, hn⟩, k⟩ := h
    refine ⟨_, (pss_one (ps_ret (pe_callB call_len (by rfl) T.n_len (by decide +kernel) (pa_cons (pe_fld (pv 0) rfl) pa_nil)))), ?_⟩
    walk_at "zz"
    refine ⟨a, _, dx, _, _, rfl, ha, T.cl_Saying, T.na_Saying_parts, say_parts p l, ?_⟩
    walk_at "zz"
    refine ⟨_, _, rfl, .inl ⟨_, SqL.of hl, rfl⟩, ?_⟩
    rw [hn]
    exact k
theorem un_at {K : PySem.W.Frag} {H : Hp} {p : Addr} {f : Fm} {b : Bool} {z : Str} (hz : z = unS b) (h : FAt K H (.ref p) f) {t : Addr} (ht : H t = none) : FAt K (upd H t (.tup [.str z, .ref p])) (.ref t) (.un b f) := by
  subst hz
  exact .tup (Tp.of upd_same) (.cons (.str _) (.cons (At.mono (TS.of (Same.new ht)) h) .nil))
theorem bi_at {K : PySem.W.Frag} {H : Hp} {p q : Addr} {f g : Fm} {o : Op2} {z : Str} (hz : z = o.s) (h : FAt K H (.ref p) f) (h' : FAt K H (.ref q) g) {t : Addr} (ht : H t = none) : FAt K (upd H t (.tup [.str z, .ref p, .ref q])) (.ref t) (.bi o f g) := by
  subst hz
  exact .tup (Tp.of upd_same) (.cons (.str _) (.cons (At.mono (TS.of (Same.new ht)) h) (.cons (At.mono (TS.of (Same.new ht)) h') .nil)))
end
section
variable {P : Program} {w : World} {K : PySem.W.Frag} {mg : Str → Option Value} {base : Heap}
def spSText (K : PySem.W.Frag) : Sp := fun vs H Q _ => ∃ (a : Addr) (f : Fm), vs = [.ref a] ∧ SayAt K H a f ∧ f.ok = true ∧ f.dep ≤ 40 ∧ f.size ≤ 10000 ∧ ∀ H', Same H H' → Q (.str f.str) H'
theorem ok_stext (T : Txt w K mg) : MCal P w K mg base 42 (He.ga K "Saying") "text" (spSText K) := by
  have C_form_text : Cal P w K mg base 41 "form_text" (spText K 41) := ok_text T 41
  refine mcal_mk T.cl_Saying T.m_Saying_text bd_Saying_text sc_Saying_text (fun vs H Q E h => ?_) (fun fa cdv A outer s H vs Q E hr h => ?_)
  · obtain ⟨a, f, rfl, _⟩ := h; rfl
  · obtain ⟨a, f, rfl, ⟨dx, p, l, ws, ha, hp, hl, hn⟩, hok, hdep, hsz, k⟩ := h
    refine ⟨_, (pss_one (ps_ret (pe_cl C_form_text hr (by omega) rfl (pa_cons (pe_fld (pv 0) rfl) pa_nil)))), ?_⟩
    walk_at "zz"
    refine ⟨a, _, dx, _, _, rfl, ha, T.cl_Saying, T.na_Saying_kept, say_kept p l, ?_⟩
    walk_at "zz"
    exact ⟨_, f, rfl, hp, hok, by omega, hsz, k⟩
def sgB (c : Nat) : Bool := decide (c ∈ (Str.ofString "~#(").cps.toList)
theorem sg_letters {l : List Nat} (h : l.all letterB = true) : (l.filter sgB) = [] := by
  have e : (Str.ofString "~#(").cps.toList = [126, 35, 40] := by decide +kernel
  rw [List.filter_eq_nil_iff]
  intro c hc
  have := List.all_eq_true.mp h c hc
  unfold letterB at this
  rw [Bool.and_eq_true, decide_eq_true_eq, decide_eq_true_eq] at this
  unfold sgB
  rw [e, decide_eq_true_eq]
  simp
  omega
theorem sgOne (c : Nat) (l : List Nat) : ((c :: l).filter sgB).length ≤ (l.filter sgB).length + 1 := by
  rw [List.filter_cons]
  split
  · rw [List.length_cons]; exact Nat.le_refl _
  · omega
theorem sg0 {c : Nat} (h : sgB c = false) (l : List Nat) : (c :: l).filter sgB = l.filter sgB := by
  rw [List.filter_cons, h]; rfl
theorem Fm.signs : ∀ f : Fm, f.ok = true → (f.txt.filter sgB).length ≤ f.size
  | .yes, _ => by decide +kernel
  | .no, _ => by decide +kernel
  | .letter z, h => by
    show (z.cps.toList.filter sgB).length ≤ 1
    rw [sg_letters (name_lits h)]; exact Nat.zero_le _
  | .act a b, h => by
    have h2 : (roleB a && roleB b) = true := h
    rw [Bool.and_eq_true] at h2
    show ((a.cps.toList ++ 45 :: b.cps.toList).filter sgB).length ≤ 1
    rw [List.filter_append, sg_letters (role_lits h2.1), List.nil_append, sg0 (by decide +kernel), sg_letters (role_lits h2.2)]
    exact Nat.zero_le _
  | .un b f, h => by
    have := f.signs h
    have h2 := sgOne (unC b) f.txt
    show ((unC b :: f.txt).filter sgB).length ≤ f.size + 1
    omega
  | .bi o f g, h => by
    have h2 : (f.ok && g.ok) = true := h
    rw [Bool.and_eq_true] at h2
    have h3 := f.signs h2.1
    have h4 := g.signs h2.2
    have h5 := sgOne 40 (f.txt ++ 32 :: o.c :: 32 :: (g.txt ++ [41]))
    show ((40 :: (f.txt ++ 32 :: o.c :: 32 :: (g.txt ++ [41]))).filter sgB).length ≤ f.size + g.size + 1
    have h6 : [41].filter sgB = [] := by decide +kernel
    have c1 : sgB 32 = false := by decide +kernel
    have c2 : sgB o.c = false := by cases o <;> decide +kernel
    have h7 : (32 :: o.c :: 32 :: (g.txt ++ [41])).filter sgB = g.txt.filter sgB := by
      rw [sg0 c1, sg0 c2, sg0 c1, List.filter_append, h6, List.append_nil]
    rw [List.filter_append, List.length_append, h7] at h5
    omega
def spRead (K : PySem.W.Frag) : Sp := fun vs H Q _ => ∃ (f : Fm), vs = [.ref (He.ga K "Saying"), .str f.str] ∧ f.ok = true ∧ f.dep ≤ 19 ∧ f.size ≤ 100 ∧ spNew K f H Q
theorem ok_read (T : Txt w K mg) : CCal P w K mg base 48 (He.ga K "Saying") "read" (spRead K) := by
  have K_Saying : KCal P w K mg base 46 "Saying" (He.ga K "Saying") (spInit K) := ok_init T
  have C_read_form : Cal P w K mg base 44 "read_form" (spRForm K 20) := ok_rform T 20
  refine ccal_mk T.k_Saying_read bd_Saying_read sc_Saying_read (fun vs H Q E h => ?_) (fun fa cdv A outer s H vs Q E hr h => ?_)
  · obtain ⟨f, rfl, _⟩ := h; rfl
  · obtain ⟨f, rfl, hok, hdep, hsz, k⟩ := h
    refine ⟨_, (pss_cons (ps_set (i := 2) sc_Saying_read.nd rfl (Or.inl rfl) (pe_and (pe_callB call_isi (by rfl) T.n_isinstance (by decide +kernel) (pa_cons (pv 1) (pa_cons (pe_bltn (v := .ty "str") (by rfl) T.n_str (by decide +kernel) rfl) pa_nil))) (pe_one (pe_cmpR op_lt (pe_callB call_len (by rfl) T.n_len (by decide +kernel) (pa_cons (pe_lc (own := [("sign", 3)]) (by rfl) sc_Saying_read.nd (pi_str (pv 1)) (blkOk_by (N := ["cls", "text", "is_short", "sign", "found"]) (sc := defScope s_Saying_read) (by decide +kernel)) (fun _ _ _ _ _ => (pg_name (i := 3) sc_Saying_read.nd rfl (Or.inl rfl))) (fun _ _ _ _ _ => (pts_one (pt_cmpR op_in_sign (pv 3) pe_str (by rfl)))) (fun _ _ _ _ _ => (pv 3))) pa_nil)) (pe_gi rfl T.i_DEEPEST) (nomark _)))))
      (pss_cons (ps_set (i := 4) sc_Saying_read.nd rfl (Or.inl rfl) (pe_ifExp (pt_truth (pv 2) (by intro _; rfl)) (pe_cl C_read_form hr (by omega) rfl (pa_cons (pv 1) (pa_cons pe_int pa_nil))) pe_non))
      (pss_cons (ps_if (PW.pt (pw_or (pt_cmpR op_isN (pv 4) pe_non (nomark _)) (pw_or1 (pt_cmpR op_ne (pe_ix ix_tup (pv 4) pe_int (fun _ _ => rfl)) (pe_callB call_len (by rfl) T.n_len (by decide +kernel) (pa_cons (pv 1) pa_nil)) (nomark _))))) (pss_one ps_never) pss_nil)
      (pss_one (ps_ret (pe_kv (i := 0) K_Saying hr (by omega) rfl (Or.inl rfl) (pa_cons (pe_ix ix_tup (pv 4) pe_int (fun _ _ => rfl)) pa_nil))))))), ?_⟩
    walk_at "zz"
    refine ⟨_, _, _, _, true, rfl, ClsV.ty _, .base (.str _), kit_ty (by decide +kernel), ?_⟩
    walk_at "zz"
    have hlen := f.txt_len hok
    have hL : f.str.length = f.txt.length := sT_len _
    refine ⟨_, rfl, fun D hD => ?_⟩
    refine lc_it walk_str (fun i H' => H' D = some (.lst (((f.txt.take i).filter sgB).map fun c => V.str ⟨#[c]⟩)) ∧ Same H H') ⟨upd_same, Same.new hD⟩ (fun _ _ _ _ => True.intro) ?_ ?_
    · rintro i x H1 H2 hi ⟨e1, s1⟩ ⟨rfl, c, hc, rfl⟩
      walk_at "zz"
      refine ⟨rfl, ?_⟩
      have hc1 : f.txt[i]? = some c := by
        have h2 : f.txt.toArray[i]? = some c := hc
        rw [List.getElem?_toArray] at h2
        exact h2
      have hil : i < f.txt.length := by
        rcases List.getElem?_eq_some_iff.mp hc1 with ⟨h, _⟩
        exact h
      walk_at "zz"
      refine ⟨c, _, rfl, rfl, ?_⟩
      have esg : decide (c ∈ (Str.ofString "~#(").cps.toList) = sgB c := rfl
      rw [esg]
      walk_at "zz"
      refine z_bool (fun hb => ?_) (fun hb => ?_)
      · walk_at "zz"
        refine ⟨_, e1, ?_, ?_, Same.upd s1 hD⟩
        · rw [List.length_map]
          have h1 := List.length_filter_le sgB (f.txt.take i)
          rw [List.length_take] at h1
          exact Nat.lt_of_lt_of_le (m := 100000) (by omega) (by decide)
        · rw [upd_same, List.take_succ, hc1, List.filter_append, List.map_append]
          show _ = some (HO.lst (_ ++ ([c].filter sgB).map _))
          rw [List.filter_cons, hb]; rfl
      · refine ⟨?_, s1⟩
        rw [e1, List.take_succ, hc1, List.filter_append, List.map_append]
        show _ = some (HO.lst (_ ++ ([c].filter sgB).map _))
        rw [List.filter_cons, hb]
        show _ = some (HO.lst (_ ++ []))
        rw [List.append_nil]
    · rintro H1 ⟨e1, s1⟩
      have e2 : f.txt.take f.str.cps.size = f.txt := List.take_of_length_le (by show _ ≤ f.txt.toArray.size; rw [List.size_toArray]; exact Nat.le_refl _)
      rw [e2] at e1
      have hsg := f.signs hok
      walk_at "zz"
      refine ⟨_, _, rfl, .inl ⟨_, SqL.of e1, rfl⟩, ?_⟩
      walk_at "zz"
      have hcnt : decide (((((f.txt.filter sgB).map fun c => V.str ⟨#[c]⟩).length : Nat) : Int) < 400) = true := by
        rw [List.length_map]
        exact decide_eq_true (by omega)
      rw [hcnt]
      refine ⟨_, rfl, ?_⟩
      refine z_true rfl ?_
      walk_at "zz"
      refine ⟨[], [], f, by simp only [List.append_nil, List.nil_append]; rfl, by omega, hok, rfl, by simp only [List.nil_append, List.append_nil]; omega, fun q H2 hF => ?_⟩
      obtain ⟨s2, fv, hq, hf⟩ := hF
      walk_at "zz"
      refine ⟨rfl, ?_⟩
      walk_at "zz"
      refine z_false (by simp) ?_
      walk_at "zz"
      refine ⟨q, _, _, _, rfl, rfl, SqT.of hq, atI_nat (j := 1) rfl, ?_⟩
      walk_at "zz"
      refine ⟨_, _, rfl, ⟨by rw [hL]; exact line_le (by omega), rfl⟩, ?_⟩
      walk_at "zz"
      refine z_false (by rw [hL, List.length_nil, Nat.zero_add]; simp) ?_
      walk_at "zz"
      refine ⟨rfl, ?_⟩
      walk_at "zz"
      refine ⟨q, _, _, _, rfl, rfl, SqT.of hq, atI_nat (j := 0) rfl, ?_⟩
      walk_at "zz"
      exact new_say1 hf.dp (Lo.self f) hok (by omega) (by omega) fun b H3 hb s3 hsay => k b H3 ((s1.trans s2).free hb) ((s1.trans s2).trans s3) hsay
end
section
variable {P : Program} {w : World} {K : PySem.W.Frag} {mg : Str → Option Value} {base : Heap}
/-- a stream of draws stands at a; z draws were made beyond its digits -/
def StrAt (H : Hp) (a : Addr) (z : Nat) : Prop := ∃ x y : Int, H a = some (.lst [.int x, .int y, .int (z : Int)]) ∧ 0 ≤ x ∧ 0 ≤ y ∧ y < 2 ^ 40
theorem StrAt.mono {H H' : Hp} {a : Addr} {z : Nat} (s : Same H H') (h : StrAt H a z) : StrAt H' a z := by
  obtain ⟨x, y, e, h⟩ := h
  exact ⟨x, y, s _ _ e, h⟩
theorem StrAt.upd {H : Hp} {a p : Addr} {o : HO} {z : Nat} (h : StrAt H a z) (n : a ≠ p) : StrAt (L2.upd H p o) a z := by
  obtain ⟨x, y, e, h⟩ := h
  exact ⟨x, y, by rw [upd_ne n]; exact e, h⟩
theorem StrAt.new {H : Hp} {a p : Addr} {o : HO} {z : Nat} (h : StrAt H a z) (n : H p = none) : StrAt (L2.upd H p o) a z := h.mono (Same.new n)
theorem StrAt.ne {H : Hp} {a p : Addr} {z : Nat} (h : StrAt H a z) (n : H p = none) : p ≠ a := by
  obtain ⟨x, y, e, _⟩ := h
  exact (ne_of_none e n).symm
theorem StrAt.ne_tup {H : Hp} {a p : Addr} {z : Nat} {xs : List V} (h : StrAt H a z) (n : H p = some (.tup xs)) : p ≠ a := by
  obtain ⟨x, y, e, _⟩ := h
  exact ne_of n e (by intro q; cases q)
def spStream (K : PySem.W.Frag) : Sp := fun vs H Q _ => ∃ (a : Addr) (ns : List Int) (k : Int), vs = [.ref a, .int k] ∧ SqL K H a (ns.map V.int) ∧ 0 ≤ k ∧ k ≤ 1000 ∧ ∀ p H', H p = none → Same H H' → StrAt H' p 0 → Q (.ref p) H'
theorem ok_stream (T : Txt w K mg) : Cal P w K mg base 1 "_law_stream" (spStream K) := by
  refine cal_mk T.f_law_stream bd_law_stream sc_law_stream (fun vs H Q E h => ?_) (fun f cdv A outer s H vs Q E hr h => ?_)
  · obtain ⟨a, ns, k, rfl, _⟩ := h; rfl
  · obtain ⟨a, ns, k, rfl, hS, h0, hk, q⟩ := h
    refine ⟨_, (pss_cons (ps_set (i := 2) sc_law_stream.nd rfl (Or.inl rfl) (pe_cut (pe_ifExp (pt_cmpR op_lt (pv 1) (pe_callB call_len (by rfl) T.n_len (by decide +kernel) (pa_cons (pv 0) pa_nil)) (nomark _)) (pe_callB call_abs (by rfl) T.n_abs (by decide +kernel) (pa_cons (pe_ix ix_list (pv 0) (pv 1) (fun _ _ => rfl)) pa_nil)) pe_int)))
      (pss_one (ps_ret (pe_lst (pa_cons (pe_cut (pe_ifExp (pt_cmpR op_ge (pv 2) (pe_op op_pow pe_int pe_int) (nomark _)) (pv 2) pe_int)) (pa_cons (pe_op op_add (pe_op op_mod (pe_callTy call_int1 (by rfl) T.n_int (by decide +kernel) (pa_cons (pv 2) pa_nil)) pe_int) (pe_op op_mul pe_int (pv 1))) (pa_cons pe_int pa_nil))))))), ?_⟩
    walk_at "zz"
    refine z_mid (fun v H' => ∃ c : Int, 0 ≤ c ∧ v = .int c ∧ H = H') ?_ ?_
    · walk_at "zz"
      refine ⟨_, _, rfl, .inl ⟨_, hS, rfl⟩, ?_⟩
      walk_at "zz"
      refine z_dec (fun hl => ?_) (fun hl => ?_)
      · rw [List.length_map] at hl
        walk_at "zz"
        refine ⟨a, _, _, V.int (ns[k.toNat]'(by omega)), rfl, rfl, hS, at_int h0 (by rw [List.getElem?_map, List.getElem?_eq_getElem (by omega)]; rfl), ?_⟩
        walk_at "zz"
        refine ⟨_, rfl, _, ?_, rfl, rfl⟩
        split <;> omega
      · walk_at "zz"
        exact ⟨0, by omega, rfl, rfl⟩
    · rintro _ _ ⟨c, hc, rfl, rfl⟩
      walk_at "zz"
      refine z_mid (fun v H' => ∃ x : Int, 0 ≤ x ∧ v = .int x ∧ H = H') ?_ ?_
      · walk_at "zz"
        refine z_I ⟨by decide, by decide, by decide⟩ ?_
        walk_at "zz"
        refine z_dec (fun hl => ?_) (fun hl => ?_)
        · walk_at "zz"
          exact ⟨c, hc, rfl, rfl⟩
        · walk_at "zz"
          exact ⟨0, by omega, rfl, rfl⟩
      · rintro _ _ ⟨x, hx, rfl, rfl⟩
        walk_at "zz"
        refine z_I (by decide) ?_
        walk_at "zz"
        refine z_I (.inl ⟨by decide, by decide⟩) ?_
        walk_at "zz"
        refine ⟨by show 3 ≤ sizeLine; decide, fun p hp => q p _ hp (Same.new hp) ⟨x, c % 2147483647 + 31 * k, upd_same, hx, ?_, ?_⟩⟩
        · have := Int.emod_nonneg c (show (2147483647 : Int) ≠ 0 by decide)
          omega
        · have := Int.emod_lt_of_pos c (show (0 : Int) < 2147483647 by decide)
          omega
def spDraw : Sp := fun vs H Q _ => ∃ (a : Addr) (m : Int) (z : Nat), vs = [.ref a, .int m] ∧ StrAt H a z ∧ 0 < m ∧ m < 2 ^ 30 ∧ z < 2 ^ 40 ∧
  ∀ (d : Nat) (z' : Nat) (o : HO), (d : Int) < m → z' ≤ z + 1 → StrAt (upd H a o) a z' → Q (.int (d : Int)) (upd H a o)
theorem ok_draw (T : Txt w K mg) : Cal P w K mg base 1 "_law_draw" spDraw := by
  refine cal_mk T.f_law_draw bd_law_draw sc_law_draw (fun vs H Q E h => ?_) (fun f cdv A outer s H vs Q E hr h => ?_)
  · obtain ⟨a, m, z, rfl, _⟩ := h; rfl
  · obtain ⟨a, m, z, rfl, ⟨x, y, e, hx, hy, hy2⟩, hm0, hm, hz, q⟩ := h
    have em : ∀ n : Int, ∃ d : Nat, n % m = (d : Int) ∧ (d : Int) < m := fun n => ⟨(n % m).toNat, by have := Int.emod_nonneg n (show m ≠ 0 by omega); omega, by have := Int.emod_nonneg n (show m ≠ 0 by omega); have := Int.emod_lt_of_pos n hm0; omega⟩
    refine ⟨_, (pss_cons (ps_if (pt_cmpR op_gt (pe_ix ix_list (pv 0) pe_int (fun _ _ => rfl)) pe_int (nomark _)) (pss_cons (ps_set (i := 2) sc_law_draw.nd rfl (Or.inl rfl) (pe_op op_mod (pe_callTy call_int1 (by rfl) T.n_int (by decide +kernel) (pa_cons (pe_ix ix_list (pv 0) pe_int (fun _ _ => rfl)) pa_nil)) (pv 1)))
      (pss_cons (ps_asg (pe_op op_fdiv (pe_ix ix_list (pv 0) pe_int (fun _ _ => rfl)) (pv 1)) (pg_sub (pv 0) pe_int set_list))
      (pss_one (ps_ret (pv 2))))) pss_nil)
      (pss_cons (ps_asg (pe_op op_add (pe_ix ix_list (pv 0) pe_int (fun _ _ => rfl)) pe_int) (pg_sub (pv 0) pe_int set_list))
      (pss_cons (ps_set (i := 3) sc_law_draw.nd rfl (Or.inl rfl) (pe_op op_mod (pe_op op_pow (pe_callTy call_int1 (by rfl) T.n_int (by decide +kernel) (pa_cons (pe_op op_add (pe_op op_add (pe_ix ix_list (pv 0) pe_int (fun _ _ => rfl)) (pe_op op_mul pe_int (pe_ix ix_list (pv 0) pe_int (fun _ _ => rfl)))) pe_int) pa_nil)) pe_int) pe_int))
      (pss_one (ps_ret (pe_op op_mod (pe_op op_fdiv (pe_op op_mod (pe_callTy call_int1 (by rfl) T.n_int (by decide +kernel) (pa_cons (pe_op op_mul (pe_op op_add (pv 3) (pe_ix ix_list (pv 0) pe_int (fun _ _ => rfl))) pe_int) pa_nil)) pe_int) pe_int) (pv 1))))))), ?_⟩
    walk_at "zz"
    refine ⟨a, _, _, V.int x, rfl, rfl, SqL.of e, rfl, ?_⟩
    walk_at "zz"
    refine z_dec (fun hl => ?_) (fun hl => ?_)
    · walk_at "zz"
      refine ⟨a, _, _, V.int x, rfl, rfl, SqL.of e, rfl, ?_⟩
      walk_at "zz"
      refine z_I hm0 ?_
      walk_at "zz"
      refine ⟨a, _, _, V.int x, rfl, rfl, SqL.of e, rfl, ?_⟩
      walk_at "zz"
      refine z_I ⟨hm0, hm⟩ ?_
      walk_at "zz"
      refine ⟨a, _, _, 0, rfl, rfl, e, rfl, ?_⟩
      walk_at "zz"
      obtain ⟨d, ed, hd⟩ := em x
      rw [ed]
      exact q d z _ hd (by omega) ⟨x / m, y, upd_same, Int.ediv_nonneg hx (by omega), hy, hy2⟩
    · walk_at "zz"
      refine ⟨a, _, _, V.int (z : Int), rfl, rfl, SqL.of e, rfl, ?_⟩
      walk_at "zz"
      refine ⟨a, _, _, 2, rfl, rfl, e, rfl, ?_⟩
      walk_at "zz"
      refine ⟨a, _, _, V.int y, rfl, rfl, SqL.of upd_same, rfl, ?_⟩
      walk_at "zz"
      refine ⟨a, _, _, V.int ((z : Int) + 1), rfl, rfl, SqL.of upd_same, rfl, ?_⟩
      walk_at "zz"
      refine z_I (.inl ⟨by decide, by decide⟩) ?_
      walk_at "zz"
      refine z_I ⟨by decide, by decide, by omega⟩ ?_
      walk_at "zz"
      refine z_I (by decide) ?_
      walk_at "zz"
      refine ⟨a, _, _, V.int ((z : Int) + 1), rfl, rfl, SqL.of upd_same, rfl, ?_⟩
      walk_at "zz"
      refine z_I (.inr ⟨by decide, by decide⟩) ?_
      walk_at "zz"
      refine z_I (by decide) ?_
      walk_at "zz"
      refine z_I ⟨by decide, by decide⟩ ?_
      walk_at "zz"
      refine z_I hm0 ?_
      walk_at "zz"
      obtain ⟨d, ed, hd⟩ := em ((((y + 7919 * ((z : Int) + 1) + 104729) ^ (5 : Int).toNat % 2147483647 + ((z : Int) + 1)) * 40692 % 2147483629) / 7)
      rw [ed]
      exact q d (z + 1) _ hd (Nat.le_refl _) ⟨x, y, upd_same, hx, hy, hy2⟩
theorem StrAt.ts {H H' : Hp} {a : Addr} {z : Nat} (h : StrAt H a z) (s : SameX a H H') : TS H H' := fun b xs e => s b _ (h.ne_tup e) e
theorem StrAt.tsu {H : Hp} {a : Addr} {z : Nat} {o : HO} (h : StrAt H a z) : TS H (L2.upd H a o) := fun b xs e => by rw [upd_ne (h.ne_tup e)]; exact e
def spPick : Sp := fun vs H Q _ => ∃ (a t : Addr) (xs : List V) (z : Nat), vs = [.ref a, .ref t] ∧ StrAt H a z ∧ H t = some (.lst xs) ∧ t ≠ a ∧ xs ≠ [] ∧ xs.length < 1000 ∧ z < 2 ^ 39 ∧
  ∀ (v : V) (z' : Nat) (o : HO), v ∈ xs → z' ≤ z + 1 → StrAt (upd H a o) a z' → Q v (upd H a o)
theorem ok_pick (T : Txt w K mg) : Cal P w K mg base 2 "_law_pick" spPick := by
  have C_law_draw : Cal P w K mg base 1 "_law_draw" spDraw := ok_draw T
  refine cal_mk T.f_law_pick bd_law_pick sc_law_pick (fun vs H Q E h => ?_) (fun f cdv A outer s H vs Q E hr h => ?_)
  · obtain ⟨a, t, xs, z, rfl, _⟩ := h; rfl
  · obtain ⟨a, t, xs, z, rfl, st, ht, hta, hne, hl, hz, k⟩ := h
    have hp : 0 < xs.length := List.length_pos_iff.mpr hne
    refine ⟨_, (pss_one (ps_ret (pe_ix ix_list (pv 1) (pe_cl C_law_draw hr (by omega) rfl (pa_cons (pv 0) (pa_cons (pe_callB call_len (by rfl) T.n_len (by decide +kernel) (pa_cons (pv 1) pa_nil)) pa_nil))) (fun _ _ => rfl)))), ?_⟩
    walk_at "zz"
    refine ⟨_, _, rfl, .inl ⟨_, SqL.of ht, rfl⟩, ?_⟩
    walk_at "zz"
    refine ⟨a, _, z, rfl, st, by omega, by omega, by omega, fun d z' o hd hz' st' => ?_⟩
    have hd' : d < xs.length := by omega
    refine ⟨t, xs, _, xs[d], rfl, rfl, SqL.of (by rw [upd_ne hta]; exact ht), atI_nat (List.getElem?_eq_getElem hd'), ?_⟩
    exact k _ z' o (List.getElem_mem hd') hz' st'
def atoms6 : List Fm := [.letter "p", .letter "q", .letter "word", .act "me" "him", .act "him" "me", .act "him" "abe"]
theorem At2 {K : PySem.W.Frag} {H : Hp} {a : Addr} {x y : Str} (h : Tp K H a [.str x, .str y]) : At K H (.ref a) (.tuple [.str x, .str y]) := .tup h (.cons (.str x) (.cons (.str y) .nil))
theorem At3 {K : PySem.W.Frag} {H : Hp} {a : Addr} {x y u : Str} (h : Tp K H a [.str x, .str y, .str u]) : At K H (.ref a) (.tuple [.str x, .str y, .str u]) := .tup h (.cons (.str x) (.cons (.str y) (.cons (.str u) .nil)))
theorem At1 {K : PySem.W.Frag} {H : Hp} {a : Addr} {x : Str} (h : Tp K H a [.str x]) : At K H (.ref a) (.tuple [.str x]) := .tup h (.cons (.str x) .nil)
def spAtoms (K : PySem.W.Frag) : Sp := fun vs H Q _ => vs = [] ∧ ∀ p H' ws, H p = none → Same H H' → H' p = some (.lst ws) → AtAll K H' ws (atoms6.map Fm.d) → Q (.ref p) H'
theorem ok_atoms (T : Txt w K mg) : Cal P w K mg base 1 "_law_atoms" (spAtoms K) := by
  refine cal_mk T.f_law_atoms bd_law_atoms sc_law_atoms (fun vs H Q E h => ?_) (fun f cdv A outer s H vs Q E hr h => ?_)
  · obtain ⟨rfl, _⟩ := h; rfl
  · obtain ⟨rfl, k⟩ := h
    refine ⟨_, (pss_cons (ps_set (i := 0) sc_law_atoms.nd rfl (Or.inl rfl) (pe_lst (pa_cons (pe_tup (pa_cons pe_str (pa_cons pe_str pa_nil))) (pa_cons (pe_tup (pa_cons pe_str (pa_cons pe_str pa_nil))) (pa_cons (pe_tup (pa_cons pe_str (pa_cons pe_str pa_nil))) (pa_cons (pe_tup (pa_cons pe_str (pa_cons pe_str (pa_cons pe_str pa_nil)))) pa_nil))))))
      (pss_one (ps_ret (pe_op op_cat (pv 0) (pe_lst (pa_cons (pe_tup (pa_cons pe_str (pa_cons pe_str (pa_cons pe_str pa_nil)))) (pa_cons (pe_tup (pa_cons pe_str (pa_cons pe_str (pa_cons pe_str pa_nil)))) pa_nil))))))), ?_⟩
    walk_at "zz"
    refine ⟨by show 2 ≤ sizeLine; decide, fun p1 h1 => ?_⟩
    walk_at "zz"
    refine ⟨by show 2 ≤ sizeLine; decide, fun p2 h2 => ?_⟩
    walk_at "zz"
    refine ⟨by show 2 ≤ sizeLine; decide, fun p3 h3 => ?_⟩
    walk_at "zz"
    refine ⟨by show 3 ≤ sizeLine; decide, fun p4 h4 => ?_⟩
    walk_at "zz"
    refine ⟨by show 4 ≤ sizeLine; decide, fun l hl => ?_⟩
    walk_at "zz"
    refine ⟨by show 3 ≤ sizeLine; decide, fun p5 h5 => ?_⟩
    walk_at "zz"
    refine ⟨by show 3 ≤ sizeLine; decide, fun p6 h6 => ?_⟩
    walk_at "zz"
    refine ⟨by show 2 ≤ sizeLine; decide, fun l2 hl2 => ?_⟩
    walk_at "zz"
    have t1 := Tp.of (K := K) (upd_same (H := H) (a := p1) (o := .tup [V.str "letter", V.str "p"]))
    have n2 := fun {a xs} (h : Tp K _ a xs) => h.new (o := .tup [V.str "letter", V.str "q"]) h2
    have n3 := fun {a xs} (h : Tp K _ a xs) => h.new (o := .tup [V.str "letter", V.str "word"]) h3
    have n4 := fun {a xs} (h : Tp K _ a xs) => h.new (o := .tup [V.str "act", V.str "me", V.str "him"]) h4
    have nl := fun {a xs} (h : Tp K _ a xs) => h.new (o := .lst [V.ref p1, V.ref p2, V.ref p3, V.ref p4]) hl
    have n5 := fun {a xs} (h : Tp K _ a xs) => h.new (o := .tup [V.str "act", V.str "him", V.str "me"]) h5
    have n6 := fun {a xs} (h : Tp K _ a xs) => h.new (o := .tup [V.str "act", V.str "him", V.str "abe"]) h6
    have nl2 := fun {a xs} (h : Tp K _ a xs) => h.new (o := .lst [V.ref p5, V.ref p6]) hl2
    refine ⟨l, l2, [V.ref p1, V.ref p2, V.ref p3, V.ref p4], [V.ref p5, V.ref p6], rfl, rfl, Same.new hl2 _ _ (Same.new h6 _ _ (Same.new h5 _ _ upd_same)), upd_same, by show 6 ≤ sizeLine; decide, fun p hp => ?_⟩
    have np := fun {a xs} (h : Tp K _ a xs) => h.new (o := .lst ([V.ref p1, V.ref p2, V.ref p3, V.ref p4] ++ [V.ref p5, V.ref p6])) hp
    have sa : Same H _ := (((((((Same.new h1).trans (Same.new h2)).trans (Same.new h3)).trans (Same.new h4)).trans (Same.new hl)).trans (Same.new h5)).trans (Same.new h6)).trans (Same.new (o := .lst [V.ref p5, V.ref p6]) hl2)
    refine k p _ _ (sa.free hp) (sa.trans (Same.new hp)) upd_same ?_
    exact .cons (At2 (np (nl2 (n6 (n5 (nl (n4 (n3 (n2 t1)))))))))
      (.cons (At2 (np (nl2 (n6 (n5 (nl (n4 (n3 (Tp.of upd_same)))))))))
      (.cons (At2 (np (nl2 (n6 (n5 (nl (n4 (Tp.of upd_same))))))))
      (.cons (At3 (np (nl2 (n6 (n5 (nl (Tp.of upd_same)))))))
      (.cons (At3 (np (nl2 (n6 (Tp.of upd_same)))))
      (.cons (At3 (np (nl2 (Tp.of upd_same)))) .nil)))))
/-- leaves that may be drawn -/
def Leaves (K : PySem.W.Frag) (H : Hp) (t : Addr) (fs : List Fm) : Prop := ∃ vs, H t = some (.lst vs) ∧ AtAll K H vs (fs.map Fm.d) ∧ fs ≠ [] ∧ fs.length < 900 ∧ ∀ f ∈ fs, f.ok = true ∧ f.size = 1
theorem Leaves.at {K : PySem.W.Frag} {H : Hp} {vs : List V} {fs : List Fm} (h : AtAll K H vs (fs.map Fm.d)) {v : V} (hv : v ∈ vs) : ∃ f ∈ fs, FAt K H v f := by
  obtain ⟨i, hi, e⟩ := List.mem_iff_getElem.mp hv
  obtain ⟨d, hd, ha⟩ := AtAll.get h i v (by rw [List.getElem?_eq_getElem hi, e])
  rw [List.getElem?_map] at hd
  cases q : fs[i]? with
  | none => rw [q] at hd; cases hd
  | some f =>
    rw [q] at hd
    have : f.d = d := Option.some.inj hd
    subst this
    exact ⟨f, List.mem_of_getElem? q, ha⟩
theorem Leaves.mono {K : PySem.W.Frag} {H H' : Hp} {t a : Addr} {z : Nat} {fs : List Fm} (st : StrAt H a z) (hta : t ≠ a) (s : SameX a H H') (h : Leaves K H t fs) : Leaves K H' t fs := by
  obtain ⟨vs, h1, h2, h3⟩ := h
  exact ⟨vs, s _ _ hta h1, AtAll.mono (st.ts s) h2, h3⟩
def spFree (K : PySem.W.Frag) (n : Nat) : Sp := fun vs H Q _ => ∃ (a t : Addr) (fs : List Fm) (m z : Nat), vs = [.ref a, .ref t, .int (m : Int)] ∧ StrAt H a z ∧ t ≠ a ∧ Leaves K H t fs ∧ fs.length ≤ 100 ∧ 1 ≤ m ∧ m < n ∧ m ≤ 1000 ∧ z + 4 * m < 2 ^ 38 ∧
  ∀ (v : V) (f : Fm) (H' : Hp) (z' : Nat), FAt K H' v f → f.ok = true → f.size ≤ m → z' ≤ z + 4 * m → StrAt H' a z' → SameX a H H' → Q v H'
theorem ok_free (T : Txt w K mg) : ∀ n : Nat, Cal P w K mg base (n + 2) "_law_free" (spFree K n)
  | 0 => (Cal.bot T.f_law_free bd_law_free (fun vs H Q E h => by obtain ⟨a, t, fs, m, z, _, _, _, _, _, _, h, _⟩ := h; omega)).mono (by omega)
  | n + 1 => by
    have C_law_draw : Cal P w K mg base 1 "_law_draw" spDraw := ok_draw T
    have C_law_pick : Cal P w K mg base 2 "_law_pick" spPick := ok_pick T
    have C_law_free : Cal P w K mg base (n + 2) "_law_free" (spFree K n) := ok_free T n
    refine cal_mk T.f_law_free bd_law_free sc_law_free (fun vs H Q E h => ?_) (fun fa cdv A outer s H vs Q E hr h => ?_)
    · obtain ⟨a, t, fs, m, z, rfl, _⟩ := h; rfl
    · obtain ⟨a, t, fs, m, z, rfl, st, hta, hL, hfl, hm1, hmn, hm, hz, k⟩ := h
      refine ⟨_, (pss_cons (ps_if (pt_cut (PW.pt (pw_or (pt_cmpR op_lt (pv 2) pe_int (nomark _)) (pw_or1 (pt_cmpR op_eq (pe_cl C_law_draw hr (by omega) rfl (pa_cons (pv 0) (pa_cons pe_int pa_nil))) pe_int (nomark _)))))) (pss_one (ps_ret (pe_cl C_law_pick hr (by omega) rfl (pa_cons (pv 0) (pa_cons (pe_cut (pe_ifExp (pt_cmpR op_eq (pe_cl C_law_draw hr (by omega) rfl (pa_cons (pv 0) (pa_cons pe_int pa_nil))) pe_int (nomark _)) (pe_op op_cat (pv 1) (pe_lst (pa_cons (pe_tup (pa_cons pe_str pa_nil)) (pa_cons (pe_tup (pa_cons pe_str pa_nil)) pa_nil)))) (pv 1))) pa_nil))))) pss_nil)
      (pss_cons (ps_set (i := 3) sc_law_free.nd rfl (Or.inl rfl) (pe_cl C_law_pick hr (by omega) rfl (pa_cons (pv 0) (pa_cons (pe_lst (pa_cons pe_str (pa_cons pe_str (pa_cons pe_str (pa_cons pe_str (pa_cons pe_str (pa_cons pe_str pa_nil))))))) pa_nil))))
      (pss_cons (ps_if (pt_cut (PW.pt (pw_or (pt_cmpR op_in_seq (pv 3) (pe_tup (pa_cons pe_str (pa_cons pe_str pa_nil))) (by rfl)) (pw_or1 (pt_cmpR op_lt (pv 2) pe_int (nomark _)))))) (pss_cons (ps_set (i := 3) sc_law_free.nd rfl (Or.inl rfl) (pe_cut (pe_ifExp (pt_cmpR op_in_seq (pv 3) (pe_tup (pa_cons pe_str (pa_cons pe_str pa_nil))) (by rfl)) (pv 3) pe_str)))
      (pss_one (ps_ret (pe_tup (pa_cons (pv 3) (pa_cons (pe_cl C_law_free hr (by omega) rfl (pa_cons (pv 0) (pa_cons (pv 1) (pa_cons (pe_op op_sub (pv 2) pe_int) pa_nil)))) pa_nil)))))) pss_nil)
      (pss_cons (ps_set (i := 4) sc_law_free.nd rfl (Or.inl rfl) (pe_op op_add pe_int (pe_cl C_law_draw hr (by omega) rfl (pa_cons (pv 0) (pa_cons (pe_op op_sub (pv 2) pe_int) pa_nil)))))
      (pss_one (ps_ret (pe_tup (pa_cons (pv 3) (pa_cons (pe_cl C_law_free hr (by omega) rfl (pa_cons (pv 0) (pa_cons (pv 1) (pa_cons (pv 4) pa_nil)))) (pa_cons (pe_cl C_law_free hr (by omega) rfl (pa_cons (pv 0) (pa_cons (pv 1) (pa_cons (pe_op op_sub (pe_op op_sub (pv 2) pe_int) (pv 4)) pa_nil)))) pa_nil)))))))))), ?_⟩
      walk_at "zz"
      refine z_midT (fun b H' => ∃ z1, z1 ≤ z + 1 ∧ StrAt H' a z1 ∧ SameX a H H' ∧ (b = false → 2 ≤ m)) ?_ ?_
      · walk_at "zz"
        refine z_dec (fun h2 => ?_) (fun h2 => ?_)
        · exact ⟨z, by omega, st, SameX.refl _ _, fun e => by cases e⟩
        · walk_at "zz"
          refine ⟨a, 8, z, rfl, st, by decide, by decide, by omega, fun d z' o hd hz' st' => ?_⟩
          walk_at "zz"
          exact ⟨z', hz', st', (SameX.refl _ _).self, fun _ => by omega⟩
      · rintro b H1 ⟨z1, hz1, st1, sx1, hb⟩
        have hL1 : Leaves K H1 t fs := hL.mono st hta sx1
        refine z_bool (fun hbt => ?_) (fun hbf => ?_)
        · walk_at "zz"
          refine z_mid (fun v H' => ∃ (u : Addr) (gs : List Fm) (z2 : Nat), v = .ref u ∧ u ≠ a ∧ Leaves K H' u gs ∧ z2 ≤ z + 2 ∧ StrAt H' a z2 ∧ SameX a H H') ?_ ?_
          · walk_at "zz"
            refine ⟨a, 4, z1, rfl, st1, by decide, by decide, by omega, fun d z2 o hd hz2 st2 => ?_⟩
            have sx2 : SameX a H (upd H1 a o) := sx1.self
            have hL2 : Leaves K (upd H1 a o) t fs := hL.mono st hta sx2
            walk_at "zz"
            refine z_dec (fun h4 => ?_) (fun h4 => ?_)
            · walk_at "zz"
              refine ⟨by show 1 ≤ sizeLine; decide, fun p1 h1 => ?_⟩
              walk_at "zz"
              refine ⟨by show 1 ≤ sizeLine; decide, fun p2 h2 => ?_⟩
              walk_at "zz"
              refine ⟨by show 2 ≤ sizeLine; decide, fun l hl => ?_⟩
              obtain ⟨vs, e1, e2, e3, e4, e5⟩ := hL2
              have sA : Same (upd H1 a o) _ := ((Same.new (o := .tup [V.str "yes"]) h1).trans (Same.new (o := .tup [V.str "no"]) h2)).trans (Same.new (o := .lst [V.ref p1, V.ref p2]) hl)
              have hvl : vs.length = fs.length := by rw [AtAll.len e2, List.length_map]
              refine ⟨t, l, vs, [V.ref p1, V.ref p2], rfl, rfl, sA _ _ e1, upd_same, ?_, fun q hq => ?_⟩
              · rw [hvl]; exact Nat.le_trans (m := 1000) (by show fs.length + 2 ≤ 1000; omega) (by decide)
              · have sB := sA.trans (Same.new (o := .lst (vs ++ [V.ref p1, V.ref p2])) hq)
                refine ⟨q, fs ++ [.yes, .no], z2, rfl, ?_, ⟨_, upd_same, ?_, by simp, ?_, ?_⟩, by omega, st2.mono sB, sx2.trans (SameX.of sB)⟩
                · exact (st2.mono sA).ne hq
                · rw [List.map_append]
                  refine AtAll.app (AtAll.mono (TS.of sB) e2) (.cons (At1 ?_) (.cons (At1 ?_) .nil))
                  · exact (((Tp.of upd_same).new h2).new hl).new hq
                  · exact ((Tp.of upd_same).new hl).new hq
                · rw [List.length_append]; show fs.length + 2 < 900; omega
                · intro f hf
                  rcases List.mem_append.mp hf with hf | hf
                  · exact e5 f hf
                  · simp at hf
                    rcases hf with rfl | rfl <;> exact ⟨rfl, rfl⟩
            · walk_at "zz"
              exact ⟨t, fs, z2, rfl, hta, hL2, by omega, st2, sx2⟩
          · rintro _ H2 ⟨u, gs, z2, rfl, hua, ⟨vs, e1, e2, e3, e4, e5⟩, hz2, st2, sx2⟩
            walk_at "zz"
            have hvl : vs.length = gs.length := by rw [AtAll.len e2, List.length_map]
            refine ⟨a, u, vs, z2, rfl, st2, e1, hua, ?_, by omega, by omega, fun v z3 o hv hz3 st3 => ?_⟩
            · intro e; rw [e] at hvl; exact e3 (List.eq_nil_of_length_eq_zero hvl.symm)
            · obtain ⟨f, hf, hfa⟩ := Leaves.at e2 hv
              obtain ⟨hok, hs1⟩ := e5 f hf
              exact k v f _ z3 (At.mono st2.tsu hfa) hok (by omega) (by omega) st3 sx2.self
        · have hm2 := hb hbf
          walk_at "zz"
          refine ⟨by show 6 ≤ sizeLine; decide, fun l hl => ?_⟩
          walk_at "zz"
          have sx1' : SameX a H (upd H1 l (.lst [V.str "box", V.str "box", V.str "not", V.str "and", V.str "or", V.str "if"])) := sx1.trans (SameX.of (Same.new hl))
          refine ⟨a, l, _, z1, rfl, st1.new hl, upd_same, st1.ne hl, by simp, by show 6 < 1000; decide, by omega, fun v z2 o hv hz2 st2 => ?_⟩
          have sx2 := sx1'.self (o := o)
          generalize upd (upd H1 l (.lst [V.str "box", V.str "box", V.str "not", V.str "and", V.str "or", V.str "if"])) a o = H2 at st2 sx2
          walk_at "zz"
          have hk : ∃ (zk : Str), v = .str zk ∧ ((∃ b, zk = unS b) ∨ ∃ o : Op2, zk = o.s) := by
            simp at hv
            rcases hv with rfl | rfl | rfl | rfl | rfl
            · exact ⟨_, rfl, .inl ⟨true, rfl⟩⟩
            · exact ⟨_, rfl, .inl ⟨false, rfl⟩⟩
            · exact ⟨_, rfl, .inr ⟨.and, rfl⟩⟩
            · exact ⟨_, rfl, .inr ⟨.or, rfl⟩⟩
            · exact ⟨_, rfl, .inr ⟨.ifs, rfl⟩⟩
          obtain ⟨zk, rfl, hzk⟩ := hk
          refine z_midT (fun b H' => Same H2 H' ∧ (b = false → 3 ≤ m ∧ ∃ o : Op2, zk = o.s)) ?_ ?_
          · walk_at "zz"
            refine ⟨by show 2 ≤ sizeLine; decide, fun p hp => ?_⟩
            refine z_inT (SqT.of upd_same) rfl rfl ?_
            walk_at "zz"
            refine z_bool (fun hi => ?_) (fun hi => ?_)
            · exact ⟨Same.new hp, fun e => by cases e⟩
            · walk_at "zz"
              refine ⟨Same.new hp, fun e => ⟨?_, ?_⟩⟩
              · have := of_decide_eq_false e; omega
              · rcases hzk with ⟨b, rfl⟩ | h
                · exfalso
                  have : inV (.str (unS b)) [V.str "box", V.str "not"] = true := by cases b <;> decide +kernel
                  rw [this] at hi; cases hi
                · exact h
          · rintro b H3 ⟨s3, hb3⟩
            have st3 := st2.mono s3
            have sx3 := sx2.trans (SameX.of s3)
            refine z_bool (fun hbt => ?_) (fun hbf2 => ?_)
            · walk_at "zz"
              refine z_mid (fun v H' => Same H3 H' ∧ ∃ b, v = .str (unS b)) ?_ ?_
              · walk_at "zz"
                refine ⟨by show 2 ≤ sizeLine; decide, fun p hp => ?_⟩
                refine z_inT (SqT.of upd_same) rfl rfl ?_
                walk_at "zz"
                refine z_bool (fun hi => ?_) (fun hi => ?_)
                · walk_at "zz"
                  refine ⟨Same.new hp, ?_⟩
                  rcases hzk with ⟨b, rfl⟩ | ⟨o, rfl⟩
                  · exact ⟨b, rfl⟩
                  · exfalso
                    have : inV (.str o.s) [V.str "box", V.str "not"] = false := by cases o <;> decide +kernel
                    rw [this] at hi; cases hi
                · walk_at "zz"
                  exact ⟨Same.new hp, true, rfl⟩
              · rintro _ H4 ⟨s4, b4, rfl⟩
                have st4 := st3.mono s4
                have sx4 := sx3.trans (SameX.of s4)
                walk_at "zz"
                refine ⟨a, t, fs, m - 1, z2, ?_, st4, hta, hL.mono st hta sx4, hfl, by omega, by omega, by omega, by omega, fun v f H5 z5 hf hok hs hz5 st5 sx5 => ?_⟩
                · show [V.ref a, V.ref t, V.int ((m : Int) - 1)] = _
                  rw [show (m : Int) - 1 = ((m - 1 : Nat) : Int) by omega]
                · walk_at "zz"
                  refine ⟨by show 2 ≤ sizeLine; decide, fun p hp => ?_⟩
                  obtain ⟨fa', xs, rfl, _⟩ := hf.open
                  exact k _ (.un b4 f) _ z5 (un_at rfl hf hp) hok (by show f.size + 1 ≤ m; omega) (by omega) (st5.new hp) ((sx4.trans sx5).trans (SameX.of (Same.new hp)))
            · obtain ⟨hm3, o4, rfl⟩ := hb3 hbf2
              walk_at "zz"
              refine ⟨a, (m : Int) - 2, z2, rfl, st3, by omega, by omega, by omega, fun d z4 o hd hz4 st4 => ?_⟩
              have sx4 : SameX a H (upd H3 a o) := sx3.self
              generalize upd H3 a o = H4 at st4 sx4
              walk_at "zz"
              refine ⟨a, t, fs, 1 + d, z4, ?_, st4, hta, hL.mono st hta sx4, hfl, by omega, by omega, by omega, by omega, fun v f H5 z5 hf hok hs hz5 st5 sx5 => ?_⟩
              · show [V.ref a, V.ref t, V.int (1 + (d : Int))] = _
                rw [show 1 + (d : Int) = ((1 + d : Nat) : Int) by omega]
              · walk_at "zz"
                have sx45 := sx4.trans sx5
                refine ⟨a, t, fs, m - 1 - (1 + d), z5, ?_, st5, hta, hL.mono st hta sx45, hfl, by omega, by omega, by omega, by omega, fun v' f' H6 z6 hf' hok' hs' hz6 st6 sx6 => ?_⟩
                · show [V.ref a, V.ref t, V.int ((m : Int) - 1 - (1 + (d : Int)))] = _
                  rw [show (m : Int) - 1 - (1 + (d : Int)) = ((m - 1 - (1 + d) : Nat) : Int) by omega]
                · walk_at "zz"
                  refine ⟨by show 3 ≤ sizeLine; decide, fun p hp => ?_⟩
                  obtain ⟨fa', xs, rfl, _⟩ := hf.open
                  obtain ⟨fa2, xs2, rfl, _⟩ := hf'.open
                  exact k _ (.bi o4 f f') _ z6 (bi_at rfl (At.mono (st5.ts sx6) hf) hf' hp) (by show (f.ok && f'.ok) = true; rw [hok, hok']; rfl) (by show f.size + f'.size + 1 ≤ m; omega) (by omega) (st6.new hp) ((sx45.trans sx6).trans (SameX.of (Same.new hp)))
end
section
variable {P : Program} {w : World} {K : PySem.W.Frag} {mg : Str → Option Value} {base : Heap}
/-! ### rows as data -/
theorem dpAll_bl {K : PySem.W.Frag} {H : Hp} : ∀ r : List Bool, DpAll K H (r.map V.bl) (r.map PyData.bool)
  | [] => .nil
  | b :: r => .cons (.bl b) (dpAll_bl r)
theorem shapedAll_bl : ∀ r : List Bool, PyData.canLayAll0 (r.map PyData.bool) = true ∧ PyData.depthAll (r.map PyData.bool) = 0
  | [] => ⟨rfl, rfl⟩
  | b :: r => by
    obtain ⟨h1, h2⟩ := shapedAll_bl r
    refine ⟨?_, ?_⟩
    · show (PyData.canLay0 (.bool b) && PyData.canLayAll0 (r.map PyData.bool)) = true
      rw [h1]; rfl
    · show max (PyData.depth (.bool b)) (PyData.depthAll (r.map PyData.bool)) = 0
      rw [h2]; rfl
theorem shaped_tbl (r : List Bool) : SeqAt.shaped (.tuple (r.map PyData.bool)) = true := by
  show (PyData.canLayAll0 (r.map PyData.bool) && decide (PyData.depthAll (r.map PyData.bool) + 1 ≤ 64)) = true
  rw [(shapedAll_bl r).1, (shapedAll_bl r).2]; rfl
theorem shaped_lbl (r : List Bool) : SeqAt.shaped (.list (r.map PyData.bool)) = true := shaped_tbl r
theorem eqv_same {d : PyData} (h : SeqAt.shaped d = true) : PyData.eqv d d = true := SeqAt.eqv_refl d (SeqAt.canLay_of_shaped h)
/-- != of the same data is False -/
theorem ne_same {K : PySem.W.Frag} {H : Hp} {Q : VK} {x y : V} {d : PyData} (hx : Dp K H x d) (hy : Dp K H y d) (hs : SeqAt.shaped d = true) (q : Q (.bl false) H) : rNeD K x y H Q :=
  ⟨d, d, hx, hy, hs, hs, by rw [eqv_same hs]; exact q⟩
theorem eq_same {K : PySem.W.Frag} {H : Hp} {Q : VK} {x y : V} {d : PyData} (hx : Dp K H x d) (hy : Dp K H y d) (hs : SeqAt.shaped d = true) (q : Q (.bl true) H) : rEqD K x y H Q :=
  ⟨d, d, hx, hy, hs, hs, by rw [eqv_same hs]; exact q⟩
theorem dpAll_int {K : PySem.W.Frag} {H : Hp} : ∀ r : List Int, DpAll K H (r.map V.int) (r.map PyData.int)
  | [] => .nil
  | b :: r => .cons (.int b) (dpAll_int r)
theorem shapedAll_int : ∀ r : List Int, PyData.canLayAll0 (r.map PyData.int) = true ∧ PyData.depthAll (r.map PyData.int) = 0
  | [] => ⟨rfl, rfl⟩
  | b :: r => by
    obtain ⟨h1, h2⟩ := shapedAll_int r
    refine ⟨?_, ?_⟩
    · show (PyData.canLay0 (.int b) && PyData.canLayAll0 (r.map PyData.int)) = true
      rw [h1]; rfl
    · show max (PyData.depth (.int b)) (PyData.depthAll (r.map PyData.int)) = 0
      rw [h2]; rfl
theorem shaped_lint (r : List Int) : SeqAt.shaped (.list (r.map PyData.int)) = true := by
  show (PyData.canLayAll0 (r.map PyData.int) && decide (PyData.depthAll (r.map PyData.int) + 1 ≤ 64)) = true
  rw [(shapedAll_int r).1, (shapedAll_int r).2]; rfl
def spLaw (K : PySem.W.Frag) : Sp := fun vs H Q _ => ∃ (a : Addr) (ns : List Int), vs = [.ref a] ∧ SqL K H a (ns.map V.int) ∧ ns.length ≤ 63 ∧ ∀ H', Q (.bl true) H'
def more5 : List Fm := [.letter "abcdefgh", .act "me" "me", .act "zoe" "him", .act "abe" "zoe", .letter "a"]
def lastF : Fm := .bi .ifs (.un true (.bi .ifs (.un true (.letter "p")) (.letter "p"))) (.un false (.act "me" "him"))
theorem okLaw (T : Txt w K mg) {f : Addr} {fd : FuncData} (F : FunD K "law" "law" (defArgs s_law) (defBody s_law) (defScope s_law) [] [] f fd) : FnOk P w K mg base L2.CX0 52 f fd ["_law_script"] (spLaw K) := by
  have C_law_stream : Cal P w K mg base 1 "_law_stream" (spStream K) := ok_stream T
  have C_law_atoms : Cal P w K mg base 1 "_law_atoms" (spAtoms K) := ok_atoms T
  have C_law_free : Cal P w K mg base 19 "_law_free" (spFree K 17) := ok_free T 17
  have C_law_text : Cal P w K mg base 20 "_law_text" (spLText K 20) := ok_ltext T 20
  have K_Saying : KCal P w K mg base 46 "Saying" (He.ga K "Saying") (spInit K) := ok_init T
  have M_Saying_form : MCal P w K mg base 1 (He.ga K "Saying") "form" (spForm K) := ok_form T
  have M_Saying_text : MCal P w K mg base 42 (He.ga K "Saying") "text" (spSText K) := ok_stext T
  have X_Saying_read : CCal P w K mg base 48 (He.ga K "Saying") "read" (spRead K) := ok_read T
  refine F.ok sc_law (fun vs H Q E h => ?_) (fun cdv A outer s H vs Q E hr h => ?_)
  · obtain ⟨a, ns, rfl, _⟩ := h; rfl
  · obtain ⟨a, ns, rfl, hS, hlen, k⟩ := h
    refine ⟨_, PSs.nox (pss_cons (ps_for PassesOwn.never rfl (pi_range1 (by rfl) T.n_range (pa_cons pe_int pa_nil)) (pg_name (i := 1) sc_law.nd rfl (Or.inl rfl)) (pss_cons (ps_set (i := 2) sc_law.nd rfl (Or.inl rfl) (pe_cl C_law_stream hr (by omega) rfl (pa_cons (pv 0) (pa_cons (pv 1) pa_nil))))
      (pss_cons (ps_set (i := 3) sc_law.nd rfl (Or.inl rfl) (pe_lst (pa_cons (pe_tup (pa_cons pe_str (pa_cons pe_str pa_nil))) (pa_cons (pe_tup (pa_cons pe_str (pa_cons pe_str (pa_cons pe_str pa_nil)))) (pa_cons (pe_tup (pa_cons pe_str (pa_cons pe_str (pa_cons pe_str pa_nil)))) pa_nil)))))
      (pss_cons (ps_expr (pe_bm PySem.F.plainAttrs_list PySem.F.slot_list_extend PySem.F.type_list_extend mt_extend (pv 3) (pa_cons (pe_lst (pa_cons (pe_tup (pa_cons pe_str (pa_cons pe_str (pa_cons pe_str pa_nil)))) (pa_cons (pe_tup (pa_cons pe_str (pa_cons pe_str pa_nil))) pa_nil))) pa_nil)))
      (pss_cons (ps_set (i := 4) sc_law.nd rfl (Or.inl rfl) (pe_cl C_law_free hr (by omega) rfl (pa_cons (pv 2) (pa_cons (pe_op op_cat (pe_cl0 C_law_atoms hr (by omega) rfl) (pv 3)) (pa_cons pe_int pa_nil)))))
      (pss_cons (ps_set (i := 5) sc_law.nd rfl (Or.inl rfl) (pe_ml0 M_Saying_text hr (by omega) (pe_kl K_Saying hr (by omega) rfl (pa_cons (pv 4) pa_nil))))
      (pss_one (ps_if (PW.pt (pw_or (pt_cmpR op_ne (pv 5) (pe_cl C_law_text hr (by omega) rfl (pa_cons (pv 4) pa_nil)) (nomark _)) (pw_or (pt_cmpR (op_neD hr.units) (pe_ml0 M_Saying_form hr (by omega) (pe_cml X_Saying_read hr (by omega) (pe_gr rfl T.g_Saying) (pa_cons (pv 5) pa_nil))) (pv 4) (nomark _)) (pw_or1 (pt_cmpR op_ne (pe_ml0 M_Saying_text hr (by omega) (pe_cml X_Saying_read hr (by omega) (pe_gr rfl T.g_Saying) (pa_cons (pv 5) pa_nil))) (pv 5) (nomark _)))))) (pss_one (ps_ret pe_bl)) pss_nil))))))))
      (pss_one (ps_ret (pe_cmpR (op_eqD hr.units) (pe_ix ix_tup (pe_ml0 M_Saying_form hr (by omega) (pe_cml X_Saying_read hr (by omega) (pe_gr rfl T.g_Saying) (pa_cons pe_str pa_nil))) pe_int (fun _ _ => rfl)) (pe_tup (pa_cons pe_str (pa_cons (pe_tup (pa_cons pe_str (pa_cons pe_str (pa_cons pe_str pa_nil)))) pa_nil))) (nomark _))))), ?_⟩
    walk_at "zz"
    refine ⟨8, rfl, by decide, by decide, for_range (lo := 0) (n := 8) (fun i σ' H' => Same H H' ∧ ∃ v1 v2 v3 v4 v5 : Option V, σ' = [some (.ref a), v1, v2, v3, v4, v5]) ⟨Same.refl _, _, _, _, _, _, rfl⟩ ?_ ?_⟩
    · rintro i _ H2 hi ⟨s2, v1, v2, v3, v4, v5, rfl⟩
      walk_at "zz"
      refine ⟨a, ns, _, rfl, s2.seq hS, by omega, by omega, fun p H3 hp s3 st3 => ?_⟩
      walk_at "zz"
      refine ⟨by show 2 ≤ sizeLine; decide, fun t1 ht1 => ?_⟩
      have n1 := Same.new (o := .tup [V.str "letter", V.str "abcdefgh"]) ht1
      have m1 : FAt K _ (.ref t1) (.letter "abcdefgh") := At2 (Tp.of (upd_same (H := H3) (a := t1)))
      generalize upd H3 t1 (.tup [V.str "letter", V.str "abcdefgh"]) = G1 at n1 m1
      walk_at "zz"
      refine ⟨by show 3 ≤ sizeLine; decide, fun t2 ht2 => ?_⟩
      have n2 := Same.new (o := .tup [V.str "act", V.str "me", V.str "me"]) ht2
      have m2 : FAt K _ (.ref t2) (.act "me" "me") := At3 (Tp.of (upd_same (H := G1) (a := t2)))
      generalize upd G1 t2 (.tup [V.str "act", V.str "me", V.str "me"]) = G2 at n2 m2
      walk_at "zz"
      refine ⟨by show 3 ≤ sizeLine; decide, fun t3 ht3 => ?_⟩
      have n3 := Same.new (o := .tup [V.str "act", V.str "zoe", V.str "him"]) ht3
      have m3 : FAt K _ (.ref t3) (.act "zoe" "him") := At3 (Tp.of (upd_same (H := G2) (a := t3)))
      generalize upd G2 t3 (.tup [V.str "act", V.str "zoe", V.str "him"]) = G3 at n3 m3
      walk_at "zz"
      refine ⟨by show 3 ≤ sizeLine; decide, fun lm hlm => ?_⟩
      have n4 := Same.new (o := .lst [V.ref t1, V.ref t2, V.ref t3]) hlm
      have hlm4 : (upd G3 lm (.lst [V.ref t1, V.ref t2, V.ref t3])) lm = some (.lst [V.ref t1, V.ref t2, V.ref t3]) := upd_same
      generalize upd G3 lm (.lst [V.ref t1, V.ref t2, V.ref t3]) = G4 at n4 hlm4
      walk_at "zz"
      refine ⟨_, rfl, .inl ⟨rfl, _, SqL.of hlm4⟩, ?_⟩
      walk_at "zz"
      refine ⟨by show 3 ≤ sizeLine; decide, fun t4 ht4 => ?_⟩
      have n5 := Same.new (o := .tup [V.str "act", V.str "abe", V.str "zoe"]) ht4
      have m4 : FAt K _ (.ref t4) (.act "abe" "zoe") := At3 (Tp.of (upd_same (H := G4) (a := t4)))
      generalize upd G4 t4 (.tup [V.str "act", V.str "abe", V.str "zoe"]) = G5 at n5 m4
      walk_at "zz"
      refine ⟨by show 2 ≤ sizeLine; decide, fun t5 ht5 => ?_⟩
      have n6 := Same.new (o := .tup [V.str "letter", V.str "a"]) ht5
      have m5 : FAt K _ (.ref t5) (.letter "a") := At2 (Tp.of (upd_same (H := G5) (a := t5)))
      generalize upd G5 t5 (.tup [V.str "letter", V.str "a"]) = G6 at n6 m5
      walk_at "zz"
      refine ⟨by show 2 ≤ sizeLine; decide, fun l2 hl2 => ?_⟩
      have n7 := Same.new (o := .lst [V.ref t4, V.ref t5]) hl2
      have hl27 : (upd G6 l2 (.lst [V.ref t4, V.ref t5])) l2 = some (.lst [V.ref t4, V.ref t5]) := upd_same
      generalize upd G6 l2 (.lst [V.ref t4, V.ref t5]) = G7 at n7 hl27
      have hlm7 := n7 _ _ (n6 _ _ (n5 _ _ hlm4))
      refine ⟨lm, l2, _, _, rfl, rfl, hlm7, hl27, by show 5 ≤ sizeLine; decide, ?_⟩
      have tsE : TS G7 (upd G7 lm (.lst ([V.ref t1, V.ref t2, V.ref t3] ++ [V.ref t4, V.ref t5]))) := fun b ys q => by rw [upd_ne (fun z => by rw [z, hlm7] at q; cases q)]; exact q
      have hlm3 : H3 lm = none := (n1.trans (n2.trans n3)).free hlm
      have s7 : Same H3 (upd G7 lm (.lst ([V.ref t1, V.ref t2, V.ref t3] ++ [V.ref t4, V.ref t5]))) := Same.upd (n1.trans (n2.trans (n3.trans (n4.trans (n5.trans (n6.trans n7)))))) hlm3
      have hm : AtAll K (upd G7 lm (.lst ([V.ref t1, V.ref t2, V.ref t3] ++ [V.ref t4, V.ref t5]))) [V.ref t1, V.ref t2, V.ref t3, V.ref t4, V.ref t5] (more5.map Fm.d) :=
        AtAll.mono tsE (.cons (At.mono (TS.of (n2.trans (n3.trans (n4.trans (n5.trans (n6.trans n7)))))) m1) (.cons (At.mono (TS.of (n3.trans (n4.trans (n5.trans (n6.trans n7))))) m2) (.cons (At.mono (TS.of (n4.trans (n5.trans (n6.trans n7)))) m3) (.cons (At.mono (TS.of (n6.trans n7)) m4) (.cons (At.mono (TS.of n7) m5) .nil)))))
      have hlm8 : (upd G7 lm (.lst ([V.ref t1, V.ref t2, V.ref t3] ++ [V.ref t4, V.ref t5]))) lm = some (.lst [V.ref t1, V.ref t2, V.ref t3, V.ref t4, V.ref t5]) := upd_same
      generalize upd G7 lm (.lst ([V.ref t1, V.ref t2, V.ref t3] ++ [V.ref t4, V.ref t5])) = G8 at s7 hm hlm8
      clear m1 m2 m3 m4 m5 n1 n2 n3 n4 n5 n6 n7 tsE hlm7 hlm4 hl27
      walk_at "zz"
      refine ⟨rfl, fun pa H9 ws hpa s9 hpa' hat => ?_⟩
      walk_at "zz"
      have hwl : ws.length = 6 := AtAll.len hat
      refine ⟨pa, lm, _, _, rfl, rfl, hpa', s9 _ _ hlm8, by rw [hwl]; show 11 ≤ sizeLine; decide, fun pc hpc => ?_⟩
      have s10 := s9.trans (Same.new (o := .lst (ws ++ [V.ref t1, V.ref t2, V.ref t3, V.ref t4, V.ref t5])) hpc)
      have hL : Leaves K (upd H9 pc (.lst (ws ++ [V.ref t1, V.ref t2, V.ref t3, V.ref t4, V.ref t5]))) pc (atoms6 ++ more5) := by
        refine ⟨_, upd_same, ?_, by simp [atoms6], by decide, ?_⟩
        · rw [List.map_append]
          exact AtAll.app (AtAll.mono (TS.of (Same.new hpc)) hat) (AtAll.mono (TS.of s10) hm)
        · intro g hg
          simp [atoms6, more5] at hg
          rcases hg with rfl | rfl | rfl | rfl | rfl | rfl | rfl | rfl | rfl | rfl | rfl <;> exact ⟨by decide +kernel, rfl⟩
      have st10 := StrAt.mono (s7.trans s10) st3
      have hpcp : pc ≠ p := StrAt.ne (StrAt.mono (s7.trans s9) st3) hpc
      generalize upd H9 pc (.lst (ws ++ [V.ref t1, V.ref t2, V.ref t3, V.ref t4, V.ref t5])) = H10 at s10 hL st10
      walk_at "zz"
      refine ⟨p, pc, _, 16, 0, rfl, st10, hpcp, hL, by decide, by decide, by decide, by decide, by decide, fun fv g H11 z11 hg hok hgs hz11 st11 sx11 => ?_⟩
      have hgd := g.dep_le
      have s211 : Same H2 H11 := SameX.same ((SameX.of (s3.trans (s7.trans s10))).trans sx11) hp
      walk_at "zz"
      refine new_say1 hg.dp (Lo.self g) hok (by omega) (by omega) fun one H12 h12 s12 hone => ?_
      have hg12 : FAt K H12 fv g := At.mono (TS.of s12) hg
      obtain ⟨dx1, p1, l1, ws1, i1, j1, _⟩ := id hone
      walk_at "zz"
      refine ⟨one, _, _, rfl, i1, say_no _ _ (by decide +kernel) (by decide +kernel), ?_⟩
      walk_at "zz"
      refine ⟨one, g, rfl, hone, hok, by omega, by omega, fun H13 s13 => ?_⟩
      walk_at "zz"
      refine ⟨fv, g, rfl, At.mono (TS.of s13) hg12, hok, by omega, by omega, fun H14 s14 => ?_⟩
      walk_at "zz"
      refine z_false (by simp) ?_
      walk_at "zz"
      refine ⟨rfl, ?_⟩
      walk_at "zz"
      refine ⟨g, rfl, hok, by omega, by omega, fun two H15 h15 s15 htwo => ?_⟩
      obtain ⟨dx2, p2, l2', ws2, i2, j2, _⟩ := id htwo
      refine ⟨two, _, _, rfl, i2, say_no _ _ (by decide +kernel) (by decide +kernel), ?_⟩
      walk_at "zz"
      refine ⟨two, g, rfl, htwo, fun q1 hq1 => ?_⟩
      walk_at "zz"
      refine ne_same (At.dp hq1) (At.dp (At.mono (TS.of (s13.trans (s14.trans s15))) hg12)) (Fm.shaped hok (by omega)) ?_
      walk_at "zz"
      refine ⟨rfl, ?_⟩
      walk_at "zz"
      refine ⟨g, rfl, hok, by omega, by omega, fun thr H16 h16 s16 hthr => ?_⟩
      obtain ⟨dx3, p3, l3, ws3, i3, j3, _⟩ := id hthr
      refine ⟨thr, _, _, rfl, i3, say_no _ _ (by decide +kernel) (by decide +kernel), ?_⟩
      walk_at "zz"
      refine ⟨thr, g, rfl, hthr, hok, by omega, by omega, fun H17 s17 => ?_⟩
      walk_at "zz"
      refine z_false (by simp) ?_
      walk_at "zz"
      exact ⟨s2.trans (s211.trans (s12.trans (s13.trans (s14.trans (s15.trans (s16.trans s17)))))), _, _, _, _, _, rfl⟩
    · rintro _ H2 ⟨s2, v1, v2, v3, v4, v5, rfl⟩
      walk_at "zz"
      refine ⟨rfl, ?_⟩
      walk_at "zz"
      refine ⟨lastF, by rw [show lastF.str = ("(#(#p > p) > ~me-him)" : Str) from by decide +kernel], by decide +kernel, by decide, by decide, fun one H3 h3 s3 hone => ?_⟩
      obtain ⟨dx1, p1, l1, ws1, i1, j1, _⟩ := id hone
      refine ⟨one, _, _, rfl, i1, say_no _ _ (by decide +kernel) (by decide +kernel), ?_⟩
      walk_at "zz"
      refine ⟨one, _, rfl, hone, fun q hq => ?_⟩
      walk_at "zz"
      obtain ⟨aq, xq, e, hT, hA⟩ := hq.open
      cases e
      cases hA with
      | @cons w0 r0 _ _ h0 hA =>
      cases hA with
      | @cons w1 r1 _ _ h1 hA =>
      cases hA with
      | @cons w2 r2 _ _ h2 hA =>
      refine ⟨q, _, _, _, rfl, rfl, hT.sq, atI_nat (j := 2) rfl, ?_⟩
      walk_at "zz"
      refine ⟨by show 3 ≤ sizeLine; decide, fun t1 ht1 => ?_⟩
      walk_at "zz"
      refine ⟨by show 2 ≤ sizeLine; decide, fun t2 ht2 => ?_⟩
      have m1 : FAt K _ (.ref t1) (.act "me" "him") := At3 (Tp.of (upd_same (H := H3) (a := t1)))
      have m2 := un_at (b := false) rfl m1 ht2
      exact eq_same (At.dp (At.mono (TS.of ((Same.new ht1).trans (Same.new ht2))) h2)) (At.dp m2) (Fm.shaped (f := .un false (.act "me" "him")) (by decide +kernel) (by decide)) (k _)
end
def dd_is_word : He.DefD := ⟨("is_word", none), "is_word", "is_word", defArgs s_is_word, defBody s_is_word, defScope s_is_word, [], []⟩
def dd_is_name : He.DefD := ⟨("is_name", none), "is_name", "is_name", defArgs s_is_name, defBody s_is_name, defScope s_is_name, [], []⟩
def dd_is_role : He.DefD := ⟨("is_role", none), "is_role", "is_role", defArgs s_is_role, defBody s_is_role, defScope s_is_role, [], []⟩
def dd_wrong_path : He.DefD := ⟨("wrong_path", none), "wrong_path", "wrong_path", defArgs s_wrong_path, defBody s_wrong_path, defScope s_wrong_path, [], []⟩
def dd_tuples : He.DefD := ⟨("tuples", none), "tuples", "tuples", defArgs s_tuples, defBody s_tuples, defScope s_tuples, [], []⟩
def dd_form_text : He.DefD := ⟨("form_text", none), "form_text", "form_text", defArgs s_form_text, defBody s_form_text, defScope s_form_text, [], []⟩
def dd_inner_forms : He.DefD := ⟨("inner_forms", none), "inner_forms", "inner_forms", defArgs s_inner_forms, defBody s_inner_forms, defScope s_inner_forms, [], []⟩
def dd_all_parts : He.DefD := ⟨("all_parts", none), "all_parts", "all_parts", defArgs s_all_parts, defBody s_all_parts, defScope s_all_parts, [], []⟩
def dd_Saying_init : He.DefD := ⟨("Saying", some "__init__"), "__init__", "Saying.__init__", defArgs s_Saying_init, defBody s_Saying_init, defScope s_Saying_init, [], []⟩
def dd_Saying_form : He.DefD := ⟨("Saying", some "form"), "form", "Saying.form", defArgs s_Saying_form, defBody s_Saying_form, defScope s_Saying_form, [], []⟩
def dd_Saying_text : He.DefD := ⟨("Saying", some "text"), "text", "Saying.text", defArgs s_Saying_text, defBody s_Saying_text, defScope s_Saying_text, [], []⟩
def dd_Saying_len : He.DefD := ⟨("Saying", some "__len__"), "__len__", "Saying.__len__", defArgs s_Saying_len, defBody s_Saying_len, defScope s_Saying_len, [], []⟩
def dd_word_end : He.DefD := ⟨("word_end", none), "word_end", "word_end", defArgs s_word_end, defBody s_word_end, defScope s_word_end, [], []⟩
def dd_read_word : He.DefD := ⟨("read_word", none), "read_word", "read_word", defArgs s_read_word, defBody s_read_word, defScope s_read_word, [], []⟩
def dd_read_pair : He.DefD := ⟨("read_pair", none), "read_pair", "read_pair", defArgs s_read_pair, defBody s_read_pair, defScope s_read_pair, [], []⟩
def dd_read_form : He.DefD := ⟨("read_form", none), "read_form", "read_form", defArgs s_read_form, defBody s_read_form, defScope s_read_form, [], []⟩
def dd_law_stream : He.DefD := ⟨("_law_stream", none), "_law_stream", "_law_stream", defArgs s_law_stream, defBody s_law_stream, defScope s_law_stream, [], []⟩
def dd_law_draw : He.DefD := ⟨("_law_draw", none), "_law_draw", "_law_draw", defArgs s_law_draw, defBody s_law_draw, defScope s_law_draw, [], []⟩
def dd_law_pick : He.DefD := ⟨("_law_pick", none), "_law_pick", "_law_pick", defArgs s_law_pick, defBody s_law_pick, defScope s_law_pick, [], []⟩
def dd_law_text : He.DefD := ⟨("_law_text", none), "_law_text", "_law_text", defArgs s_law_text, defBody s_law_text, defScope s_law_text, [], []⟩
def dd_law_atoms : He.DefD := ⟨("_law_atoms", none), "_law_atoms", "_law_atoms", defArgs s_law_atoms, defBody s_law_atoms, defScope s_law_atoms, [], []⟩
def dd_law_free : He.DefD := ⟨("_law_free", none), "_law_free", "_law_free", defArgs s_law_free, defBody s_law_free, defScope s_law_free, [], []⟩
def dd_law : He.DefD := ⟨("law", none), "law", "law", defArgs s_law, defBody s_law, defScope s_law, [], []⟩
def fn : List He.DefD := [dd_is_word, dd_is_name, dd_is_role, dd_wrong_path, dd_tuples, dd_form_text, dd_inner_forms, dd_all_parts, dd_Saying_init, dd_Saying_form, dd_Saying_text, dd_Saying_len, dd_word_end, dd_read_word, dd_read_pair, dd_read_form, dd_law_stream, dd_law_draw, dd_law_pick, dd_law_text, dd_law_atoms, dd_law_free, dd_law]
def fa0 : List He.Fa := [.free "len", .free "range", .free "abs", .free "all", .free "isinstance", .free "int", .free "str", .free "list", .free "tuple", .glo "is_word", .glo "is_name", .glo "is_role", .glo "wrong_path", .glo "tuples", .glo "form_text", .glo "inner_forms", .glo "all_parts", .glo "word_end", .glo "read_word", .glo "read_pair", .glo "read_form", .glo "_law_stream", .glo "_law_draw", .glo "_law_pick", .glo "_law_text"]
def fa1 : List He.Fa := [.glo "_law_atoms", .glo "_law_free", .glo "law", .glo "SIZES", .glo "SIGNS", .glo "KINDS", .glo "RESERVED", .str "LETTERS" "abcdefghijklmnopqrstuvwxyz", .int "DEEPEST" 400, .glo "Saying", .cls "Saying", .mkr "Saying", .noat "Saying" "kept", .noat "Saying" "parts", .meth "Saying" "__init__", .meth "Saying" "form", .meth "Saying" "text", .meth "Saying" "__len__"]
def fa : List He.Fa := fa0 ++ fa1
def tbs : List He.Tab := [(fun K => He.ga K "SIZES", ["yes", "no", "letter", "act", "not", "and", "or", "if", "box"]), (fun K => He.ga K "SIGNS", ["and", "or", "if"]), (fun K => He.ga K "KINDS", ["&", "|", ">"])]
def exl (K : PySem.W.Frag) : List Bool := [entB K (He.ga K "SIZES") [("yes", .int 0), ("no", .int 0), ("letter", .int 1), ("act", .int 2), ("not", .int 1), ("and", .int 2), ("or", .int 2), ("if", .int 2), ("box", .int 1)], entB K (He.ga K "SIGNS") [("and", .str "&"), ("or", .str "|"), ("if", .str ">")], entB K (He.ga K "KINDS") [("&", .str "and"), ("|", .str "or"), (">", .str "if")], He.tupB K "RESERVED" [.str "yes", .str "no", .str "me", .str "him", .str "x"], He5.wrapB K (He.ga K "Saying") "classmethod" "classmethod.__get__" "read" && (PySem.W.fnIn K (He5.wf K (He.ga K "Saying") "classmethod" "read") && (PySem.W.readsIn K (He.ga K "Saying") (.type "type") && He.eqO (PySem.W.specialIn K (.ref (He.ga K "Saying")) "__getattribute__") (some (some (.builtin "type.__getattribute__"))))), PySem.W.selfFirst K (He.ga K "Saying")]
def exf (K : PySem.W.Frag) : Bool := (exl K).all id
theorem ex_ok {K : PySem.W.Frag} (i : Nat) (h : exf K = true) {b : Bool} (e : (exl K)[i]? = some b := by rfl) : b = true := List.all_eq_true.mp h b (List.mem_of_getElem? e)
def da : List He5.DefA := [⟨fun K => He5.wf K (He.ga K "Saying") "classmethod" "read", "read", "Saying.read", defArgs s_Saying_read, defBody s_Saying_read, defScope s_Saying_read, [], []⟩]
abbrev RR : PySem.W.OpenRow := PySem.W.OpenLaw.row PySem.Challenge.rw_boxfall_k04_texts_of_sayings
abbrev hk : PySem.W.Hook := hookY 6 fa fn tbs da exf
def ob (s : PySem.W.SharedT) : AlY := obsY 6 fa fn tbs da exf (HandSHeadRun.getT s)
theorem ob_eq (s : PySem.W.SharedT) : ob s = hk.obs s.abs := obsY_eq (HandSHeadRun.getT_eq s)
def nm0 : List Str := ["_wall", "BoxError", "BadForm", "BadText", "SIZES", "SIGNS", "KINDS", "RESERVED", "LETTERS", "DEEPEST", "is_word", "is_name", "is_role", "wrong_path", "tuples", "form_text", "inner_forms", "all_parts", "Saying", "word_end", "read_word", "read_pair", "read_form", "_law_stream", "_law_draw", "_law_pick", "_law_text", "_law_inner", "_law_all", "_law_atoms"]
def nm1 : List Str := ["_law_free"]
def nms : List Str := nm0 ++ nm1
theorem runF (w : World) : HandSHeadRun.RunEq RR (PySem.W.view RR.prog [34]) hk ob 6000 nms (w.withFollow "special-get-raises" false) := by
  intro os
  kernel_rfl
theorem runT (w : World) : HandSHeadRun.RunEq RR (PySem.W.view RR.prog [34]) hk ob 6000 nms (w.withFollow "special-get-raises" true) := by
  intro os
  kernel_rfl
theorem run (w : World) : HandSHeadRun.RunEq RR (PySem.W.view RR.prog [34]) hk ob 6000 nms w := PySem.W.byRow2 "special-get-raises" (P := fun w => HandSHeadRun.RunEq RR (PySem.W.view RR.prog [34]) hk ob 6000 nms w) runF runT w
theorem fmem {f : He.Fa} (i : Nat) (e : fa[i]? = some f := by rfl) : f ∈ fa := List.mem_of_getElem? e
theorem dmem {f : He.DefD} (i : Nat) (e : fn[i]? = some f := by rfl) : f ∈ fn := List.mem_of_getElem? e
theorem txt_of {w : World} {K : PySem.W.Frag} {h : Heap} {mg : Str → Option Value} (X : K.In h) (G : h.Ns mainGlobals mg) (c : SaysY fa fn tbs da exf w K) : Txt w K mg where
  n_len := He.free_ok X G (c.t.d.facts (f := .free "len") (fmem 0))
  n_range := He.free_ok X G (c.t.d.facts (f := .free "range") (fmem 1))
  n_abs := He.free_ok X G (c.t.d.facts (f := .free "abs") (fmem 2))
  n_all := He.free_ok X G (c.t.d.facts (f := .free "all") (fmem 3))
  n_isinstance := He.free_ok X G (c.t.d.facts (f := .free "isinstance") (fmem 4))
  n_int := He.free_ok X G (c.t.d.facts (f := .free "int") (fmem 5))
  n_str := He.free_ok X G (c.t.d.facts (f := .free "str") (fmem 6))
  n_list := He.free_ok X G (c.t.d.facts (f := .free "list") (fmem 7))
  n_tuple := He.free_ok X G (c.t.d.facts (f := .free "tuple") (fmem 8))
  f_is_word := ⟨_, _, (c.t.d.defs (d := dd_is_word) (dmem 0)).choose_spec, He.glo_ok X G (c.t.d.facts (f := .glo "is_word") (fmem 9))⟩
  f_is_name := ⟨_, _, (c.t.d.defs (d := dd_is_name) (dmem 1)).choose_spec, He.glo_ok X G (c.t.d.facts (f := .glo "is_name") (fmem 10))⟩
  f_is_role := ⟨_, _, (c.t.d.defs (d := dd_is_role) (dmem 2)).choose_spec, He.glo_ok X G (c.t.d.facts (f := .glo "is_role") (fmem 11))⟩
  f_wrong_path := ⟨_, _, (c.t.d.defs (d := dd_wrong_path) (dmem 3)).choose_spec, He.glo_ok X G (c.t.d.facts (f := .glo "wrong_path") (fmem 12))⟩
  f_tuples := ⟨_, _, (c.t.d.defs (d := dd_tuples) (dmem 4)).choose_spec, He.glo_ok X G (c.t.d.facts (f := .glo "tuples") (fmem 13))⟩
  f_form_text := ⟨_, _, (c.t.d.defs (d := dd_form_text) (dmem 5)).choose_spec, He.glo_ok X G (c.t.d.facts (f := .glo "form_text") (fmem 14))⟩
  f_inner_forms := ⟨_, _, (c.t.d.defs (d := dd_inner_forms) (dmem 6)).choose_spec, He.glo_ok X G (c.t.d.facts (f := .glo "inner_forms") (fmem 15))⟩
  f_all_parts := ⟨_, _, (c.t.d.defs (d := dd_all_parts) (dmem 7)).choose_spec, He.glo_ok X G (c.t.d.facts (f := .glo "all_parts") (fmem 16))⟩
  f_word_end := ⟨_, _, (c.t.d.defs (d := dd_word_end) (dmem 12)).choose_spec, He.glo_ok X G (c.t.d.facts (f := .glo "word_end") (fmem 17))⟩
  f_read_word := ⟨_, _, (c.t.d.defs (d := dd_read_word) (dmem 13)).choose_spec, He.glo_ok X G (c.t.d.facts (f := .glo "read_word") (fmem 18))⟩
  f_read_pair := ⟨_, _, (c.t.d.defs (d := dd_read_pair) (dmem 14)).choose_spec, He.glo_ok X G (c.t.d.facts (f := .glo "read_pair") (fmem 19))⟩
  f_read_form := ⟨_, _, (c.t.d.defs (d := dd_read_form) (dmem 15)).choose_spec, He.glo_ok X G (c.t.d.facts (f := .glo "read_form") (fmem 20))⟩
  f_law_stream := ⟨_, _, (c.t.d.defs (d := dd_law_stream) (dmem 16)).choose_spec, He.glo_ok X G (c.t.d.facts (f := .glo "_law_stream") (fmem 21))⟩
  f_law_draw := ⟨_, _, (c.t.d.defs (d := dd_law_draw) (dmem 17)).choose_spec, He.glo_ok X G (c.t.d.facts (f := .glo "_law_draw") (fmem 22))⟩
  f_law_pick := ⟨_, _, (c.t.d.defs (d := dd_law_pick) (dmem 18)).choose_spec, He.glo_ok X G (c.t.d.facts (f := .glo "_law_pick") (fmem 23))⟩
  f_law_text := ⟨_, _, (c.t.d.defs (d := dd_law_text) (dmem 19)).choose_spec, He.glo_ok X G (c.t.d.facts (f := .glo "_law_text") (fmem 24))⟩
  f_law_atoms := ⟨_, _, (c.t.d.defs (d := dd_law_atoms) (dmem 20)).choose_spec, He.glo_ok X G (c.t.d.facts (f := .glo "_law_atoms") (fmem 25))⟩
  f_law_free := ⟨_, _, (c.t.d.defs (d := dd_law_free) (dmem 21)).choose_spec, He.glo_ok X G (c.t.d.facts (f := .glo "_law_free") (fmem 26))⟩
  f_law := ⟨_, _, (c.t.d.defs (d := dd_law) (dmem 22)).choose_spec, He.glo_ok X G (c.t.d.facts (f := .glo "law") (fmem 27))⟩
  d_SIZES := ⟨He.glo_ok X G (c.t.d.facts (f := .glo "SIZES") (fmem 28)), tab_ok (c.t.tab 0) (ex_ok 0 c.more)⟩
  d_SIGNS := ⟨He.glo_ok X G (c.t.d.facts (f := .glo "SIGNS") (fmem 29)), tab_ok (c.t.tab 1) (ex_ok 1 c.more)⟩
  d_KINDS := ⟨He.glo_ok X G (c.t.d.facts (f := .glo "KINDS") (fmem 30)), tab_ok (c.t.tab 2) (ex_ok 2 c.more)⟩
  t_RESERVED := ⟨He.glo_ok X G (c.t.d.facts (f := .glo "RESERVED") (fmem 31)), fun H => He.tupB_ok (vs := ([.str "yes", .str "no", .str "me", .str "him", .str "x"] : List He.Dv)) (ex_ok 3 c.more) H⟩
  c_LETTERS := He.str_ok X G (c.t.d.facts (f := .str "LETTERS" "abcdefghijklmnopqrstuvwxyz") (fmem 32))
  i_DEEPEST := He.int_ok X G (c.t.d.facts (f := .int "DEEPEST" 400) (fmem 33))
  g_Saying := He.glo_ok X G (c.t.d.facts (f := .glo "Saying") (fmem 34))
  cl_Saying := He.cls_ok (c.t.d.facts (f := .cls "Saying") (fmem 35))
  mk_Saying := He.mkr_ok (c.t.d.facts (f := .mkr "Saying") (fmem 36))
  na_Saying_kept := He.noat_ok (c.t.d.facts (f := .noat "Saying" "kept") (fmem 37))
  na_Saying_parts := He.noat_ok (c.t.d.facts (f := .noat "Saying" "parts") (fmem 38))
  m_Saying_init := ⟨_, (c.t.d.defs (d := dd_Saying_init) (dmem 8)).choose_spec, He.meth_ok (c.t.d.facts (f := .meth "Saying" "__init__") (fmem 39))⟩
  k_Saying_read := cdfn_of (c.def_ 0) (ex_ok 4 c.more)
  m_Saying_form := ⟨_, (c.t.d.defs (d := dd_Saying_form) (dmem 9)).choose_spec, He.meth_ok (c.t.d.facts (f := .meth "Saying" "form") (fmem 40))⟩
  m_Saying_text := ⟨_, (c.t.d.defs (d := dd_Saying_text) (dmem 10)).choose_spec, He.meth_ok (c.t.d.facts (f := .meth "Saying" "text") (fmem 41))⟩
  m_Saying_len := ⟨_, (c.t.d.defs (d := dd_Saying_len) (dmem 11)).choose_spec, He.meth_ok (c.t.d.facts (f := .meth "Saying" "__len__") (fmem 42))⟩
  sf_Saying := (ex_ok 5 c.more)
theorem facts {P : Program} {w : World} {K : PySem.W.Frag} {h : Heap} {mg : Str → Option Value} {f : Addr} (X : K.In h) (G : h.Ns mainGlobals mg) (hfa : mg ("law" : Str) = some (.ref f)) (c : SaysY fa fn tbs da exf w K) :
    ∃ fd : FuncData, (∀ (s : Shared) (v : Value), BindsTo s fd ⟨[v], []⟩ [("_law_script", v)]) ∧ ∀ base : Heap, K.In base → base.Ns mainGlobals mg → FnOk P w K mg base L2.CX0 52 f fd ["_law_script"] (spLaw K) := by
  obtain ⟨fd, F⟩ := c.t.d.defs (d := dd_law) (dmem 22)
  have e := hfa.symm.trans (He.glo_ok X G (c.t.d.facts (f := .glo "law") (fmem 27)))
  cases e
  have b := FunD.bindsA (ps := ["_law_script"]) F bd_law
  refine ⟨fd, fun s v => b s [v] rfl, fun base _ _ => ?_⟩
  exact okLaw (txt_of X G c) F
end Bx
open PySem PySem.W PySem.Calls PyProof.Rows
theorem PySem.Challenge.cw_boxfall_k04_texts_of_sayings_holds : PySem.Challenge.rw_boxfall_k04_texts_of_sayings.Holds := by
  w_on; o_law
  refine HandSHeadRun.head_any (r := OpenLaw.row PySem.Challenge.rw_boxfall_k04_texts_of_sayings) (q := view (OpenLaw.row PySem.Challenge.rw_boxfall_k04_texts_of_sayings).prog [34]) (H := Bx.hk) (ob := Bx.ob) (M := 6000) (loose := Bx.nms) (d := HandSHeadRun.topDef (OpenLaw.row PySem.Challenge.rw_boxfall_k04_texts_of_sayings).prog 34) (kwd := []) Bx.ob_eq
    (by kernel_rfl) (fun s => by kernel_rfl) Bx.run (by kernel_rfl) (by kernel_rfl) (by kernel_rfl) (by rfl) (by first | assumption | decide +kernel) (by decide +kernel) ⟨rfl, rfl, rfl, rfl, rfl, by decide +kernel⟩ ?hw ?hc
  case hw => w_witness2
  case hc =>
    refine L2.walk_ofE (l := PySem.Challenge.rw_boxfall_k04_texts_of_sayings) (n := 63) (k := 52) (x := "_law_script") (CX := L2.CX0) rfl (by decide) (by kernel_rfl) ⟨rfl, by decide, by decide⟩ ?F (fun _ _ _ _ z => z)
    intro w mg fa h Y G hmg0
    obtain ⟨K, KX, c⟩ := Y
    have hmg : mg ("law" : PySem.Str) = some (.ref fa) := by
      have e : (HandSHeadRun.topDef (OpenLaw.row PySem.Challenge.rw_boxfall_k04_texts_of_sayings).prog 34).name = ("law" : PySem.Str) := by kernel_rfl
      rw [← e]
      exact hmg0
    obtain ⟨fd, hb, hF⟩ := Bx.facts (P := (PySem.Challenge.rw_boxfall_k04_texts_of_sayings).prog) (w := w) KX G hmg c
    exact ⟨K, fd, Bx.spLaw K, KX, hb, fun H a ns hl _ hS => ⟨a, ns, rfl, hS, hl, fun _ => rfl⟩, hF⟩
#print axioms PySem.Challenge.cw_boxfall_k04_texts_of_sayings_holds
