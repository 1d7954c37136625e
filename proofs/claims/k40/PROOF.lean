import PyProof.Rows.All
import Wide.All
import OpenK.AllK
import Wide.FinOn
import KE.KStateDown
import Lean
import HandS.ForMost
import HandS.Exc
import HandS.ExcOwn
import HandS.TryOnly
import HandS.WordsExc
import HandS.ExcInit
import HandS.ExcIs
import HandS.ExcField
import HandS.Zip
import HandS.Wide
import HandS.IsInst
import HandS.Defaults
import HandS.ClsMeth
import HandS.Conv
import HandS.Sort
import HandS.Style
import HandS.Flow
import HandS.Walk
import KE.GoesZip
import KE.GoesEnum
import KE.KDictZip
import KE.KExcSuper
import HandS.Head0
import HandS.Head1
import HandS.Head2
import HandS.HeadEnd
import HandS.HeadHook1
import HandS.HeadHook2
import HandS.HeadNt
import HandS.Deep
import HandS.ExcSuper
import PySem.Challenge.RW_slitstairs_k40_whole_alike_for_all_print
set_option Elab.async false
set_option linter.all false
set_option maxRecDepth 100000
set_option maxHeartbeats 8000000
/-! The base: heaps, steps, globals. -/
namespace Sk
open PySem PySem.Spec PyProof.Rows L2
/-! ### the text -/
abbrev P0 : Program := PySem.Challenge.pw_slitstairs_k40_whole_alike_for_all_print
def top (i : Nat) : Stmt := PySem.Challenge.pw_slitstairs_k40_whole_alike_for_all_print.main.body.getD i (.Pass ⟨0, 0, 0, 0⟩)
/-! ### heaps -/
def But (l : Addr) (H H' : Hp) : Prop := ∀ b o, b ≠ l → H b = some o → H' b = some o
theorem same_at {H H' : Hp} {a : Addr} {o : HO} (s : Same H H') (h : H a = some o) : H' a = some o := s a o h
theorem but_at {l : Addr} {H H' : Hp} {a : Addr} {o : HO} (s : But l H H') (n : a ≠ l) (h : H a = some o) : H' a = some o := s a o n h
theorem same_new {H : Hp} {p : Addr} {o : HO} (h : H p = none) : Same H (upd H p o) := fun b x e => by
  rw [upd_ne (ne_of_none e h)]
  exact e
theorem but_upd {H : Hp} {p : Addr} {o : HO} : But p H (upd H p o) := fun b x n e => by
  rw [upd_ne n]
  exact e
theorem but_refl {l : Addr} {H : Hp} : But l H H := fun _ _ _ h => h
theorem but_of {l : Addr} {H H' : Hp} (s : Same H H') : But l H H' := fun b o _ h => s b o h
theorem but_trans {l : Addr} {H H1 H2 : Hp} (a : But l H H1) (b : But l H1 H2) : But l H H2 := fun c o n h => b c o n (a c o n h)
theorem same_but {l : Addr} {H H1 H2 : Hp} (s : Same H H1) (n : H l = none) (b : But l H1 H2) : Same H H2 := fun c o h => b c o (ne_of_none h n) (s c o h)
/-- a change of one that the first heap does not know -/
theorem but_but {l m : Addr} {H H1 H2 : Hp} (s : But l H H1) (n : H m = none) (b : But m H1 H2) : But l H H2 := fun c o k h => b c o (ne_of_none h n) (s c o k h)
theorem but_free {l p : Addr} {H H' : Hp} (s : But l H H') (n : p ≠ l) (h : H' p = none) : H p = none := by
  cases q : H p with
  | none => rfl
  | some o =>
    rw [s p o n q] at h
    cases h
theorem same_free {H H' : Hp} {p : Addr} (s : Same H H') (h : H' p = none) : H p = none := Same.free s h
theorem but_seq {K : PySem.W.Frag} {l : Addr} {H H' : Hp} {a : Addr} {xs : List V} (e : But l H H') (n : a ≠ l) (h : SqL K H a xs) : SqL K H' a xs := by
  rcases h with (h | ⟨o, h⟩) | h
  · exact .inl (.inl (e _ _ n h))
  · exact .inl (.inr ⟨o, e _ _ n h⟩)
  · exact .inr h
theorem same_tup {K : PySem.W.Frag} {H H' : Hp} {a : Addr} {xs : List V} (e : Same H H') (h : SqT K H a xs) : SqT K H' a xs := by
  rcases h with (h | ⟨o, h⟩) | h
  · exact .inl (.inl (e _ _ h))
  · exact .inl (.inr ⟨o, e _ _ h⟩)
  · exact .inr h
theorem lt_tup {H : Hp} {a b : Addr} {xs ys : List V} (h : H a = some (.lst xs)) (k : H b = some (.tup ys)) : a ≠ b := ne_of h k (by intro z; cases z)
/-! ### a def as a global -/
structure Glo (P : Program) (w : World) (K : PySem.W.Frag) (mg : Str → Option Value) (base : Heap) (CX : CXT) (k : Nat) (x : Str) (ps : List Str) (sp : Sp) : Prop where
  ex : ∃ f fd, FnOk P w K mg base CX k f fd ps sp ∧ mg x = some (.ref f) ∧ PySem.W.keepIn K (.ref f) = true ∧ Binds K fd ps []
structure DefAt (K : PySem.W.Frag) (mg : Str → Option Value) (x : Str) (ps : List Str) (st : Stmt) : Prop where
  ex : ∃ f fd, Fun K x x st f fd ∧ mg x = some (.ref f) ∧ Binds K fd ps []
section
variable {P : Program} {w : World} {K : PySem.W.Frag} {mg : Str → Option Value} {base : Heap}
theorem DefAt.ok {x : Str} {ps N : List Str} {st : Stmt} {sp : Sp} (k : Nat) (D : DefAt K mg x ps st) (S : FnScope N ps (defScope st)) (len : ∀ vs H Q E, sp vs H Q E → vs.length = ps.length)
    (hbody : ∀ (f : Addr) (cdv : Value) (A : Around) (outer : List Env) (s : Shared) (H : Hp) (vs : List V) (Q : VK) (E : XK), Room k (A.deeper (envOfC x (defScope st) s.heap.objs.size f cdv)) → sp vs H Q E →
      ∃ t, PSs (cxOf CX0 P w K mg base N x (defScope st) f cdv A outer s H E).nox (defBody st) t ∧ t { nx := fun _ H' => Q .non H', rt := Q } (start N vs) H) : Glo P w K mg base CX0 (k + 1) x ps sp := by
  obtain ⟨f, fd, F, m, b⟩ := D.ex
  exact ⟨f, fd, F.ok S len (fun cdv A outer s H vs Q E hr h => hbody f cdv A outer s H vs Q E hr h), m, F.kp, b⟩
theorem DefAt.okX {x : Str} {ps N : List Str} {st : Stmt} {sp : Sp} (k : Nat) (D : DefAt K mg x ps st) (S : FnScope N ps (defScope st)) (len : ∀ vs H Q E, sp vs H Q E → vs.length = ps.length)
    (hbody : ∀ (f : Addr) (cdv : Value) (A : Around) (outer : List Env) (s : Shared) (H : Hp) (vs : List V) (Q : VK) (E : XK), Room k (A.deeper (envOfC x (defScope st) s.heap.objs.size f cdv)) → sp vs H Q E →
      ∃ t, PSs (cxOf (L2.CX P w) P w K mg base N x (defScope st) f cdv A outer s H E) (defBody st) t ∧ t { nx := fun _ H' => Q .non H', rt := Q } (start N vs) H) : Glo P w K mg base (L2.CX P w) (k + 1) x ps sp := by
  obtain ⟨f, fd, F, m, b⟩ := D.ex
  exact ⟨f, fd, F.okX S len (fun cdv A outer s H vs Q E hr h => hbody f cdv A outer s H vs Q E hr h), m, F.kp, b⟩
end
theorem Glo.mono {P : Program} {w : World} {K : PySem.W.Frag} {mg : Str → Option Value} {base : Heap} {CX : CXT} {j k : Nat} {x : Str} {ps : List Str} {sp : Sp} (G : Glo P w K mg base CX j x ps sp) (h : j ≤ k) : Glo P w K mg base CX k x ps sp := by
  obtain ⟨f, fd, F, m, kp, b⟩ := G.ex
  exact ⟨f, fd, F.mono h, m, kp, b⟩
section
variable {X : Cx} {CX : CXT} {k : Nat} {ps : List Str} {sp : Sp} {E : XK} {x : Str} {p pos : Pos} {e : Expr} {es : List Expr} {t : TA}
theorem pe_g (G : Glo X.prog X.w X.K X.mg X.base CX k x ps sp) (hr : Room k X.A) (hg : Gl X x) (hx : Passes CX X E)
    (ha : PA X (e :: es) t) (hdb : (x == ("__debug__" : Str)) = false := by decide) (he : starEach (e :: es) X.env = (false, eval e X.env) :: starEach es X.env := by rfl) (hpl : (backTo pos (starEach es X.env)).any (·.1) = false := by rfl) :
    PE X (.Call (.Name x p) (e :: es) [] pos) (tCall sp [] E t) := by
  obtain ⟨f, fd, F, m, kp, b⟩ := G.ex
  exact pe_call F hr hg m kp b .nil hx ha hdb he hpl
end
/-! ### steps: what a reading asks -/
section
variable {σ : L2.St} {H : Hp} {Q : VK} {D : Ends} {te ta tb tc : TE} {t u : TS} {g : TG} {K : PySem.W.Frag}
theorem z_seq (h : t { D with nx := u D } σ H) : tSeq t u D σ H := h
theorem z_next (h : D.nx σ H) : tNext D σ H := h
theorem z_cont (h : D.ct σ H) : tCont D σ H := h
theorem z_brk (h : D.bk σ H) : tBreak D σ H := h
theorem z_asg (h : te σ H fun x H1 => g x σ H1 D.nx) : tAsg te g D σ H := h
theorem z_gname {i : Nat} {v : V} {R : L2.St → Hp → Prop} (h : R (σ.set i (some v)) H) : gName i v σ H R := h
theorem z_drop (h : te σ H fun _ H1 => D.nx σ H1) : tDrop te D σ H := h
theorem z_ret (h : te σ H D.rt) : tRet te D σ H := h
theorem z_retN (h : D.rt .non H) : tRetN D σ H := h
theorem z_ifs {c : TT} (h : c σ H fun b H1 => if b = true then t D σ H1 else u D σ H1) : tIfS c t u D σ H := h
theorem z_var {i : Nat} {v : V} (e : σ[i]? = some (some v)) (h : Q v H) : tVar i σ H Q := ⟨v, e, h⟩
theorem z_c {v : V} (h : Q v H) : tC v σ H Q := h
theorem z_op {r : R2} (h : ta σ H fun x H1 => tb σ H1 fun y H2 => r x y H2 Q) : tOp r ta tb σ H Q := h
theorem z_un {r : V → Hp → VK → Prop} (h : ta σ H fun x H1 => r x H1 Q) : tUn r ta σ H Q := h
theorem z_chain {r r' : R2} (h : ta σ H fun x H1 => tb σ H1 fun y H2 => r x y H2 fun z H3 => ∃ k, z = .bl k ∧ (if k = true then tc σ H3 fun w' H4 => r' y w' H4 Q else Q (.bl false) H3)) : tChain r r' ta tb tc σ H Q := h
theorem z_rI0 {f : Int → Int → V} {i j : Int} (h : Q (f i j) H) : rI0 f (.int i) (.int j) H Q := ⟨i, j, rfl, rfl, h⟩
theorem z_rI {C : Int → Int → Prop} {f : Int → Int → V} {i j : Int} (c : C i j) (h : Q (f i j) H) : rI C f (.int i) (.int j) H Q := ⟨i, j, rfl, rfl, c, h⟩
theorem z_rU {f : Int → V} {i : Int} (h : Q (f i) H) : rU f (.int i) H Q := ⟨i, rfl, h⟩
theorem dec_int (i j : Int) : decide (V.int i = V.int j) = decide (i = j) := by
  by_cases h : i = j
  · subst h
    simp
  · rw [decide_eq_false h, decide_eq_false fun e => h (V.int.inj e)]
theorem dec_str (i j : Str) : decide (V.str i = V.str j) = decide (i = j) := by
  by_cases h : i = j
  · subst h
    simp
  · rw [decide_eq_false h, decide_eq_false fun e => h (V.str.inj e)]
theorem dec_bl (i j : Bool) : decide (V.bl i = V.bl j) = (i == j) := by
  cases i <;> cases j <;> decide
theorem z_eqI {i j : Int} (h : Q (.bl (decide (i = j))) H) : rEq (.int i) (.int j) H Q := ⟨rfl, by rw [dec_int]; exact h⟩
theorem z_neI {i j : Int} (h : Q (.bl (!decide (i = j))) H) : rNe (.int i) (.int j) H Q := ⟨rfl, by rw [dec_int]; exact h⟩
theorem z_eqS {i j : Str} (h : Q (.bl (decide (i = j))) H) : rEq (.str i) (.str j) H Q := ⟨rfl, by rw [dec_str]; exact h⟩
theorem z_neS {i j : Str} (h : Q (.bl (!decide (i = j))) H) : rNe (.str i) (.str j) H Q := ⟨rfl, by rw [dec_str]; exact h⟩
theorem z_eqB {i j : Bool} (h : Q (.bl (i == j)) H) : rEq (.bl i) (.bl j) H Q := ⟨rfl, by rw [dec_bl]; exact h⟩
theorem z_neB {i j : Bool} (h : Q (.bl (!(i == j))) H) : rNe (.bl i) (.bl j) H Q := ⟨rfl, by rw [dec_bl]; exact h⟩
theorem z_test {R : Bool → Hp → Prop} (h : te σ H fun x H' => ∃ k, x = .bl k ∧ R k H') : tTest te σ H R := h
theorem z_tB {R : Bool → Hp → Prop} (h : te σ H fun x H' => ∃ k, x = .bl k ∧ R k H') : tB te σ H R := h
theorem z_bl {b : Bool} {R : Bool → Prop} (h : R b) : ∃ k, V.bl b = .bl k ∧ R k := ⟨b, rfl, h⟩
theorem z_and {c d : TT} {R : Bool → Hp → Prop} (h : c σ H fun b H1 => if b = true then d σ H1 R else R false H1) : tAnd c d σ H R := h
theorem z_or {c d : TT} {R : Bool → Hp → Prop} (h : c σ H fun b H1 => if b = true then R true H1 else d σ H1 R) : tOr c d σ H R := h
theorem z_not {c : TT} {R : Bool → Hp → Prop} (h : c σ H fun b H1 => R (!b) H1) : tNot c σ H R := h
theorem z_andV (h : ta σ H fun x H1 => ∃ c, x = .bl c ∧ if c = true then tb σ H1 Q else Q (.bl false) H1) : tAndV ta tb σ H Q := h
theorem z_orV (h : ta σ H fun x H1 => ∃ c, x = .bl c ∧ if c = true then Q (.bl true) H1 else tb σ H1 Q) : tOrV ta tb σ H Q := h
theorem z_notV (h : ta σ H fun x H1 => ∃ c, x = .bl c ∧ Q (.bl (!c)) H1) : tNotV ta σ H Q := h
theorem z_if {c : TT} (h : c σ H fun b H1 => if b = true then ta σ H1 Q else tb σ H1 Q) : tIf c ta tb σ H Q := h
theorem z_cons {ts : TA} {R : List V → Hp → Prop} (h : ta σ H fun x H1 => ts σ H1 fun xs H2 => R (x :: xs) H2) : tCons ta ts σ H R := h
theorem z_nil {R : List V → Hp → Prop} (h : R [] H) : tNil σ H R := h
theorem z_call {sp : Sp} {E : XK} {ts : TA} (h : ts σ H fun vs H1 => sp vs H1 Q E) : tCall sp [] E ts σ H Q := by
  have e : (fun (vs : List V) H1 => sp vs H1 Q E) = fun vs H1 => sp (vs ++ []) H1 Q E := by
    funext vs H1
    rw [List.append_nil]
  rw [e] at h
  exact h
theorem z_cb {r : List V → Hp → VK → Prop} {ts : TA} (h : ts σ H fun vs H1 => r vs H1 Q) : tCB r ts σ H Q := h
theorem z_part {R : Option Int → Hp → Prop} (h : te σ H fun x H1 => ∃ i, x = .int i ∧ R (some i) H1) : tPart te σ H R := h
theorem z_noPart {R : Option Int → Hp → Prop} (h : R none H) : tNoPart σ H R := h
theorem z_int {i : Int} {R : Int → Prop} (h : R i) : ∃ k, V.int i = .int k ∧ R k := ⟨i, rfl, h⟩
theorem z_sl {r : V → Option Int → Option Int → Hp → VK → Prop} {tl th : TO} (h : te σ H fun x H1 => tl σ H1 fun l H2 => th σ H2 fun u H3 => r x l u H3 Q) : tSl r te tl th σ H Q := h
/-- a field's value -/
def vFld (K : PySem.W.Frag) (f : Str) : V → Hp → VK → Prop := fun x H1 Q => ∃ a C dx fs v, x = .ref a ∧ H1 a = some (.ins C dx fs) ∧ Cls K C ∧ NoAttr K C f ∧ fs.lookup f = some v ∧ Q v H1
theorem z_fld {f : Str} (h : ta σ H fun x H1 => vFld K f x H1 Q) : tFld K ta f σ H Q := h
def nTup (xs : List V) (H1 : Hp) (Q : VK) : Prop := xs.length ≤ sizeLine ∧ ∀ p, H1 p = none → Q (.ref p) (upd H1 p (.tup xs))
def nLst (xs : List V) (H1 : Hp) (Q : VK) : Prop := xs.length ≤ sizeLine ∧ ∀ p, H1 p = none → Q (.ref p) (upd H1 p (.lst xs))
theorem z_tup {ts : TA} (h : ts σ H fun xs H1 => nTup xs H1 Q) : tTup ts σ H Q := h
theorem z_lst {ts : TA} (h : ts σ H fun xs H1 => nLst xs H1 Q) : tLst ts σ H Q := h
theorem z_bm {T : String} {r : V → List V → Hp → VK → Prop} {ts : TA} (h : ta σ H fun x H1 => tyV K T x H1 ∧ ts σ H1 fun xs H2 => r x xs H2 Q) : tBM K T r ta ts σ H Q := h
theorem z_bm0 {T : String} {r : V → List V → Hp → VK → Prop} (h : ta σ H fun x H1 => tyV K T x H1 ∧ r x [] H1 Q) : tBM0 K T r ta σ H Q := h
theorem z_tyL {l : Addr} {xs : List V} {R : Prop} (h : H l = some (.lst xs)) (r : R) : tyV K "list" (.ref l) H ∧ R := ⟨.inl ⟨rfl, xs, SqL.of h⟩, r⟩
def nSetF (K : PySem.W.Frag) (f : Str) (y x : V) (H2 : Hp) (R : Hp → Prop) : Prop := ∃ a C dx fs, x = .ref a ∧ H2 a = some (.ins C dx fs) ∧ Cls K C ∧ NoAttr K C f ∧ fs.length < 1000 ∧ R (upd H2 a (.ins C dx (putF f y fs)))
theorem z_fldS {tv : TE} {f : Str} (h : tv σ H fun y H1 => ta σ H1 fun x H2 => nSetF K f y x H2 fun H3 => D.nx σ H3) : sFld K ta tv f D σ H := h
theorem v_setF {f : Str} {y : V} {a C dx : Addr} {fs : List (Str × V)} {R : Hp → Prop} (e : H a = some (.ins C dx fs)) (c : Cls K C) (n : NoAttr K C f) (l : fs.length < 1000) (h : ∀ H', But a H H' → H' a = some (.ins C dx (putF f y fs)) → R H') : nSetF K f y (.ref a) H R :=
  ⟨a, C, dx, fs, rfl, e, c, n, l, h _ but_upd upd_same⟩
theorem z_sub {to ti : TE} {st : TSet} {v : V} {R : L2.St → Hp → Prop} (h : to σ H fun o H1 => ti σ H1 fun i H2 => st o i v H2 fun H3 => R σ H3) : gSub to ti st v σ H R := h
theorem z_gcons {g : TG} {u : TGs} {v : V} {r : List V} {R : L2.St → Hp → Prop} (h : g v σ H fun σ' H' => u r σ' H' R) : gCons g u (v :: r) σ H R := ⟨v, r, rfl, h⟩
theorem z_gnil {R : L2.St → Hp → Prop} (h : R σ H) : gNil [] σ H R := ⟨rfl, h⟩
theorem v_gtup {n : Nat} {u : TGs} {a : Addr} {xs : List V} {R : L2.St → Hp → Prop} (e : SqT K H a xs) (l : xs.length = n) (h : u xs σ H R) : gTup K n u (.ref a) σ H R := ⟨a, xs, rfl, e, l, h⟩
def nPar (i j : Nat) (vs : List V) (σ : L2.St) (H : Hp) (R : L2.St → Hp → Prop) : Prop := ∃ v w, vs = [v, w] ∧ R ((σ.set i (some v)).set j (some w)) H
theorem z_par {i j : Nat} {ts : TA} (h : ts σ H fun vs H1 => nPar i j vs σ H1 D.nx) : tPar i j ts D σ H := h
theorem v_par {i j : Nat} {v w : V} {R : L2.St → Hp → Prop} (h : R ((σ.set i (some v)).set j (some w)) H) : nPar i j [v, w] σ H R := ⟨v, w, rfl, h⟩
theorem z_aug {i : Nat} {x : V} {ti : TIp} (e : σ[i]? = some (some x)) (h : te σ H fun y H1 => ti x y H1 fun z H2 => D.nx (σ.set i (some z)) H2) : tAug i te ti D σ H := ⟨x, e, h⟩
theorem v_ipI {f : Int → Int → Int} {i j : Int} (h : Q (.int (f i j)) H) : ipI f (.int i) (.int j) H Q := ⟨i, j, rfl, rfl, h⟩
theorem v_ext {l b : Addr} {xs zs : List V} (e : H l = some (.lst xs)) (e2 : H b = some (.lst zs)) (z : xs.length + zs.length ≤ 100000) (h : ∀ H', But l H H' → H' l = some (.lst (xs ++ zs)) → Q (.ref l) H') : rExt2 (.ref l) (.ref b) H Q :=
  ⟨l, b, xs, zs, rfl, rfl, e, e2, Nat.le_trans z (by decide), h _ but_upd upd_same⟩
/-! loops -/
def rFor (J : It) (g : TG) (tb : TS) (D : Ends) (σ : L2.St) (H1 : Hp) : Prop := ∃ W : Nat → Nat → L2.St → Hp → Prop, (∃ m, W 0 m σ H1) ∧ ∀ i m σ H, W i m σ H →
  (J.stop i H ∧ D.nx σ H) ∨ (J.go i H ∧ ∃ N : L2.St → Hp → Prop, (∀ σ' H', N σ' H' → ∃ m', m' < m ∧ W (i + 1) m' σ' H') ∧ ∀ x H', J.yld i H x H' → g x σ H' fun σ2 H2 => tb { D with nx := N, ct := N, bk := D.nx } σ2 H2)
theorem z_for {wi : TI} (h : wi σ H fun J H1 => rFor J g t D σ H1) : tFor wi g t D σ H := h
def rLc (J : It) (g : TG) (tt : TT) (te : TE) (vs : List Nat) (σ : L2.St) (H1 : Hp) (Q : VK) : Prop := ∀ D, H1 D = none → ∃ W : Nat → Nat → Hp → Prop, (∃ m, W 0 m (upd H1 D (.lst []))) ∧ ∀ i m H, W i m H →
  (J.stop i H ∧ Q (.ref D) H) ∨ (J.go i H ∧ ∃ Nx : Hp → Prop, (∀ H', Nx H' → ∃ m', m' < m ∧ W (i + 1) m' H') ∧ ∀ x H', J.yld i H x H' → g x (wipe σ vs) H' fun σ2 H2 => wipe σ2 vs = wipe σ vs ∧ tt σ2 H2 fun b H3 =>
    if b = true then te σ2 H3 fun y H4 => ∃ acc, H4 D = some (.lst acc) ∧ acc.length < sizeLine ∧ Nx (upd H4 D (.lst (acc ++ [y]))) else Nx H3)
theorem z_lc {wi : TI} {tt : TT} {vs : List Nat} (h : wi σ H fun J H1 => rLc J g tt te vs σ H1 Q) : tLc wi g tt te vs σ H Q := h
theorem z_yes {R : Bool → Hp → Prop} (h : R true H) : tYes σ H R := h
def nRng1 (vs : List V) (H1 : Hp) (R : It → Hp → Prop) : Prop := ∃ j : Int, vs = [.int j] ∧ -(2 ^ 62) ≤ j ∧ j < 2 ^ 62 ∧ R (Itr 0 j.toNat) H1
def nRng2 (vs : List V) (H1 : Hp) (R : It → Hp → Prop) : Prop := ∃ i j : Int, vs = [.int i, .int j] ∧ (-(2 ^ 62) ≤ i ∧ i < 2 ^ 62 ∧ -(2 ^ 62) ≤ j ∧ j < 2 ^ 62) ∧ R (Itr i (j - i).toNat) H1
def nList (K : PySem.W.Frag) (x : V) (H1 : Hp) (R : It → Hp → Prop) : Prop := ∃ a, x = .ref a ∧ (∃ xs, SqL K H1 a xs) ∧ R (Itl K a) H1
def nTupI (K : PySem.W.Frag) (x : V) (H1 : Hp) (R : It → Hp → Prop) : Prop := ∃ a, x = .ref a ∧ (∃ xs, SqT K H1 a xs) ∧ R (Itt K a) H1
def nStrI (v : V) (H1 : Hp) (R : It → Hp → Prop) : Prop := ∃ x, v = .str x ∧ R (Its x) H1
theorem z_rng1 {ts : TA} {R : It → Hp → Prop} (h : ts σ H fun vs H1 => nRng1 vs H1 R) : iRng1 ts σ H R := h
theorem z_rng2 {ts : TA} {R : It → Hp → Prop} (h : ts σ H fun vs H1 => nRng2 vs H1 R) : iRng2 ts σ H R := h
theorem z_list {R : It → Hp → Prop} (h : te σ H fun x H1 => nList K x H1 R) : iList K te σ H R := h
theorem z_tupi {R : It → Hp → Prop} (h : te σ H fun x H1 => nTupI K x H1 R) : iTup K te σ H R := h
theorem z_stri {R : It → Hp → Prop} (h : te σ H fun x H1 => nStrI x H1 R) : iStr te σ H R := h
theorem v_rng1 {j : Int} (n : Nat) {R : It → Hp → Prop} (e : j = (n : Int)) (z : n ≤ 100000) (h : R (Itr 0 n) H) : nRng1 [.int j] H R := by
  subst e
  exact ⟨n, rfl, by omega, by omega, by rw [Int.toNat_natCast]; exact h⟩
theorem v_rng2 {i j : Int} (m n : Nat) {R : It → Hp → Prop} (ei : i = (m : Int)) (ej : j = (n : Int)) (y : m ≤ 100000) (z : n ≤ 100000) (h : R (Itr (m : Int) (n - m)) H) : nRng2 [.int i, .int j] H R := by
  subst ei ej
  refine ⟨m, n, rfl, ⟨by omega, by omega, by omega, by omega⟩, ?_⟩
  have e : ((n : Int) - (m : Int)).toNat = n - m := by omega
  rw [e]
  exact h
theorem v_ilist {a : Addr} {xs : List V} {R : It → Hp → Prop} (e : SqL K H a xs) (h : R (Itl K a) H) : nList K (.ref a) H R := ⟨a, rfl, ⟨xs, e⟩, h⟩
theorem v_itup {a : Addr} {xs : List V} {R : It → Hp → Prop} (e : SqT K H a xs) (h : R (Itt K a) H) : nTupI K (.ref a) H R := ⟨a, rfl, ⟨xs, e⟩, h⟩
theorem v_istr {z : Str} {R : It → Hp → Prop} (h : R (Its z) H) : nStrI (.str z) H R := ⟨z, rfl, h⟩
theorem v_for {J : It} {n : Nat} {G : Hp → Prop} {Y : Nat → Hp → V → Hp → Prop} (w : Walk J n G Y) (Pv : Nat → L2.St → Hp → Prop) (h0 : Pv 0 σ H) (hG : ∀ i σ H, i ≤ n → Pv i σ H → G H)
    (hs : ∀ i x σ H H', i < n → Pv i σ H → Y i H x H' → g x σ H' fun σ2 H2 => t { D with nx := Pv (i + 1), ct := Pv (i + 1), bk := D.nx } σ2 H2) (hd : ∀ σ H, Pv n σ H → D.nx σ H) : rFor J g t D σ H := for_it w Pv h0 hG hs hd
theorem v_forR {m n : Nat} (Pv : Nat → L2.St → Hp → Prop) (h0 : Pv 0 σ H)
    (hs : ∀ i σ H, i < n → Pv i σ H → g (.int ((m + i : Nat) : Int)) σ H fun σ2 H2 => t { D with nx := Pv (i + 1), ct := Pv (i + 1), bk := D.nx } σ2 H2) (hd : ∀ σ H, Pv n σ H → D.nx σ H) : rFor (Itr (m : Int) n) g t D σ H :=
  for_it walk_range Pv h0 (fun _ _ _ _ _ => trivial) (fun i x σ H H' hi p y => by
    obtain ⟨rfl, rfl⟩ := y
    have e : (m : Int) + (i : Int) = ((m + i : Nat) : Int) := by omega
    show g (.int ((m : Int) + (i : Int))) _ _ _
    rw [e]
    exact hs i σ _ hi p) hd
theorem v_for0 {n : Nat} (Pv : Nat → L2.St → Hp → Prop) (h0 : Pv 0 σ H)
    (hs : ∀ i σ H, i < n → Pv i σ H → g (.int (i : Int)) σ H fun σ2 H2 => t { D with nx := Pv (i + 1), ct := Pv (i + 1), bk := D.nx } σ2 H2) (hd : ∀ σ H, Pv n σ H → D.nx σ H) : rFor (Itr 0 n) g t D σ H :=
  for_it walk_range Pv h0 (fun _ _ _ _ _ => trivial) (fun i x σ H H' hi p y => by
    obtain ⟨rfl, rfl⟩ := y
    show g (.int ((0 : Int) + (i : Int))) _ _ _
    rw [Int.zero_add]
    exact hs i σ _ hi p) hd
theorem v_forL {a : Addr} {xs : List V} (Pv : Nat → L2.St → Hp → Prop) (h0 : Pv 0 σ H) (hG : ∀ i σ H, Pv i σ H → SqL K H a xs)
    (hs : ∀ i x σ H, xs[i]? = some x → Pv i σ H → g x σ H fun σ2 H2 => t { D with nx := Pv (i + 1), ct := Pv (i + 1), bk := D.nx } σ2 H2) (hd : ∀ σ H, Pv xs.length σ H → D.nx σ H) : rFor (Itl K a) g t D σ H :=
  for_it walk_list Pv h0 (fun i σ H _ p => hG i σ H p) (fun i x σ H H' hi p y => by
    obtain ⟨rfl, e⟩ := y
    exact hs i x σ _ e p) hd
theorem v_forT {a : Addr} {xs : List V} (Pv : Nat → L2.St → Hp → Prop) (h0 : Pv 0 σ H) (hG : ∀ i σ H, Pv i σ H → SqT K H a xs)
    (hs : ∀ i x σ H, xs[i]? = some x → Pv i σ H → g x σ H fun σ2 H2 => t { D with nx := Pv (i + 1), ct := Pv (i + 1), bk := D.nx } σ2 H2) (hd : ∀ σ H, Pv xs.length σ H → D.nx σ H) : rFor (Itt K a) g t D σ H :=
  for_it walk_tup Pv h0 (fun i σ H _ p => hG i σ H p) (fun i x σ H H' hi p y => by
    obtain ⟨rfl, e⟩ := y
    exact hs i x σ _ e p) hd
/-- a comprehension: I by the list's place, the turn, the list so far, the heap -/
def nSoFar (I : Addr → Nat → List V → Hp → Prop) (L : Addr) (i : Nat) (H2 : Hp) : Prop := ∃ acc, H2 L = some (.lst acc) ∧ I L i acc H2
def nAcc (I : Addr → Nat → List V → Hp → Prop) (L : Addr) (i : Nat) (y : V) (H4 : Hp) : Prop := ∃ acc, H4 L = some (.lst acc) ∧ acc.length < sizeLine ∧ nSoFar I L i (upd H4 L (.lst (acc ++ [y])))
theorem v_acc {I : Addr → Nat → List V → Hp → Prop} {L : Addr} {i : Nat} {y : V} {acc : List V} (e : H L = some (.lst acc)) (z : acc.length < 100000) (h : ∀ H6, But L H H6 → H6 L = some (.lst (acc ++ [y])) → I L i (acc ++ [y]) H6) : nAcc I L i y H :=
  ⟨acc, e, Nat.lt_of_lt_of_le z (by decide), _, upd_same, h _ but_upd upd_same⟩
theorem v_noacc {I : Addr → Nat → List V → Hp → Prop} {L : Addr} {i : Nat} {acc : List V} (e : H L = some (.lst acc)) (h : I L i acc H) : nSoFar I L i H := ⟨acc, e, h⟩
theorem v_lc {J : It} {n : Nat} {G : Hp → Prop} {Y : Nat → Hp → V → Hp → Prop} {tt : TT} {vs : List Nat} (w : Walk J n G Y) (I : Addr → Nat → List V → Hp → Prop)
    (h0 : ∀ L H', H L = none → Same H H' → H' L = some (.lst []) → I L 0 [] H') (hG : ∀ L i acc H2, H L = none → i ≤ n → I L i acc H2 → G H2)
    (hs : ∀ L i x acc H2 H', i < n → H L = none → H2 L = some (.lst acc) → I L i acc H2 → Y i H2 x H' → g x (wipe σ vs) H' fun σ2 H3 => wipe σ2 vs = wipe σ vs ∧ tt σ2 H3 fun b H4 =>
      if b = true then te σ2 H4 (fun y H5 => nAcc I L (i + 1) y H5) else nSoFar I L (i + 1) H4)
    (hd : ∀ L acc H2, H L = none → H2 L = some (.lst acc) → I L n acc H2 → Q (.ref L) H2) : rLc J g tt te vs σ H Q := by
  intro L hL
  exact lc_it w (fun i H2 => nSoFar I L i H2) ⟨[], upd_same, h0 L _ hL (same_new hL) upd_same⟩ (fun i H2 hi ⟨acc, _, p⟩ => hG L i acc H2 hL hi p) (fun i x H2 H' hi ⟨acc, e, p⟩ y => hs L i x acc H2 H' hi hL e p y) fun H2 ⟨acc, e, p⟩ => hd L acc H2 hL e p
/-- a new object; the heap behind it by what is known of it -/
theorem v_new {o : HO} (h : ∀ p H', H p = none → Same H H' → H' p = some o → Q (.ref p) H') : ∀ p, H p = none → Q (.ref p) (upd H p o) := fun p n => h p _ n (same_new n) upd_same
theorem v_tup {xs : List V} (h : ∀ p H', H p = none → Same H H' → H' p = some (.tup xs) → Q (.ref p) H') (l : xs.length ≤ sizeLine := by exact Nat.le_trans (by simp : _ ≤ 100000) (by decide)) : nTup xs H Q := ⟨l, v_new h⟩
theorem v_lst {xs : List V} (h : ∀ p H', H p = none → Same H H' → H' p = some (.lst xs) → Q (.ref p) H') (l : xs.length ≤ sizeLine := by exact Nat.le_trans (by simp : _ ≤ 100000) (by decide)) : nLst xs H Q := ⟨l, v_new h⟩
theorem small {n : Nat} (h : n ≤ 100000) : n ≤ sizeLine := Nat.le_trans h (by decide)
theorem smalls {n : Nat} (h : n < 100000) : n < sizeLine := Nat.lt_of_lt_of_le h (by decide)
theorem v_app {l : Addr} {xs : List V} {y : V} (e : H l = some (.lst xs)) (z : xs.length < 100000) (h : ∀ H', But l H H' → H' l = some (.lst (xs ++ [y])) → Q .non H') : rAppend (.ref l) [y] H Q :=
  ⟨l, xs, y, rfl, rfl, e, smalls z, h _ but_upd upd_same⟩
theorem v_setL {l : Addr} {xs : List V} {k : Int} {j : Nat} {v : V} {R : Hp → Prop} (e : H l = some (.lst xs)) (z : ixN xs.length k = some j) (h : ∀ H', But l H H' → H' l = some (.lst (xs.set j v)) → R H') : rSetL (.ref l) (.int k) v H R :=
  ⟨l, xs, k, j, rfl, rfl, e, z, h _ but_upd upd_same⟩
theorem v_ixL {p : Addr} {xs : List V} {i : Int} {v : V} (e : SqL K H p xs) (a : atI xs i = some v) (h : Q v H) : rIxL K (.ref p) (.int i) H Q := ⟨p, xs, i, v, rfl, rfl, e, a, h⟩
theorem v_ixT {p : Addr} {xs : List V} {i : Int} {v : V} (e : SqT K H p xs) (a : atI xs i = some v) (h : Q v H) : rIxT K (.ref p) (.int i) H Q := ⟨p, xs, i, v, rfl, rfl, e, a, h⟩
theorem v_ixS {z : Str} {i : Int} {c : Nat} (l : z.length ≤ sizeLine) (a : atI z.cps.toList i = some c) (h : Q (.str ⟨#[c]⟩) H) : rIxS (.str z) (.int i) H Q := ⟨z, i, c, rfl, rfl, l, a, h⟩
theorem v_fld {f : Str} {a C dx : Addr} {fs : List (Str × V)} {v : V} (e : H a = some (.ins C dx fs)) (c : Cls K C) (n : NoAttr K C f) (l : fs.lookup f = some v) (h : Q v H) : vFld K f (.ref a) H Q := ⟨a, C, dx, fs, v, rfl, e, c, n, l, h⟩
theorem v_if {b : Bool} {A B : Prop} (h1 : b = true → A) (h2 : b = false → B) : if b = true then A else B := by
  cases b with
  | true => exact h1 rfl
  | false =>
    show B
    exact h2 rfl
theorem v_ifT {b : Bool} {A B : Prop} (e : b = true) (h : A) : if b = true then A else B := by
  subst e
  exact h
theorem v_ifF {b : Bool} {A B : Prop} (e : b = false) (h : B) : if b = true then A else B := by
  subst e
  exact h
end
end Sk
namespace Sk
open PySem PySem.Spec PyProof.Rows L2
/-! The head: what is looked at behind the top. -/
def isaB (K : PySem.W.Frag) (C : Addr) : Bool := He.eqO (PySem.W.findIn K (.ref C) "__class__") (some (some (.builtin "object.__class__"))) && (He.eqO (PySem.W.specialIn K (.builtin "object.__class__") "__get__") (some (some (.builtin "getset_descriptor.__get__"))) &&
  (decide (PySem.W.takesIn K (.builtin "object.__class__") = some true) && decide (PySem.W.mroIn K C (.type "object") = some true)))
def rawB (K : PySem.W.Frag) (C : Addr) : Bool := match K.lookup C with
  | some ⟨.type t, _, .cls cd, sl⟩ => (match cd.mro, sl.toList with
    | .ref D :: bm, [_, _, _, _, some (.builtin n), _] => decide (t = "type") && (decide (D = C) && (decide (n = "ValueError.__new__") && (!cd.hasDel && (cd.hasDict && PySem.HandSPX.refsVE bm))))
    | _, _ => false)
  | _ => false
def oexB (K : PySem.W.Frag) (C : Addr) : Bool := rawB K C && (He.eqO (PySem.W.findIn K (.ref C) "__setattr__") (some (some (.builtin "object.__setattr__"))) && (decide (PySem.W.subIn K (.ref C) (.type "BaseException") = some true) && (decide (PySem.W.typeIn K (.ref C) = some (.type "type")) && PySem.W.keepIn K (.ref C))))
/-! super's defs -/
def cellB (K : PySem.W.Frag) (C : Addr) : List (Str × Addr) → Bool
  | [(x, cc)] => decide (x = ("__class__" : Str)) && (match K.lookup cc with
    | some ⟨_, _, .cell (some (.ref D)), _⟩ => decide (D = C)
    | _ => false)
  | _ => false
def fileB (K : PySem.W.Frag) : Value → Bool
  | .ref a => (match K.lookup a with
    | some ⟨_, _, .fields vs, _⟩ => (match (vs[2]? : Option Value) with
      | some (.str file _) => P0.main.file == file
      | _ => false)
    | _ => false)
  | _ => false
def supB (K : PySem.W.Frag) (C : Addr) (qual : Str) : Bool := (match K.lookup (He.ma K C "__init__") with
  | some ⟨_, _, .func fd, _⟩ => cellB K C fd.closure && (PySem.W.codeIn K fd.code qual && (fileB K fd.code && decide (fd.defaults = Value.none)))
  | _ => false) && (He.eqO (PySem.W.findIn K (.ref C) "__init__") (some (some (.ref (He.ma K C "__init__")))) && (decide (PySem.W.typeIn K (.ref (He.ma K C "__init__")) = some (.type "function")) && ((PySem.W.clsIn K C).isSome &&
  (decide (PySem.W.mroIn K C (.ref C) = some true) && (He.eqO (PySem.W.ks_superIn K C C "__init__") (some (some (.builtin "ValueError.__init__"))) && (He.eqO (PySem.W.nsIn K cStatics "thirdparty.any") (some none) &&
  decide (PySem.W.subIn K (.ref C) (.type "ValueError") = some true)))))))
abbrev FnC : Type := Option (Str × Str × Arguments × FuncBody × Scope × Addr × Addr)
def fnC (K : PySem.W.Frag) (a : Addr) : FnC := match K.lookup a with
  | some ⟨_, _, .func fd, _⟩ => some (fd.name, fd.qualname, fd.params, fd.body, fd.scope, fd.globals, fd.builtins)
  | _ => none
def valC (qual : Str) (st : Stmt) : FnC := some ("__init__", qual, defArgs st, .stmts (defBody st), defScope st, mainGlobals, builtinsNs)
/-! all of it -/
def fa0 : List He.Fa := [.free "isinstance", .free "int", .free "bool", .free "str", .free "list", .free "tuple", .free "len", .free "range", .free "zip", .free "enumerate", .free "abs", .free "sorted", .int "MOST_SIZE" 6, .int "MOST_WIDTH" 12, .int "STEEPEST" 9, .glo "Column", .glo "Card", .glo "Print", .glo "CardError", .glo "BadView", .glo "BadSlope", .cls "Column", .cls "Card", .cls "Print", .noat "Column" "word", .noat "Column" "size", .noat "Card" "columns", .noat "Card" "marks", .noat "Card" "size", .noat "Card" "width"]
def fa1 : List He.Fa := [.noat "Card" "words", .noat "Print" "inks", .noat "Print" "size", .noat "Print" "width", .glo "_law_take", .glo "_law_pick", .glo "_law_extent", .glo "_law_word", .glo "_law_downs", .glo "_law_is_word", .glo "_law_ink", .glo "_law_kind", .glo "_law_bag", .glo "_law_places", .glo "_law_row", .glo "_law_tied", .glo "_law_fitted_row", .glo "_law_inks_seen", .glo "_law_first_spot", .glo "_law_first_cell", .glo "_law_heights_agree", .glo "_law_plain", .glo "_law_same", .glo "_law_marks", .glo "_law_other_words", .glo "is_whole", .glo "is_ink", .glo "spot_of", .glo "is_mark", .glo "row_fault"]
def fa2 : List He.Fa := [.glo "word_fault", .mkr "Column", .glo "check_columns", .glo "checked_marks", .mkr "Card", .glo "_law_card", .glo "check_extent", .mkr "Print", .glo "check_print", .glo "check_cards", .glo "check_slope", .glo "first_unlike_step", .glo "inks_by_spot", .glo "first_unlike_spot", .glo "column_pieces", .glo "inks_of_letter", .glo "front_view", .glo "top_view", .glo "slope_view", .glo "alike_from", .glo "alike_by", .glo "alike_between", .glo "slopes_alike", .glo "_law_refused", .glo "_law_one_print", .glo "_law_all_prints", .glo "_law_wrong", .glo "law", .noat "BadView" "what", .exm "BadView" "CardError" true]
def fa3 : List He.Fa := [.noat "BadSlope" "what", .exm "BadSlope" "CardError" true, .free "super"]
def fa : List He.Fa := fa0 ++ fa1 ++ fa2 ++ fa3
def d_0 : He5.DefA := ⟨fun K => He.ga K "_law_take", "_law_take", "_law_take", defArgs (top 48), defBody (top 48), defScope (top 48), [], []⟩
def d_1 : He5.DefA := ⟨fun K => He.ga K "_law_pick", "_law_pick", "_law_pick", defArgs (top 49), defBody (top 49), defScope (top 49), [], []⟩
def d_2 : He5.DefA := ⟨fun K => He.ga K "_law_extent", "_law_extent", "_law_extent", defArgs (top 50), defBody (top 50), defScope (top 50), [], []⟩
def d_3 : He5.DefA := ⟨fun K => He.ga K "_law_word", "_law_word", "_law_word", defArgs (top 51), defBody (top 51), defScope (top 51), [], []⟩
def d_4 : He5.DefA := ⟨fun K => He.ga K "_law_downs", "_law_downs", "_law_downs", defArgs (top 60), defBody (top 60), defScope (top 60), [], []⟩
def d_5 : He5.DefA := ⟨fun K => He.ga K "_law_is_word", "_law_is_word", "_law_is_word", defArgs (top 53), defBody (top 53), defScope (top 53), [], []⟩
def d_6 : He5.DefA := ⟨fun K => He.ga K "_law_ink", "_law_ink", "_law_ink", defArgs (top 56), defBody (top 56), defScope (top 56), [], []⟩
def d_7 : He5.DefA := ⟨fun K => He.ga K "_law_kind", "_law_kind", "_law_kind", defArgs (top 61), defBody (top 61), defScope (top 61), [], []⟩
def d_8 : He5.DefA := ⟨fun K => He.ga K "_law_bag", "_law_bag", "_law_bag", defArgs (top 47), defBody (top 47), defScope (top 47), [], []⟩
def d_9 : He5.DefA := ⟨fun K => He.ga K "_law_places", "_law_places", "_law_places", defArgs (top 59), defBody (top 59), defScope (top 59), [], []⟩
def d_10 : He5.DefA := ⟨fun K => He.ga K "_law_row", "_law_row", "_law_row", defArgs (top 57), defBody (top 57), defScope (top 57), [], []⟩
def d_11 : He5.DefA := ⟨fun K => He.ga K "_law_tied", "_law_tied", "_law_tied", defArgs (top 58), defBody (top 58), defScope (top 58), [], []⟩
def d_12 : He5.DefA := ⟨fun K => He.ga K "_law_fitted_row", "_law_fitted_row", "_law_fitted_row", defArgs (top 62), defBody (top 62), defScope (top 62), [], []⟩
def d_13 : He5.DefA := ⟨fun K => He.ga K "_law_inks_seen", "_law_inks_seen", "_law_inks_seen", defArgs (top 65), defBody (top 65), defScope (top 65), [], []⟩
def d_14 : He5.DefA := ⟨fun K => He.ga K "_law_first_spot", "_law_first_spot", "_law_first_spot", defArgs (top 66), defBody (top 66), defScope (top 66), [], []⟩
def d_15 : He5.DefA := ⟨fun K => He.ga K "_law_first_cell", "_law_first_cell", "_law_first_cell", defArgs (top 67), defBody (top 67), defScope (top 67), [], []⟩
def d_16 : He5.DefA := ⟨fun K => He.ga K "_law_heights_agree", "_law_heights_agree", "_law_heights_agree", defArgs (top 68), defBody (top 68), defScope (top 68), [], []⟩
def d_17 : He5.DefA := ⟨fun K => He.ga K "_law_plain", "_law_plain", "_law_plain", defArgs (top 63), defBody (top 63), defScope (top 63), [], []⟩
def d_18 : He5.DefA := ⟨fun K => He.ga K "_law_same", "_law_same", "_law_same", defArgs (top 64), defBody (top 64), defScope (top 64), [], []⟩
def d_19 : He5.DefA := ⟨fun K => He.ga K "_law_marks", "_law_marks", "_law_marks", defArgs (top 54), defBody (top 54), defScope (top 54), [], []⟩
def d_20 : He5.DefA := ⟨fun K => He.ga K "_law_other_words", "_law_other_words", "_law_other_words", defArgs (top 52), defBody (top 52), defScope (top 52), [], []⟩
def d_21 : He5.DefA := ⟨fun K => He.ga K "is_whole", "is_whole", "is_whole", defArgs (top 13), defBody (top 13), defScope (top 13), [], []⟩
def d_22 : He5.DefA := ⟨fun K => He.ga K "is_ink", "is_ink", "is_ink", defArgs (top 23), defBody (top 23), defScope (top 23), [], []⟩
def d_23 : He5.DefA := ⟨fun K => He.ga K "spot_of", "spot_of", "spot_of", defArgs (top 37), defBody (top 37), defScope (top 37), [], []⟩
def d_24 : He5.DefA := ⟨fun K => He.ga K "is_mark", "is_mark", "is_mark", defArgs (top 19), defBody (top 19), defScope (top 19), [], []⟩
def d_25 : He5.DefA := ⟨fun K => He.ga K "row_fault", "row_fault", "row_fault", defArgs (top 24), defBody (top 24), defScope (top 24), [], []⟩
def d_26 : He5.DefA := ⟨fun K => He.ga K "word_fault", "word_fault", "word_fault", defArgs (top 14), defBody (top 14), defScope (top 14), [], []⟩
def d_27 : He5.DefA := ⟨fun K => He.ma K (He.ga K "Column") "__init__", "__init__", "Column.__init__", defArgs (inClass (top 15) 0), defBody (inClass (top 15) 0), defScope (inClass (top 15) 0), [], []⟩
def d_28 : He5.DefA := ⟨fun K => He.ga K "check_columns", "check_columns", "check_columns", defArgs (top 18), defBody (top 18), defScope (top 18), [], []⟩
def d_29 : He5.DefA := ⟨fun K => He.ga K "checked_marks", "checked_marks", "checked_marks", defArgs (top 20), defBody (top 20), defScope (top 20), [], []⟩
def d_30 : He5.DefA := ⟨fun K => He.ma K (He.ga K "Card") "__init__", "__init__", "Card.__init__", defArgs (inClass (top 21) 0), defBody (inClass (top 21) 0), defScope (inClass (top 21) 0), [.adr (He.dflAt ("Card", some "__init__") 0)], []⟩
def d_31 : He5.DefA := ⟨fun K => He.ga K "_law_card", "_law_card", "_law_card", defArgs (top 55), defBody (top 55), defScope (top 55), [], []⟩
def d_32 : He5.DefA := ⟨fun K => He.ga K "check_extent", "check_extent", "check_extent", defArgs (top 25), defBody (top 25), defScope (top 25), [], []⟩
def d_33 : He5.DefA := ⟨fun K => He.ma K (He.ga K "Print") "__init__", "__init__", "Print.__init__", defArgs (inClass (top 26) 0), defBody (inClass (top 26) 0), defScope (inClass (top 26) 0), [], []⟩
def d_34 : He5.DefA := ⟨fun K => He.ga K "check_print", "check_print", "check_print", defArgs (top 29), defBody (top 29), defScope (top 29), [], []⟩
def d_35 : He5.DefA := ⟨fun K => He.ga K "check_cards", "check_cards", "check_cards", defArgs (top 30), defBody (top 30), defScope (top 30), [], []⟩
def d_36 : He5.DefA := ⟨fun K => He.ga K "check_slope", "check_slope", "check_slope", defArgs (top 31), defBody (top 31), defScope (top 31), [], []⟩
def d_37 : He5.DefA := ⟨fun K => He.ga K "first_unlike_step", "first_unlike_step", "first_unlike_step", defArgs (top 39), defBody (top 39), defScope (top 39), [], []⟩
def d_38 : He5.DefA := ⟨fun K => He.ga K "inks_by_spot", "inks_by_spot", "inks_by_spot", defArgs (top 42), defBody (top 42), defScope (top 42), [], []⟩
def d_39 : He5.DefA := ⟨fun K => He.ga K "first_unlike_spot", "first_unlike_spot", "first_unlike_spot", defArgs (top 41), defBody (top 41), defScope (top 41), [], []⟩
def d_40 : He5.DefA := ⟨fun K => He.ga K "column_pieces", "column_pieces", "column_pieces", defArgs (top 35), defBody (top 35), defScope (top 35), [], []⟩
def d_41 : He5.DefA := ⟨fun K => He.ga K "inks_of_letter", "inks_of_letter", "inks_of_letter", defArgs (top 32), defBody (top 32), defScope (top 32), [], []⟩
def d_42 : He5.DefA := ⟨fun K => He.ga K "front_view", "front_view", "front_view", defArgs (top 33), defBody (top 33), defScope (top 33), [], []⟩
def d_43 : He5.DefA := ⟨fun K => He.ga K "top_view", "top_view", "top_view", defArgs (top 34), defBody (top 34), defScope (top 34), [], []⟩
def d_44 : He5.DefA := ⟨fun K => He.ga K "slope_view", "slope_view", "slope_view", defArgs (top 36), defBody (top 36), defScope (top 36), [], []⟩
def d_45 : He5.DefA := ⟨fun K => He.ga K "alike_from", "alike_from", "alike_from", defArgs (top 40), defBody (top 40), defScope (top 40), [], []⟩
def d_46 : He5.DefA := ⟨fun K => He.ga K "alike_by", "alike_by", "alike_by", defArgs (top 43), defBody (top 43), defScope (top 43), [], []⟩
def d_47 : He5.DefA := ⟨fun K => He.ga K "alike_between", "alike_between", "alike_between", defArgs (top 44), defBody (top 44), defScope (top 44), [], []⟩
def d_48 : He5.DefA := ⟨fun K => He.ga K "slopes_alike", "slopes_alike", "slopes_alike", defArgs (top 45), defBody (top 45), defScope (top 45), [], []⟩
def d_49 : He5.DefA := ⟨fun K => He.ga K "_law_refused", "_law_refused", "_law_refused", defArgs (top 71), defBody (top 71), defScope (top 71), [], []⟩
def d_50 : He5.DefA := ⟨fun K => He5.wf K (He.ga K "Print") "classmethod" "alone", "alone", "Print.alone", defArgs (inClass (top 26) 5), defBody (inClass (top 26) 5), defScope (inClass (top 26) 5), [], []⟩
def d_51 : He5.DefA := ⟨fun K => He.ga K "_law_one_print", "_law_one_print", "_law_one_print", defArgs (top 70), defBody (top 70), defScope (top 70), [], []⟩
def d_52 : He5.DefA := ⟨fun K => He.ga K "_law_all_prints", "_law_all_prints", "_law_all_prints", defArgs (top 69), defBody (top 69), defScope (top 69), [], []⟩
def d_53 : He5.DefA := ⟨fun K => He.ga K "_law_wrong", "_law_wrong", "_law_wrong", defArgs (top 72), defBody (top 72), defScope (top 72), [], []⟩
def d_54 : He5.DefA := ⟨fun K => He.ga K "law", "law", "law", defArgs (top 73), defBody (top 73), defScope (top 73), [], []⟩
def fn0 : List He5.DefA := [d_0, d_1, d_2, d_3, d_4, d_5, d_6, d_7, d_8, d_9, d_10, d_11, d_12, d_13, d_14, d_15, d_16, d_17, d_18, d_19, d_20, d_21, d_22, d_23, d_24, d_25, d_26, d_27, d_28, d_29]
def fn1 : List He5.DefA := [d_30, d_31, d_32, d_33, d_34, d_35, d_36, d_37, d_38, d_39, d_40, d_41, d_42, d_43, d_44, d_45, d_46, d_47, d_48, d_49, d_50, d_51, d_52, d_53, d_54]
def fn : List He5.DefA := fn0 ++ fn1
def loose0 : List Str := ["_wall", "CardError", "BadSize", "BadColumn", "BadBoundary", "BadCard", "BadPlace", "BadPrint", "BadView", "BadSlope", "MOST_SIZE", "is_whole", "word_fault", "Column", "MOST_WIDTH", "check_columns", "is_mark", "checked_marks", "Card", "is_ink", "row_fault", "check_extent", "Print", "STEEPEST", "check_print", "check_cards", "check_slope", "inks_of_letter", "front_view", "top_view"]
def loose1 : List Str := ["column_pieces", "slope_view", "spot_of", "first_unlike_step", "alike_from", "first_unlike_spot", "inks_by_spot", "alike_by", "alike_between", "slopes_alike", "_law_bag", "_law_take", "_law_pick", "_law_extent", "_law_word", "_law_other_words", "_law_is_word", "_law_marks", "_law_card", "_law_ink", "_law_row", "_law_tied", "_law_places", "_law_downs", "_law_kind", "_law_fitted_row", "_law_plain", "_law_same", "_law_inks_seen", "_law_first_spot"]
def loose2 : List Str := ["_law_first_cell", "_law_heights_agree", "_law_all_prints", "_law_one_print", "_law_refused", "_law_wrong"]
def loose : List Str := loose0 ++ loose1 ++ loose2
def fnN0 : List Str := ["_law_take", "_law_pick", "_law_extent", "_law_word", "_law_downs", "_law_is_word", "_law_ink", "_law_kind", "_law_bag", "_law_places", "_law_row", "_law_tied", "_law_fitted_row", "_law_inks_seen", "_law_first_spot", "_law_first_cell", "_law_heights_agree", "_law_plain", "_law_same", "_law_marks", "_law_other_words", "is_whole", "is_ink", "spot_of", "is_mark", "row_fault", "word_fault", "check_columns", "checked_marks", "_law_card"]
def fnN1 : List Str := ["check_extent", "check_print", "check_cards", "check_slope", "first_unlike_step", "inks_by_spot", "first_unlike_spot", "column_pieces", "inks_of_letter", "front_view", "top_view", "slope_view", "alike_from", "alike_by", "alike_between", "slopes_alike", "_law_refused", "_law_one_print", "_law_all_prints", "_law_wrong", "law"]
def fnN : List Str := fnN0 ++ fnN1
abbrev bvA (K : PySem.W.Frag) : Addr := He.ga K "BadView"
abbrev bsA (K : PySem.W.Frag) : Addr := He.ga K "BadSlope"
abbrev prA (K : PySem.W.Frag) : Addr := He.ga K "Print"
def exL : List (PySem.W.Frag → Bool) := [fun K => isaB K (He.ga K "Column"), fun K => PySem.W.readsIn K (prA K) (.type "type"), fun K => He5.wrapB K (prA K) "classmethod" "classmethod.__get__" "alone", fun K => PySem.W.fnIn K (He5.wf K (prA K) "classmethod" "alone"),
  fun K => oexB K (bvA K), fun K => oexB K (bsA K), fun K => xfB K (bvA K), fun K => xfB K (bsA K), fun K => isaB K (bvA K), fun K => isaB K (bsA K),
  fun K => decide (PySem.W.kitOne K (.ref (bvA K)) (.ref (bsA K)) = some false), fun K => decide (PySem.W.kitOne K (.ref (bsA K)) (.ref (bvA K)) = some false),
  fun K => supB K (bvA K) "BadView.__init__", fun K => supB K (bsA K) "BadSlope.__init__"]
def exB (K : PySem.W.Frag) : Bool := exL.all fun p => p K
abbrev AlZ : Type := He.AlD × (FnC × FnC) × Bool
def obsZ (K : PySem.W.Frag) : AlZ := (He5.obsA fa fn K, (fnC K (He.ma K (bvA K) "__init__"), fnC K (He.ma K (bsA K) "__init__")), exB K)
def valZ : AlZ := (He5.valA fn, (valC "BadView.__init__" (inClass (top 9) 0), valC "BadSlope.__init__" (inClass (top 10) 0)), true)
/-- only what is asked: the globals, the statics, six classes, the defs, five methods, code objects, cells -/
def nsA (g : Addr → Option Obj) (a : Addr) : Addr := match g a with
  | some ⟨_, _, .cls cd, _⟩ => cd.ns
  | _ => 0
def undA (g : Addr → Option Obj) (a : Addr) : List Addr := match g a with
  | some ⟨_, _, .func fd, _⟩ => a :: (He.refV fd.code ++ (He.refV fd.defaults ++ fd.closure.map (·.2)))
  | _ => [a]
def clsN : List Str := ["Column", "Card", "Print", "CardError", "BadView", "BadSlope"]
def asZ (g : Addr → Option Obj) : List Addr :=
  let K0 := He.frG g [mainGlobals]
  let cs := clsN.map (He.ga K0)
  let c0 := mainGlobals :: cStatics :: (cs ++ cs.map (nsA g))
  let K1 := He.frG g c0
  let p := He.ma K1 (He.ga K0 "Print") "alone"
  let K2 := He.frG g [p]
  let al := match PySem.W.recIn K2 p "classmethod" with
    | some (.ref f :: _) => f
    | _ => 0
  c0 ++ ((p :: al :: (["Column", "Card", "Print", "BadView", "BadSlope"] : List Str).map fun x => He.ma K1 (He.ga K0 x) "__init__").flatMap (undA g) ++ (fnN.map (He.ga K0)).flatMap (undA g))
def obsZG (g : Addr → Option Obj) : AlZ := obsZ (He.frG g (asZ g))
def hk : PySem.W.Hook where
  α := AlZ
  obs := fun s => obsZG s.heap.get?
  val := fun _ => valZ
  says := fun _ h => ∃ K : PySem.W.Frag, K.In h ∧ obsZ K = valZ
  of := fun _ _ e => ⟨_, He.frG_in, e⟩
  keeps := fun _ _ _ ⟨K, hK, c⟩ k => ⟨K, PySem.W.Frag.In.keeps hK k, c⟩
def ob (s : PySem.W.SharedT) : AlZ := obsZG (HandSHeadRun.getT s)
theorem ob_eq (s : PySem.W.SharedT) : ob s = hk.obs s.abs := by
  have e : HandSHeadRun.getT s = s.abs.heap.get? := funext (HandSHeadRun.getT_eq s)
  unfold ob
  rw [e] <;> rfl
abbrev Rw : PySem.W.OpenRow := PySem.W.OpenLaw.row PySem.Challenge.rw_slitstairs_k40_whole_alike_for_all_print
end Sk
namespace Sk
open PySem PySem.Spec PyProof.Rows L2
/-! The head: the run. -/
theorem run (w : World) : HandSHeadRun.RunEq Rw (PySem.W.view Rw.prog [73]) hk ob 12000 loose w := by
  intro os
  kernel_rfl
end Sk
namespace Sz
open PySem PySem.W PySem.Calls PyProof.Rows
abbrev R : OpenRow := OpenLaw.row PySem.Challenge.rw_slitstairs_k40_whole_alike_for_all_print
abbrev q : Program := view R.prog [73]
abbrev d : DefRec := HandSHeadRun.topDef R.prog 73
theorem nm : d.name = ("law" : PySem.Str) := by kernel_rfl
theorem dfl : d.params.defaults = [] := by kernel_rfl
theorem close (call : WalkO q Sk.loose (XL q []) Sk.hk.says R.toRowW d [] fun f vs => PySem.call f vs) : PySem.Challenge.rw_slitstairs_k40_whole_alike_for_all_print.Holds := by
  w_on; o_law
  refine HandSHeadRun.head_any (r := R) (q := q) (H := Sk.hk) (ob := Sk.ob) (M := 12000) (loose := Sk.loose) (d := d) (kwd := []) Sk.ob_eq
    (by kernel_rfl) (fun s => by kernel_rfl) Sk.run (by kernel_rfl) (by kernel_rfl) (by kernel_rfl) (by rfl) (by first | assumption | decide +kernel) (by decide +kernel) ⟨rfl, rfl, rfl, rfl, rfl, by decide +kernel⟩ ?hw ?hc
  case hw => w_witness2
  case hc => exact call
end Sz
namespace Sk
open PySem PySem.Spec PyProof.Rows L2
/-! Texts of d and o as lists of truth values; named readings of calls. -/
def cd : Bool → Nat
  | true => 100
  | false => 111
def enc (w : List Bool) : Str := ⟨(w.map cd).toArray⟩
abbrev encV (w : List Bool) : V := .str (enc w)
theorem cd_inj {a b : Bool} (h : cd a = cd b) : a = b := by
  cases a <;> cases b <;> first | rfl | cases h
theorem map_cd_inj : ∀ {v w : List Bool}, v.map cd = w.map cd → v = w
  | [], [], _ => rfl
  | [], _ :: _, h => by cases h
  | _ :: _, [], h => by cases h
  | a :: v, b :: w, h => by
    rw [List.map_cons, List.map_cons] at h
    have h1 := List.cons.inj h
    rw [cd_inj h1.1, map_cd_inj h1.2]
theorem enc_inj {v w : List Bool} (h : enc v = enc w) : v = w := by
  have e : (v.map cd).toArray.toList = (w.map cd).toArray.toList := by
    have e1 : (enc v).cps = (enc w).cps := by rw [h]
    exact congrArg Array.toList e1
  exact map_cd_inj e
theorem enc_list (w : List Bool) : (enc w).cps.toList = w.map cd := rfl
theorem enc_len (w : List Bool) : (enc w).length = w.length := by
  show ((w.map cd).toArray).size = w.length
  rw [List.size_toArray, List.length_map]
theorem one_d : (⟨#[100]⟩ : Str) = "d" := by decide +kernel
theorem one_o : (⟨#[111]⟩ : Str) = "o" := by decide +kernel
theorem sign_d (b : Bool) : decide ((⟨#[cd b]⟩ : Str) = "d") = b := by
  cases b <;> decide +kernel
theorem sign_o (b : Bool) : decide ((⟨#[cd b]⟩ : Str) = "o") = !b := by
  cases b <;> decide +kernel
theorem sign_eq (a b : Bool) : decide ((⟨#[cd a]⟩ : Str) = ⟨#[cd b]⟩) = (a == b) := by
  cases a <;> cases b <;> decide +kernel
theorem enc_nil : enc [] = "" := by decide +kernel
theorem enc_add_d (w : List Bool) : enc w ++ ("d" : Str) = enc (w ++ [true]) := by
  rw [← one_d]
  show (⟨(w.map cd).toArray ++ #[100]⟩ : Str) = ⟨((w ++ [true]).map cd).toArray⟩
  rw [List.map_append]
  simp [cd]
theorem enc_add_o (w : List Bool) : enc w ++ ("o" : Str) = enc (w ++ [false]) := by
  rw [← one_o]
  show (⟨(w.map cd).toArray ++ #[111]⟩ : Str) = ⟨((w ++ [false]).map cd).toArray⟩
  rw [List.map_append]
  simp [cd]
theorem enc_one (b : Bool) : (⟨#[cd b]⟩ : Str) = enc [b] := rfl
theorem enc_app (v w : List Bool) : enc v ++ enc w = enc (v ++ w) := by
  show (⟨(v.map cd).toArray ++ (w.map cd).toArray⟩ : Str) = ⟨((v ++ w).map cd).toArray⟩
  rw [List.map_append]
  simp
theorem enc_cps (w : List Bool) (i : Nat) : (enc w).cps[i]? = w[i]?.map cd := by
  show ((w.map cd).toArray)[i]? = _
  rw [List.getElem?_toArray, List.getElem?_map]
theorem enc_size (w : List Bool) : (enc w).cps.size = w.length := enc_len w
theorem enc_at {w : List Bool} {i : Nat} {b : Bool} (h : w[i]? = some b) : atI (enc w).cps.toList (i : Int) = some (cd b) := by
  rw [enc_list]
  refine atI_nat ?_
  rw [List.getElem?_map, h]
  rfl
/-! ### slices -/
theorem sIx_nat' (n d k : Nat) : HT.sIx n d (some (k : Int)) = min k n := HT.sIx_nat n d k
theorem cut_take (w : List Bool) (k : Nat) : cutS (enc w) none (some (k : Int)) = enc (w.take k) := by
  unfold cutS
  rw [enc_list, enc_len, HT.sIx_none, sIx_nat']
  show (⟨(((w.map cd).drop 0).take (min k w.length - 0)).toArray⟩ : Str) = ⟨((w.take k).map cd).toArray⟩
  rw [List.drop_zero, Nat.sub_zero, List.map_take]
  by_cases h : k ≤ w.length
  · rw [Nat.min_eq_left h]
  · rw [Nat.min_eq_right (by omega), List.take_of_length_le (by rw [List.length_map]; omega), List.take_of_length_le (by rw [List.length_map]; omega)]
theorem cut_drop (w : List Bool) (k : Nat) : cutS (enc w) (some (k : Int)) none = enc (w.drop k) := by
  unfold cutS
  rw [enc_list, enc_len, HT.sIx_none, sIx_nat']
  show (⟨(((w.map cd).drop (min k w.length)).take (w.length - min k w.length)).toArray⟩ : Str) = ⟨((w.drop k).map cd).toArray⟩
  rw [List.map_drop]
  by_cases h : k ≤ w.length
  · rw [Nat.min_eq_left h, List.take_of_length_le (by rw [List.length_drop, List.length_map]; omega)]
  · rw [Nat.min_eq_right (by omega), List.drop_eq_nil_of_le (by rw [List.length_map]; omega), List.drop_eq_nil_of_le (by rw [List.length_map]; omega)]
    simp
/-! ### count -/
theorem occ_run (s : Str) (c hi : Nat) (hhi : s.length = hi) : ∀ (l : List Nat) (st : Array Nat × Nat), l.Pairwise (· < ·) → (∀ i ∈ l, st.2 ≤ i) → st.1.size + l.length ≤ hi + 1 →
    (forIn l st (StrLaws.occBody s ⟨#[c]⟩ hi (hi + 1))).run.fst.toList = st.1.toList ++ l.filter fun i => decide (s.cps.toList[i]? = some c)
  | [], st, _, _, _ => by simp
  | a :: l, st, hp, hf, hz => by
    rw [List.forIn_cons]
    unfold StrLaws.occBody
    have ha : st.2 ≤ a := hf a (List.mem_cons_self ..)
    have hp' := List.pairwise_cons.mp hp
    have iff := StrLaws.subAt_one s c a
    rw [hhi] at iff
    by_cases h : s.cps.toList[a]? = some c
    · obtain ⟨h1, h2⟩ := iff.mpr h
      have hl : st.1.size < hi + 1 := by
        rw [List.length_cons] at hz
        omega
      rw [if_pos ⟨⟨⟨hl, ha⟩, h1⟩, h2⟩]
      have ih := occ_run s c hi hhi l (st.1.push a, a + (⟨#[c]⟩ : Str).length) hp'.2 (fun i hi' => by
        have := hp'.1 i hi'
        show a + 1 ≤ i
        omega) (by
        rw [List.length_cons] at hz
        simp only [Array.size_push]
        omega)
      refine Eq.trans ih ?_
      rw [List.filter_cons, if_pos (by simpa using h)]
      simp
    · rw [if_neg fun q => h (iff.mp ⟨q.1.2, q.2⟩)]
      have ih := occ_run s c hi hhi l (st.1, st.2) hp'.2 (fun i hi' => hf i (List.mem_cons_of_mem _ hi')) (by
        rw [List.length_cons] at hz
        show st.1.size + l.length ≤ hi + 1
        omega)
      refine Eq.trans ih ?_
      rw [List.filter_cons, if_neg (by simpa using h)]
theorem filter_count {α : Type} [DecidableEq α] (c : α) : ∀ (l : List α) (k : Nat), ((List.range' k l.length).filter fun i => decide ((l)[i - k]? = some c)).length = l.count c
  | [], k => rfl
  | a :: l, k => by
    rw [List.length_cons, List.range'_succ, List.filter_cons, Nat.sub_self]
    have ih := filter_count c l (k + 1)
    have e : ((List.range' (k + 1) l.length).filter fun i => decide ((a :: l)[i - k]? = some c)) = (List.range' (k + 1) l.length).filter fun i => decide (l[i - (k + 1)]? = some c) := by
      refine List.filter_congr fun i hi => ?_
      have hk : k + 1 ≤ i := by
        rw [List.mem_range'_1] at hi
        exact hi.1
      have e1 : i - k = (i - (k + 1)) + 1 := by omega
      rw [e1, List.getElem?_cons_succ]
    rw [e]
    by_cases h : a = c
    · subst h
      rw [if_pos (by simp), List.length_cons, ih, List.count_cons_self]
    · rw [if_neg (by simpa using h), ih, List.count_cons_of_ne h]
theorem count_txt (s : Str) (c : Nat) : Txt.count s ⟨#[c]⟩ = ((s.cps.toList.count c : Nat) : Int) := by
  unfold Txt.count
  congr 1
  rw [StrLaws.occ_eq, Nat.sub_zero, occ_run s c s.length rfl _ _ (List.pairwise_lt_range' ..) (fun _ _ => Nat.zero_le _) (by simp)]
  have hs : s.length = s.cps.toList.length := by simp [Str.length]
  have e : List.range' 0 (s.length + 1) = List.range' 0 s.cps.toList.length ++ [s.cps.toList.length] := by
    rw [hs, List.range'_concat]
    simp
  rw [e, List.filter_append, List.filter_cons, if_neg (by simp)]
  have q := filter_count c s.cps.toList 0
  simp only [Nat.sub_zero] at q
  simpa using q
theorem count_map (w : List Bool) (b : Bool) : (w.map cd).count (cd b) = w.count b := by
  induction w with
  | nil => rfl
  | cons a w ih =>
    rw [List.map_cons]
    by_cases h : a = b
    · subst h
      rw [List.count_cons_self, List.count_cons_self, ih]
    · rw [List.count_cons_of_ne (fun e => h (cd_inj e)), List.count_cons_of_ne h, ih]
theorem count_d (w : List Bool) : Txt.count (enc w) "d" = ((w.count true : Nat) : Int) := by
  rw [← one_d, count_txt, enc_list]
  exact congrArg _ (count_map w true)
theorem count_o (w : List Bool) : Txt.count (enc w) "o" = ((w.count false : Nat) : Int) := by
  rw [← one_o, count_txt, enc_list]
  exact congrArg _ (count_map w false)
/-! ### named readings -/
def rAddS : R2 := fun x y H Q => ∃ i j, x = .str i ∧ y = .str j ∧ i.length + j.length ≤ sizeLine ∧ Q (.str (i ++ j)) H
def rCnt : V → List V → Hp → VK → Prop := fun x xs H Q => ∃ a b, x = .str a ∧ xs = [.str b] ∧ Q (.int (Txt.count a b)) H
def rIntN : List V → Hp → VK → Prop := fun xs H Q => (∃ i, xs = [.int i] ∧ Q (.int i) H) ∨ ∃ k, xs = [.bl k] ∧ Q (.int (if k = true then 1 else 0)) H
def rAbsN : List V → Hp → VK → Prop := fun xs H Q => ∃ i, xs = [.int i] ∧ Q (.int (if i < 0 then -i else i)) H
def rLenN (K : PySem.W.Frag) : List V → Hp → VK → Prop := fun xs H Q => ∃ x n, xs = [x] ∧ LenV K x H n ∧ Q (.int (n : Nat)) H
def rLstN (K : PySem.W.Frag) : List V → Hp → VK → Prop := fun xs H Q => ∃ p ys, xs = [.ref p] ∧ (SqL K H p ys ∨ SqT K H p ys) ∧ ∀ l, H l = none → Q (.ref l) (upd H l (.lst ys))
def rTupN (K : PySem.W.Frag) : List V → Hp → VK → Prop := fun xs H Q => ∃ p ys, xs = [.ref p] ∧ ((SqL K H p ys ∧ ∀ l, H l = none → Q (.ref l) (upd H l (.tup ys))) ∨ (SqT K H p ys ∧ Q (.ref p) H))
def rMulS : R2 := fun x y H Q => ∃ i n, x = .str i ∧ y = .int n ∧ MulOk i n ∧ Q (.str (Txt.mul i n)) H
def rIsN' : R2 := fun x y H Q => y = .non ∧ Q (.bl (decide (x = .non))) H
def rNotN' : R2 := fun x y H Q => y = .non ∧ Q (.bl (!decide (x = .non))) H
section
variable {X : Cx}
theorem op_addS : OpR X (binaryOp .Add) rAddS := op_add_str
theorem mt_cnt : MtR X "str.count" rCnt := mt_count
theorem call_intN : CallR X (.type "int") rIntN := call_int1
theorem call_absN : CallR X (.builtin "abs") rAbsN := call_abs
theorem call_lenN : CallR X (.builtin "len") (rLenN X.K) := call_len
theorem call_lstN : CallR X (.type "list") (rLstN X.K) := call_list_of
theorem call_tupN : CallR X (.type "tuple") (rTupN X.K) := call_tuple_of
theorem op_isZ : OpR X (compareOp .Is) rIsN' := op_isN
theorem op_notZ : OpR X (compareOp .IsNot) rNotN' := op_notN
theorem op_mulS : OpR X (binaryOp .Mult) rMulS := by
  intro pins s σ H x y v u Q I rx ry h
  obtain ⟨i, n, rfl, rfl, ok, q⟩ := h
  obtain ⟨t, rfl⟩ := rx
  obtain ⟨t', rfl⟩ := ry
  exact SB.mul ok fun t' k => ⟨.str _, H, I.tok _, ⟨_, rfl⟩, q⟩
end
section
variable {σ : L2.St} {H : Hp} {Q : VK} {K : PySem.W.Frag}
theorem v_addS {i j : Str} (l : i.length + j.length ≤ 100000) (h : Q (.str (i ++ j)) H) : rAddS (.str i) (.str j) H Q := ⟨i, j, rfl, rfl, small l, h⟩
theorem v_cnt {a b : Str} (h : Q (.int (Txt.count a b)) H) : rCnt (.str a) [.str b] H Q := ⟨a, b, rfl, rfl, h⟩
theorem v_intI {i : Int} (h : Q (.int i) H) : rIntN [.int i] H Q := .inl ⟨i, rfl, h⟩
theorem v_intB {k : Bool} (h : Q (.int (if k = true then 1 else 0)) H) : rIntN [.bl k] H Q := .inr ⟨k, rfl, h⟩
theorem v_abs {i : Int} (h : Q (.int (if i < 0 then -i else i)) H) : rAbsN [.int i] H Q := ⟨i, rfl, h⟩
theorem v_lenL {p : Addr} {xs : List V} (e : SqL K H p xs) (h : Q (.int (xs.length : Nat)) H) : rLenN K [.ref p] H Q := ⟨.ref p, xs.length, rfl, .inl ⟨xs, e, rfl⟩, h⟩
theorem v_lenT {p : Addr} {xs : List V} (e : SqT K H p xs) (h : Q (.int (xs.length : Nat)) H) : rLenN K [.ref p] H Q := ⟨.ref p, xs.length, rfl, .inr ⟨xs, e, rfl⟩, h⟩
theorem v_lenS {z : Str} (l : z.length ≤ sizeLine) (h : Q (.int (z.length : Nat)) H) : rLenN K [.str z] H Q := ⟨.str z, z.length, rfl, ⟨l, rfl⟩, h⟩
theorem v_lstL {p : Addr} {xs : List V} (e : SqL K H p xs) (h : ∀ l H', H l = none → Same H H' → H' l = some (.lst xs) → Q (.ref l) H') : rLstN K [.ref p] H Q := ⟨p, xs, rfl, .inl e, v_new h⟩
theorem v_lstT {p : Addr} {xs : List V} (e : SqT K H p xs) (h : ∀ l H', H l = none → Same H H' → H' l = some (.lst xs) → Q (.ref l) H') : rLstN K [.ref p] H Q := ⟨p, xs, rfl, .inr e, v_new h⟩
theorem v_tupL {p : Addr} {xs : List V} (e : SqL K H p xs) (h : ∀ l H', H l = none → Same H H' → H' l = some (.tup xs) → Q (.ref l) H') : rTupN K [.ref p] H Q := ⟨p, xs, rfl, .inl ⟨e, v_new h⟩⟩
theorem v_tupT {p : Addr} {xs : List V} (e : SqT K H p xs) (h : Q (.ref p) H) : rTupN K [.ref p] H Q := ⟨p, xs, rfl, .inr ⟨e, h⟩⟩
theorem v_isN {x : V} (h : Q (.bl (decide (x = .non))) H) : rIsN' x .non H Q := ⟨rfl, h⟩
theorem v_notN {x : V} (h : Q (.bl (!decide (x = .non))) H) : rNotN' x .non H Q := ⟨rfl, h⟩
theorem v_slS {z : Str} {lo hi : Option Int} (l : z.length ≤ sizeLine) (h : Q (.str (cutS z lo hi)) H) : rSlS (.str z) lo hi H Q := ⟨z, rfl, l, h⟩
theorem v_slL {a : Addr} {xs : List V} {lo hi : Option Int} (e : SqL K H a xs) (h : ∀ l H', H l = none → Same H H' → H' l = some (.lst (cutV xs lo hi)) → Q (.ref l) H') : rSlL K (.ref a) lo hi H Q := ⟨a, xs, rfl, e, v_new h⟩
theorem v_rep {l : Addr} {xs : List V} {k : Int} (e : H l = some (.lst xs)) (h0 : 0 ≤ k) (h1 : k ≤ 10000) (h2 : xs.length ≤ 10) (h : ∀ p H', H p = none → Same H H' → H' p = some (.lst (List.replicate k.toNat xs).flatten) → Q (.ref p) H') : rRep (.ref l) (.int k) H Q := by
  refine ⟨l, k, xs, rfl, rfl, e, by omega, by omega, small ?_, v_new ?_⟩
  · have : xs.length * k.toNat ≤ 10 * k.toNat := Nat.mul_le_mul_right _ h2
    omega
  · exact h
theorem v_cat {l b : Addr} {xs zs : List V} (e : H l = some (.lst xs)) (e2 : H b = some (.lst zs)) (z : xs.length + zs.length ≤ 100000) (h : ∀ p H', H p = none → Same H H' → H' p = some (.lst (xs ++ zs)) → Q (.ref p) H') : rCat (.ref l) (.ref b) H Q :=
  ⟨l, b, xs, zs, rfl, rfl, e, e2, small z, v_new h⟩
end
end Sk
namespace Sk
open PySem PySem.Spec PyProof.Rows L2
/-! What the top has written, as the defs' walks ask it. -/
structure IsaC (K : PySem.W.Frag) (C : Addr) : Prop where
  ha : PySem.W.findIn K (.ref C) "__class__" = some (some (.builtin "object.__class__"))
  hn : PySem.W.specialIn K (.builtin "object.__class__") "__get__" = some (some (.builtin "getset_descriptor.__get__"))
  ht : PySem.W.takesIn K (.builtin "object.__class__") = some true
  hm : PySem.W.mroIn K C (.type "object") = some true
structure Tx (K : PySem.W.Frag) (mg : Str → Option Value) : Prop where
  n_isinstance : mg "isinstance" = none
  n_int : mg "int" = none
  n_bool : mg "bool" = none
  n_str : mg "str" = none
  n_list : mg "list" = none
  n_tuple : mg "tuple" = none
  n_len : mg "len" = none
  n_range : mg "range" = none
  n_zip : mg "zip" = none
  n_enumerate : mg "enumerate" = none
  n_abs : mg "abs" = none
  n_sorted : mg "sorted" = none
  v_MOST_SIZE : ∃ t, mg "MOST_SIZE" = some (.int 6 t)
  v_MOST_WIDTH : ∃ t, mg "MOST_WIDTH" = some (.int 12 t)
  v_STEEPEST : ∃ t, mg "STEEPEST" = some (.int 9 t)
  g_Column : mg "Column" = some (.ref (He.ga K "Column"))
  g_Card : mg "Card" = some (.ref (He.ga K "Card"))
  g_Print : mg "Print" = some (.ref (He.ga K "Print"))
  g_CardError : mg "CardError" = some (.ref (He.ga K "CardError"))
  g_BadView : mg "BadView" = some (.ref (He.ga K "BadView"))
  g_BadSlope : mg "BadSlope" = some (.ref (He.ga K "BadSlope"))
  i_Column : IsaC K (He.ga K "Column")
  c_Column : Cls K (He.ga K "Column")
  c_Card : Cls K (He.ga K "Card")
  c_Print : Cls K (He.ga K "Print")
  a_Column_word : NoAttr K (He.ga K "Column") "word"
  a_Column_size : NoAttr K (He.ga K "Column") "size"
  a_Card_columns : NoAttr K (He.ga K "Card") "columns"
  a_Card_marks : NoAttr K (He.ga K "Card") "marks"
  a_Card_size : NoAttr K (He.ga K "Card") "size"
  a_Card_width : NoAttr K (He.ga K "Card") "width"
  a_Card_words : NoAttr K (He.ga K "Card") "words"
  a_Print_inks : NoAttr K (He.ga K "Print") "inks"
  a_Print_size : NoAttr K (He.ga K "Print") "size"
  a_Print_width : NoAttr K (He.ga K "Print") "width"
/-! ### classes -/
structure MkG (P : Program) (w : World) (K : PySem.W.Frag) (mg : Str → Option Value) (base : Heap) (CX : CXT) (k : Nat) (cn : Str) (sp : Sp) : Prop where
  ex : ∃ f fd ps, FnOk P w K mg base CX k f fd ps sp ∧ mg cn = some (.ref (He.ga K cn)) ∧ Mk K (He.ga K cn) f ∧ Binds K fd ps []
structure InitAt (K : PySem.W.Frag) (mg : Str → Option Value) (cn qual : Str) (ps : List Str) (st : Stmt) : Prop where
  ex : ∃ f fd dvs kws, FunD K "__init__" qual (defArgs st) (defBody st) (defScope st) dvs kws f fd ∧ mg cn = some (.ref (He.ga K cn)) ∧ Mk K (He.ga K cn) f ∧ Binds K fd ps []
theorem InitAt.ok {P : Program} {w : World} {K : PySem.W.Frag} {mg : Str → Option Value} {base : Heap} {cn qual : Str} {ps N : List Str} {st : Stmt} {sp : Sp} (k : Nat) (D : InitAt K mg cn qual ps st) (S : FnScope N ps (defScope st)) (len : ∀ vs H Q E, sp vs H Q E → vs.length = ps.length)
    (hbody : ∀ (f : Addr) (cdv : Value) (A : Around) (outer : List Env) (s : Shared) (H : Hp) (vs : List V) (Q : VK) (E : XK), Room k (A.deeper (envOfC qual (defScope st) s.heap.objs.size f cdv)) → sp vs H Q E →
      ∃ t, PSs (cxOf CX0 P w K mg base N qual (defScope st) f cdv A outer s H E).nox (defBody st) t ∧ t { nx := fun _ H' => Q .non H', rt := Q } (start N vs) H) : MkG P w K mg base CX0 (k + 1) cn sp := by
  obtain ⟨f, fd, dvs, kws, F, m, M, b⟩ := D.ex
  refine ⟨f, fd, ps, F.ok S len (fun cdv A outer s H vs Q E hr h => ?_), m, M, b⟩
  obtain ⟨t, h1, q⟩ := hbody f cdv A outer s H vs Q E hr h
  exact ⟨t, h1.nox, q⟩
theorem pe_mkg {X : Cx} {K : PySem.W.Frag} {CX : CXT} {k : Nat} {sp : Sp} {E : XK} {x : Str} {p pos : Pos} {e : Expr} {es : List Expr} {t : TA} (eK : X.K = K) (G : MkG X.prog X.w K X.mg X.base CX k x sp) (hr : Room (k + 1) X.A) (hg : Gl X x) (hx : Passes CX X E)
    (ha : PA X (e :: es) t) (hdb : (x == ("__debug__" : Str)) = false := by decide) (he : starEach (e :: es) X.env = (false, eval e X.env) :: starEach es X.env := by rfl) (hpl : (backTo pos (starEach es X.env)).any (·.1) = false := by rfl) :
    PE X (.Call (.Name x p) (e :: es) [] pos) (tMake (He.ga K x) sp [] E t) := by
  subst eK
  obtain ⟨f, fd, ps, F, m, M, b⟩ := G.ex
  exact pe_make M F hr hg m b .nil hx ha hdb he hpl
def nMake (C : Addr) (sp : Sp) (E : XK) (vs : List V) (H1 : Hp) (Q : VK) : Prop := ∀ x dx, H1 x = none → H1 dx = none → dx ≠ x → sp (.ref x :: (vs ++ [])) (upd (upd H1 dx (.own x)) x (.ins C dx [])) (fun v H2 => v = .non ∧ Q (.ref x) H2) E
theorem z_make {C : Addr} {sp : Sp} {E : XK} {t : TA} {σ : L2.St} {H : Hp} {Q : VK} (h : t σ H fun vs H1 => nMake C sp E vs H1 Q) : tMake C sp [] E t σ H Q := h
theorem v_make {C : Addr} {sp : Sp} {E : XK} {vs : List V} {H : Hp} {Q : VK} (h : ∀ x dx H', H x = none → Same H H' → H' x = some (.ins C dx []) → sp (.ref x :: vs) H' (fun v H2 => v = .non ∧ Q (.ref x) H2) E) : nMake C sp E vs H Q := by
  intro x dx n1 n2 ne
  rw [List.append_nil]
  refine h x dx _ n1 ((same_new n2).trans (same_new ?_)) upd_same
  rw [upd_ne (Ne.symm ne)]
  exact n1
/-! ### the bag -/
def Bag (H : Hp) (b : Addr) : Prop := ∃ x y z : Int, H b = some (.lst [.int x, .int y, .int z])
theorem Bag.same {H H' : Hp} {b : Addr} (B : Bag H b) (s : Same H H') : Bag H' b := by
  obtain ⟨x, y, z, h⟩ := B
  exact ⟨x, y, z, s _ _ h⟩
theorem Bag.but {H H' : Hp} {b l : Addr} (B : Bag H b) (n : b ≠ l) (s : But l H H') : Bag H' b := by
  obtain ⟨x, y, z, h⟩ := B
  exact ⟨x, y, z, s _ _ n h⟩
theorem Bag.ne {H : Hp} {b l : Addr} (B : Bag H b) (n : H l = none) : b ≠ l := by
  obtain ⟨x, y, z, h⟩ := B
  exact ne_of_none h n
end Sk
/-! zip's next, whatever has become of the tuple that it handed out last; enumerate over such a zip. -/
namespace Zn
open PySem PySem.Calls
open Sem (wp)
abbrev Rec (h : Heap) (z TI TO : Addr) (w0 : Value) (f : Bool) : Prop :=
  h.get? z = some { cls := .type "zip", dict := none, data := .fields #[w0, .bool f, .bool false, .ref TI, .ref TO], slots := #[] }
def ZipSt (h : Heap) (z TI TO : Addr) : Prop := ∃ (w0 : Value) (f : Bool), Rec h z TI TO w0 f ∧ (w0 = .none ∨ ∃ T : Addr, w0 = rawInt T)
section
variable {prog : Program} {w : World} {A : Around} {E : Value → Shared → Prop} {s : Shared}
theorem alive_any {a : Addr} {Q : Option Obj → Shared → Prop} (h : Q (s.heap.get? a) s) : wpAny (model prog w) A (loadIfAlive a) Q E s := fun _ _ _ => h
theorem free_any {z TI TO : Addr} {w0 : Value} {f : Bool} {Q : Bool → Shared → Prop} (hz : Rec s.heap z TI TO w0 f) (hw : w0 = .none ∨ ∃ T : Addr, w0 = rawInt T)
    (h : ∀ b h' f', Rec h' z TI TO w0 f' → Heap.SameBut z s.heap h' → Q b { s with heap := h' }) : wpAny (model prog w) A (Builtin.SmallTypes.ownedTupleIsFree (.ref z)) Q E s := by
  unfold Builtin.SmallTypes.ownedTupleIsFree
  rcases hw with rfl | ⟨T, rfl⟩
  · exact wpAny_bind (wpAny_field hz rfl (x := .none) rfl (wpAny_pure (h true s.heap f hz (Heap.SameBut.refl _ _))))
  · refine wpAny_bind (wpAny_field hz rfl (x := rawInt T) rfl ?_)
    show wpAny _ _ (loadIfAlive ((T : Int).toNat) >>= _) _ _ _
    refine wpAny_bind (alive_any ?_)
    cases hT : s.heap.get? (T : Int).toNat with
    | none =>
      simp only [Option.isNone_none, if_true]
      exact wpAny_pure (h true s.heap f hz (Heap.SameBut.refl _ _))
    | some o =>
      simp only [Option.isNone_some, Bool.false_eq_true, if_false]
      refine wpAny_bind (wpAny_field hz rfl (x := .bool f) rfl ?_)
      cases f with
      | true =>
        rw [if_neg (show ¬ ((Value.bool true != Value.bool true) = true) from Bool.false_ne_true)]
        exact wpAny_pure (h false s.heap true hz (Heap.SameBut.refl _ _))
      | false =>
        rw [if_pos (show (Value.bool false != Value.bool true) = true from rfl)]
        exact wpAny_bind (wpAny_setField_rec hz (by simp) fun h1 hz1 hs1 => wpAny_pure (h false h1 true hz1 hs1))
variable {z TI TO i1 i2 : Addr} {fp1 fp2 : List Addr} {n1 n2 i : Nat} {P1 P2 : Nat → Value → Prop} {St1 St2 : Nat → Heap → Prop} {a1 a2 : Value}
/-- what a zip stands on -/
def St (z TI TO i1 i2 : Addr) (h : Heap) : Prop := ZipSt h z TI TO ∧ IsTupOf2 h TI (.ref i1) (.ref i2) ∧ ∃ a1 a2, IsTupOf2 h TO a1 a2
theorem St.keep {h h' : Heap} (st : St z TI TO i1 i2 h) (k : ∀ b, b = z ∨ b = TI ∨ b = TO → ∀ o, h.get? b = some o → h'.get? b = some o) : St z TI TO i1 i2 h' := by
  obtain ⟨⟨w0, f, hz, hw⟩, hTI, a1, a2, hTO⟩ := st
  exact ⟨⟨w0, f, k z (.inl rfl) _ hz, hw⟩, k TI (.inr (.inl rfl)) _ hTI, a1, a2, k TO (.inr (.inr rfl)) _ hTO⟩
theorem next_item {Q : Value → Shared → Prop} (S : ZipSep2 z TI TO i1 i2 fp1 fp2) (D1 : Draws prog w A i1 fp1 n1 P1 St1) (D2 : Draws prog w A i2 fp2 n2 P2 St2)
    (st : St z TI TO i1 i2 s.heap) (st1 : St1 i s.heap) (st2 : St2 i s.heap) (hlt1 : i < n1) (hlt2 : i < n2)
    (hQ : ∀ x1 x2 h' tk, P1 i x1 → P2 i x2 → St z TI TO i1 i2 h' → St1 (i + 1) h' → St2 (i + 1) h' → IsTupOf2 h' s.heap.objs.size x1 x2 → h'.objs.size = s.heap.objs.size + 1 →
      (∀ c o, c ≠ z → c ≠ TO → c ≠ i1 → c ≠ i2 → s.heap.get? c = some o → h'.get? c = some o) → Q (.ref s.heap.objs.size) { s with heap := h', toks := tk }) :
    wpAny (model prog w) A (Builtin.«zip.__next__» ⟨[.ref z], []⟩) (fun fin s' => ∃ v, fin = .done (.ret v) ∧ Q v s') E s := by
  obtain ⟨⟨w0, f, hz, hw⟩, hTI, a1, a2, hTO⟩ := st
  obtain ⟨hp, g, d, tk0, os⟩ := s
  show wpAny _ _ (field (.ref z) 2 >>= _) _ _ _
  refine wpAny_bind (wpAny_field hz rfl (x := .bool false) rfl ?_)
  show wpAny _ _ (field (.ref z) 3 >>= _) _ _ _
  refine wpAny_bind (wpAny_field hz rfl (x := .ref TI) rfl ?_)
  refine wpAny_bind (wpAny_seqItems hTI rfl ?_)
  show wpAny _ _ (Builtin.SmallTypes.ownedTupleIsFree (.ref z) >>= _) _ _ _
  refine wpAny_bind (free_any hz hw fun b p0 f0 hz0 hs0 => ?_)
  replace hs0 : Heap.SameBut z hp p0 := hs0
  have hTO0 : IsTupOf2 p0 TO a1 a2 := hs0.extBut _ _ S.TOz hTO
  have hTI0 : IsTupOf2 p0 TI (.ref i1) (.ref i2) := hs0.extBut _ _ S.TIz hTI
  have st10 := D1.over st1 hs0 S.zf1
  have st20 := D2.over st2 hs0 S.zf2
  cases b with
  | true =>
    simp only [if_true]
    refine wpAny_bind (wpAny_rule ?_)
    refine wpAny_bind (wpAny_field hz0 rfl (x := .ref TO) rfl ?_)
    refine wpAny_bind (wpAny_setField_rec hz0 (by simp) fun g0 hg0 hs1 => ?_)
    replace hg0 : Rec g0 z TI TO .ellipsis f0 := hg0
    replace hs1 : Heap.SameBut z p0 g0 := hs1
    refine wpAny_bind ?_
    simp only [List.zipIdx_cons, List.zipIdx_nil, List.forIn_cons, List.forIn_nil]
    refine wpAny_bind (wpAny_bind (wpAny_onRaise ?_))
    show wpAny _ _ (Builtin.SmallTypes.nextOf (.ref i1) >>= _) _ _ ⟨g0, g, d, tk0, os⟩
    refine wpAny_bind (D1.item i _ _ _ hlt1 (D1.over st10 hs1 S.zf1) fun x1 q1 tk1 hx1 sn1 hq1 => wpAny_pure ?_)
    replace hq1 : Heap.SameBut i1 g0 q1 := hq1
    have hU1 : IsTupOf2 q1 TO a1 a2 := hq1.extBut _ _ S.Ti1 (hs1.extBut _ _ S.TOz hTO0)
    refine wpAny_bind (wpAny_seqItems (s := ⟨q1, g, d, tk1, os⟩) hU1 rfl ?_)
    refine wpAny_bind (updateSeq_IsTupOf2 (s := ⟨q1, g, d, tk1, os⟩) hU1 fun g1 hT1 hr1 => ?_)
    replace hT1 : IsTupOf2 g1 TO x1 a2 := hT1
    replace hr1 : Heap.SameBut TO q1 g1 := hr1
    refine wpAny_bind (wpAny_letGo (wpAny_pure ?_))
    refine wpAny_bind (wpAny_bind (wpAny_onRaise ?_))
    show wpAny _ _ (Builtin.SmallTypes.nextOf (.ref i2) >>= _) _ _ ⟨g1, g, d, tk1, os⟩
    refine wpAny_bind (D2.item i _ _ _ hlt2 (D2.over (D2.over (D2.over st20 hs1 S.zf2) hq1 S.sep1_2) hr1 S.Tf2) fun x2 q2 tk2 hx2 sn2 hq2 => wpAny_pure ?_)
    replace hq2 : Heap.SameBut i2 g1 q2 := hq2
    have hU2 : IsTupOf2 q2 TO x1 a2 := hq2.extBut _ _ S.Ti2 hT1
    refine wpAny_bind (wpAny_seqItems (s := ⟨q2, g, d, tk2, os⟩) hU2 rfl ?_)
    refine wpAny_bind (updateSeq_IsTupOf2 (s := ⟨q2, g, d, tk2, os⟩) hU2 fun g2 hT2 hr2 => ?_)
    replace hT2 : IsTupOf2 g2 TO x1 x2 := hT2
    replace hr2 : Heap.SameBut TO q2 g2 := hr2
    refine wpAny_bind (wpAny_letGo (wpAny_pure (wpAny_pure ?_)))
    refine wpAny_bind (wpAny_seqItems (s := ⟨g2, g, d, tk2, os⟩) hT2 rfl ?_)
    refine wpAny_bind (wpAny_newTuple ?_)
    have hsz : g2.objs.size = hp.objs.size := by rw [hr2.1, hq2.1, hr1.1, hq1.1, hs1.1, hs0.1]
    have hzz : Rec g2 z TI TO .ellipsis f0 := (hr2.extBut _ _ S.TOz.symm (hq2.extBut _ _ S.zi2 (hr1.extBut _ _ S.TOz.symm (hq1.extBut _ _ S.zi1 hg0))))
    have hkk : ∀ c o, c ≠ z → c ≠ TO → c ≠ i1 → c ≠ i2 → hp.get? c = some o → g2.get? c = some o := fun c o cz cT c1 c2 e =>
      (hr2.extBut _ _ cT (hq2.extBut _ _ c2 (hr1.extBut _ _ cT (hq1.extBut _ _ c1 (hs1.extBut _ _ cz (hs0.extBut _ _ cz e))))))
    have hj1 : St1 (i + 1) g2 := (D1.over (D1.over (D1.over sn1 hr1 S.Tf1) hq2 S.sep2_1) hr2 S.Tf1)
    have hj2 : St2 (i + 1) g2 := (D2.over sn2 hr2 S.Tf2)
    have hzlt : z < g2.objs.size := Heap.lt_size hzz
    show wpAny _ _ (Builtin.SmallTypes.ownedTupleHandOut (.ref z) (.ref g2.objs.size) >>= _) _ _ ⟨g2.push { cls := .type "tuple", data := .seq #[x1, x2] }, g, d, tk2, os⟩
    refine wpAny_bind ?_
    unfold Builtin.SmallTypes.ownedTupleHandOut
    have hz6 : Rec (g2.push { cls := .type "tuple", data := .seq #[x1, x2] }) z TI TO .ellipsis f0 := Heap.get?_push_of_some _ hzz
    refine wpAny_bind (wpAny_setField_rec hz6 (by simp) fun h7 hz7 hs7 => ?_)
    replace hz7 : Rec h7 z TI TO (rawInt g2.objs.size) f0 := hz7
    refine wpAny_setField_rec hz7 (by simp) fun h8 hz8 hs8 => ?_
    replace hz8 : Rec h8 z TI TO (rawInt g2.objs.size) false := hz8
    replace hs7 : Heap.SameBut z (g2.push { cls := .type "tuple", data := .seq #[x1, x2] }) h7 := hs7
    replace hs8 : Heap.SameBut z h7 h8 := hs8
    have up : ∀ c o, c ≠ z → g2.get? c = some o → h8.get? c = some o := fun c o c1 e => hs8.extBut _ _ c1 (hs7.extBut _ _ c1 (Heap.get?_push_of_some _ e))
    have hT8 : IsTupOf2 h8 g2.objs.size x1 x2 := hs8.extBut _ _ (Nat.ne_of_gt hzlt) (hs7.extBut _ _ (Nat.ne_of_gt hzlt) (Heap.get?_push_size _ rfl))
    have hz9 : h8.objs.size = g2.objs.size + 1 := by rw [hs8.1, hs7.1, Heap.size_push]
    have hTI2 : IsTupOf2 g2 TI (.ref i1) (.ref i2) := hr2.extBut _ _ S.TITO (hq2.extBut _ _ S.TIi2 (hr1.extBut _ _ S.TITO (hq1.extBut _ _ S.TIi1 (hs1.extBut _ _ S.TIz hTI0))))
    rw [hsz] at hT8 hz9
    refine wpAny_pure ⟨_, rfl, ?_⟩
    show Q (.ref g2.objs.size) ⟨h8, g, d, tk2, os⟩
    rw [hsz]
    exact hQ x1 x2 h8 tk2 hx1 hx2 ⟨⟨_, _, hz8, .inr ⟨_, rfl⟩⟩, up _ _ S.TIz hTI2, _, _, up _ _ S.TOz hT2⟩ (D1.frame _ _ _ hj1 fun b hb o e => up b o (fun q => S.zf1 (q ▸ hb)) e) (D2.frame _ _ _ hj2 fun b hb o e => up b o (fun q => S.zf2 (q ▸ hb)) e) hT8 hz9 fun c o cz cT c1 c2 e => up c o cz (hkk c o cz cT c1 c2 e)
  | false =>
    simp only [Bool.false_eq_true, if_false]
    refine wpAny_bind ?_
    rw [← Array.forIn_toList]
    simp only [List.forIn_cons, List.forIn_nil]
    refine wpAny_bind (wpAny_bind (wpAny_holding ?_))
    show wpAny _ _ (Builtin.SmallTypes.nextOf (.ref i1) >>= _) _ _ ⟨p0, g, d, tk0, os⟩
    refine wpAny_bind (D1.item i _ _ _ hlt1 st10 fun x1 q1 tk1 hx1 sn1 hq1 => wpAny_pure ?_)
    replace hq1 : Heap.SameBut i1 p0 q1 := hq1
    refine wpAny_pure ?_
    refine wpAny_bind (wpAny_bind (wpAny_holding ?_))
    show wpAny _ _ (Builtin.SmallTypes.nextOf (.ref i2) >>= _) _ _ ⟨q1, g, d, tk1, os⟩
    refine wpAny_bind (D2.item i _ _ _ hlt2 (D2.over st20 hq1 S.sep1_2) fun x2 q2 tk2 hx2 sn2 hq2 => wpAny_pure ?_)
    replace hq2 : Heap.SameBut i2 q1 q2 := hq2
    refine wpAny_pure (wpAny_pure ?_)
    show wpAny _ _ (newTuple [x1, x2] >>= _) _ _ ⟨q2, g, d, tk2, os⟩
    refine wpAny_bind (wpAny_newTuple ?_)
    have hsz : q2.objs.size = hp.objs.size := by rw [hq2.1, hq1.1, hs0.1]
    have hzz : Rec q2 z TI TO w0 f0 := hq2.extBut _ _ S.zi2 (hq1.extBut _ _ S.zi1 hz0)
    have hkk : ∀ c o, c ≠ z → c ≠ TO → c ≠ i1 → c ≠ i2 → hp.get? c = some o → q2.get? c = some o := fun c o cz cT c1 c2 e =>
      hq2.extBut _ _ c2 (hq1.extBut _ _ c1 (hs0.extBut _ _ cz e))
    have up : ∀ c o, q2.get? c = some o → (q2.push { cls := .type "tuple", data := .seq #[x1, x2] }).get? c = some o := fun c o e => Heap.get?_push_of_some _ e
    have hT8 : IsTupOf2 (q2.push { cls := .type "tuple", data := .seq #[x1, x2] }) q2.objs.size x1 x2 := Heap.get?_push_size _ rfl
    have hz9 : (q2.push { cls := .type "tuple", data := .seq #[x1, x2] }).objs.size = q2.objs.size + 1 := Heap.size_push ..
    have hTI2 : IsTupOf2 q2 TI (.ref i1) (.ref i2) := hq2.extBut _ _ S.TIi2 (hq1.extBut _ _ S.TIi1 hTI0)
    have hTO2 : IsTupOf2 q2 TO a1 a2 := hq2.extBut _ _ S.Ti2 (hq1.extBut _ _ S.Ti1 hTO0)
    rw [hsz] at hT8 hz9
    refine wpAny_pure ⟨_, rfl, ?_⟩
    show Q (.ref q2.objs.size) ⟨q2.push { cls := .type "tuple", data := .seq #[x1, x2] }, g, d, tk2, os⟩
    rw [hsz]
    exact hQ x1 x2 _ tk2 hx1 hx2 ⟨⟨_, _, up _ _ hzz, hw⟩, up _ _ hTI2, _, _, up _ _ hTO2⟩ (D1.frame _ _ _ (D1.over sn1 hq2 S.sep2_1) fun b hb o e => up b o e) (D2.frame _ _ _ sn2 fun b hb o e => up b o e) hT8 hz9 fun c o cz cT c1 c2 e => up c o (hkk c o cz cT c1 c2 e)
theorem next_end {Q : Fin → Shared → Prop} (S : ZipSep2 z TI TO i1 i2 fp1 fp2) (D1 : Draws prog w A i1 fp1 n1 P1 St1) (D2 : Draws prog w A i2 fp2 n2 P2 St2)
    (st : St z TI TO i1 i2 s.heap) (st1 : St1 i s.heap) (st2 : St2 i s.heap) (hle1 : i ≤ n1) (hle2 : i ≤ n2) (hend : i = n1 ∨ i = n2)
    (hE : ∀ h' tk e, (∀ c o, c ≠ z → c ≠ TO → c ≠ i1 → c ≠ i2 → s.heap.get? c = some o → h'.get? c = some o) → (∃ o, h'.get? e = some o ∧ o.cls = .type "StopIteration") → E (.ref e) { s with heap := h', toks := tk }) :
    wpAny (model prog w) A (Builtin.«zip.__next__» ⟨[.ref z], []⟩) Q E s := by
  obtain ⟨⟨w0, f, hz, hw⟩, hTI, a1, a2, hTO⟩ := st
  obtain ⟨hp, g, d, tk0, os⟩ := s
  show wpAny _ _ (field (.ref z) 2 >>= _) _ _ _
  refine wpAny_bind (wpAny_field hz rfl (x := .bool false) rfl ?_)
  show wpAny _ _ (field (.ref z) 3 >>= _) _ _ _
  refine wpAny_bind (wpAny_field hz rfl (x := .ref TI) rfl ?_)
  refine wpAny_bind (wpAny_seqItems hTI rfl ?_)
  show wpAny _ _ (Builtin.SmallTypes.ownedTupleIsFree (.ref z) >>= _) _ _ _
  refine wpAny_bind (free_any hz hw fun b p0 f0 hz0 hs0 => ?_)
  replace hs0 : Heap.SameBut z hp p0 := hs0
  have hTO0 : IsTupOf2 p0 TO a1 a2 := hs0.extBut _ _ S.TOz hTO
  have st10 := D1.over st1 hs0 S.zf1
  have st20 := D2.over st2 hs0 S.zf2
  cases b with
  | true =>
    simp only [if_true]
    refine wpAny_bind (wpAny_rule ?_)
    refine wpAny_bind (wpAny_field hz0 rfl (x := .ref TO) rfl ?_)
    refine wpAny_bind (wpAny_setField_rec hz0 (by simp) fun g0 hg0 hs1 => ?_)
    replace hg0 : Rec g0 z TI TO .ellipsis f0 := hg0
    replace hs1 : Heap.SameBut z p0 g0 := hs1
    refine wpAny_bind ?_
    simp only [List.zipIdx_cons, List.zipIdx_nil, List.forIn_cons, List.forIn_nil]
    refine wpAny_bind (wpAny_bind (wpAny_onRaise ?_))
    show wpAny _ _ (Builtin.SmallTypes.nextOf (.ref i1) >>= _) _ _ ⟨g0, g, d, tk0, os⟩
    by_cases hlt1 : i < n1
    · refine wpAny_bind (D1.item i _ _ _ hlt1 (D1.over st10 hs1 S.zf1) fun x1 q1 tk1 hx1 sn1 hq1 => wpAny_pure ?_)
      replace hq1 : Heap.SameBut i1 g0 q1 := hq1
      have hU1 : IsTupOf2 q1 TO a1 a2 := hq1.extBut _ _ S.Ti1 (hs1.extBut _ _ S.TOz hTO0)
      refine wpAny_bind (wpAny_seqItems (s := ⟨q1, g, d, tk1, os⟩) hU1 rfl ?_)
      refine wpAny_bind (updateSeq_IsTupOf2 (s := ⟨q1, g, d, tk1, os⟩) hU1 fun g1 hT1 hr1 => ?_)
      replace hr1 : Heap.SameBut TO q1 g1 := hr1
      refine wpAny_bind (wpAny_letGo (wpAny_pure ?_))
      have hi2 : i = n2 := by omega
      refine wpAny_bind (wpAny_bind (wpAny_onRaise ?_))
      show wpAny _ _ (Builtin.SmallTypes.nextOf (.ref i2) >>= _) _ _ ⟨g1, g, d, tk1, os⟩
      refine wpAny_bind (D2.done ⟨g1, g, d, tk1, os⟩ _ _ (by rw [← hi2]; exact D2.over (D2.over (D2.over st20 hs1 S.zf2) hq1 S.sep1_2) hr1 S.Tf2) fun q e hq he => ?_)
      replace hq : Heap.ExtBut i2 g1 q := hq
      obtain ⟨oe, hoe, hce⟩ := he
      replace hoe : q.get? e = some oe := hoe
      have hzq : Rec q z TI TO .ellipsis f0 := hq _ _ S.zi2 (hr1.extBut _ _ S.TOz.symm (hq1.extBut _ _ S.zi1 hg0))
      have hez : e ≠ z := fun x => by
        subst x
        rw [hzq] at hoe
        cases hoe
        simp at hce
      refine wpAny_setField_rec (s := ⟨q, g, d, tk1, os⟩) hzq (by simp) fun q' _ hq' => ?_
      replace hq' : Heap.SameBut z q q' := hq'
      exact hE q' tk1 e (fun c o cz cT c1 c2 x => hq'.extBut _ _ cz (hq _ _ c2 (hr1.extBut _ _ cT (hq1.extBut _ _ c1 (hs1.extBut _ _ cz (hs0.extBut _ _ cz x)))))) ⟨oe, hq'.extBut _ _ hez hoe, hce⟩
    · have hi1 : i = n1 := by omega
      refine wpAny_bind (D1.done ⟨g0, g, d, tk0, os⟩ _ _ (by rw [← hi1]; exact D1.over st10 hs1 S.zf1) fun q e hq he => ?_)
      replace hq : Heap.ExtBut i1 g0 q := hq
      obtain ⟨oe, hoe, hce⟩ := he
      replace hoe : q.get? e = some oe := hoe
      have hzq : Rec q z TI TO .ellipsis f0 := hq _ _ S.zi1 hg0
      have hez : e ≠ z := fun x => by
        subst x
        rw [hzq] at hoe
        cases hoe
        simp at hce
      refine wpAny_setField_rec (s := ⟨q, g, d, tk0, os⟩) hzq (by simp) fun q' _ hq' => ?_
      replace hq' : Heap.SameBut z q q' := hq'
      exact hE q' tk0 e (fun c o cz cT c1 c2 x => hq'.extBut _ _ cz (hq _ _ c1 (hs1.extBut _ _ cz (hs0.extBut _ _ cz x)))) ⟨oe, hq'.extBut _ _ hez hoe, hce⟩
  | false =>
    simp only [Bool.false_eq_true, if_false]
    refine wpAny_bind ?_
    rw [← Array.forIn_toList]
    simp only [List.forIn_cons, List.forIn_nil]
    refine wpAny_bind (wpAny_bind (wpAny_holding ?_))
    show wpAny _ _ (Builtin.SmallTypes.nextOf (.ref i1) >>= _) _ _ ⟨p0, g, d, tk0, os⟩
    by_cases hlt1 : i < n1
    · refine wpAny_bind (D1.item i _ _ _ hlt1 st10 fun x1 q1 tk1 hx1 sn1 hq1 => wpAny_pure ?_)
      replace hq1 : Heap.SameBut i1 p0 q1 := hq1
      refine wpAny_pure ?_
      have hi2 : i = n2 := by omega
      refine wpAny_bind (wpAny_bind (wpAny_holding ?_))
      show wpAny _ _ (Builtin.SmallTypes.nextOf (.ref i2) >>= _) _ _ ⟨q1, g, d, tk1, os⟩
      refine wpAny_bind (D2.done ⟨q1, g, d, tk1, os⟩ _ _ (by rw [← hi2]; exact D2.over st20 hq1 S.sep1_2) fun q e hq he => ?_)
      exact hE q tk1 e (fun c o cz cT c1 c2 x => hq _ _ c2 (hq1.extBut _ _ c1 (hs0.extBut _ _ cz x))) he
    · have hi1 : i = n1 := by omega
      refine wpAny_bind (D1.done ⟨p0, g, d, tk0, os⟩ _ _ (by rw [← hi1]; exact st10) fun q e hq he => ?_)
      exact hE q tk0 e (fun c o cz cT c1 c2 x => hq _ _ c1 (hs0.extBut _ _ cz x)) he
/-! ### enumerate over it -/
theorem of_zip {Q : Value → Shared → Prop} (st : St z TI TO i1 i2 s.heap) (h : wpAny (model prog w) A.in1 (Builtin.«zip.__next__» ⟨[.ref z], []⟩) (fun fin s' => ∃ v, fin = .done (.ret v) ∧ Q v s') E s) :
    wpAny (model prog w) A (Builtin.SmallTypes.nextOf (.ref z)) Q E s := by
  obtain ⟨⟨w0, f, hz, hw⟩, _⟩ := st
  have hT : s.TypeIs (.ref z) "zip" := ⟨_, hz, rfl⟩
  unfold Builtin.SmallTypes.nextOf
  exact wpAny_bind (wpAny_callSpecial?_slot (name := Str.ofString "__next__") hT F.slot_zip_next (wpAny_call_entry F.slot_zip_next hT F.entry_zip_next (wpAny_mono h (fun fin s' ⟨v, e, q⟩ => ⟨v, e, wpAny_pure q⟩) fun _ _ x => x) (F.args_zip_next_1 _)))
theorem pyNext_item {Q : Option Value → Shared → Prop} (S : ZipSep2 z TI TO i1 i2 fp1 fp2) (D1 : Draws prog w A.in1 i1 fp1 n1 P1 St1) (D2 : Draws prog w A.in1 i2 fp2 n2 P2 St2)
    (st : St z TI TO i1 i2 s.heap) (st1 : St1 i s.heap) (st2 : St2 i s.heap) (hlt1 : i < n1) (hlt2 : i < n2)
    (hQ : ∀ x1 x2 h' tk, P1 i x1 → P2 i x2 → St z TI TO i1 i2 h' → St1 (i + 1) h' → St2 (i + 1) h' → IsTupOf2 h' s.heap.objs.size x1 x2 → h'.objs.size = s.heap.objs.size + 1 →
      (∀ c o, c ≠ z → c ≠ TO → c ≠ i1 → c ≠ i2 → s.heap.get? c = some o → h'.get? c = some o) → Q (some (.ref s.heap.objs.size)) { s with heap := h', toks := tk }) :
    wpAny (model prog w) A (pyNext (.ref z)) Q E s := by
  obtain ⟨⟨w0, f, hz, hw⟩, _⟩ := id st
  have hT : s.TypeIs (.ref z) "zip" := ⟨_, hz, rfl⟩
  unfold pyNext
  exact wpAny_bind (wpAny_attempt (wpAny_callSpecial?_slot (name := Str.ofString "__next__") hT F.slot_zip_next (wpAny_call_entry F.slot_zip_next hT F.entry_zip_next
    (next_item S D1 D2 st st1 st2 hlt1 hlt2 fun x1 x2 h' tk y1 y2 b1 b2 b3 b4 b5 b6 => wpAny_pure (hQ x1 x2 h' tk y1 y2 b1 b2 b3 b4 b5 b6)) (F.args_zip_next_1 _))))
theorem pyNext_end {Q : Option Value → Shared → Prop} (S : ZipSep2 z TI TO i1 i2 fp1 fp2) (D1 : Draws prog w A.in1 i1 fp1 n1 P1 St1) (D2 : Draws prog w A.in1 i2 fp2 n2 P2 St2)
    (st : St z TI TO i1 i2 s.heap) (st1 : St1 i s.heap) (st2 : St2 i s.heap) (hle1 : i ≤ n1) (hle2 : i ≤ n2) (hend : i = n1 ∨ i = n2)
    (hQ : ∀ h' tk, (∀ c o, c ≠ z → c ≠ TO → c ≠ i1 → c ≠ i2 → s.heap.get? c = some o → h'.get? c = some o) → Q none { s with heap := h', toks := tk }) : wpAny (model prog w) A (pyNext (.ref z)) Q E s := by
  obtain ⟨⟨w0, f, hz, hw⟩, _⟩ := id st
  have hT : s.TypeIs (.ref z) "zip" := ⟨_, hz, rfl⟩
  unfold pyNext
  refine wpAny_bind (wpAny_attempt (wpAny_callSpecial?_slot (name := Str.ofString "__next__") hT F.slot_zip_next (wpAny_call_entry F.slot_zip_next hT F.entry_zip_next
    (next_end S D1 D2 st st1 st2 hle1 hle2 hend fun h' tk e hk he => ?_) (F.args_zip_next_1 _))))
  obtain ⟨o, ho, hc⟩ := he
  refine wpAny_bind (wpAny_isInstance (T := "StopIteration") (b := true) ⟨o, ho, hc⟩ isSubtype_stop ?_)
  exact wpAny_pure (hQ _ _ hk)
structure Apart (e z TI TO i1 i2 : Addr) (fp1 fp2 : List Addr) : Prop where
  z : e ≠ z
  TI : e ≠ TI
  TO : e ≠ TO
  i1 : e ≠ i1
  i2 : e ≠ i2
  f1 : e ∉ fp1
  f2 : e ∉ fp2
theorem enum_item {e : Addr} {c : Int} {old : Value} {Q : Value → Shared → Prop} (S : ZipSep2 z TI TO i1 i2 fp1 fp2) (B : Apart e z TI TO i1 i2 fp1 fp2) (D1 : Draws prog w A.in1 i1 fp1 n1 P1 St1) (D2 : Draws prog w A.in1 i2 fp2 n2 P2 St2)
    (he : IsEnum s.heap e z c old) (st : St z TI TO i1 i2 s.heap) (st1 : St1 i s.heap) (st2 : St2 i s.heap) (hlt1 : i < n1) (hlt2 : i < n2)
    (hQ : ∀ x1 x2 h' tk tk', P1 i x1 → P2 i x2 → IsEnumOut h' e z (c + 1) (.ref s.heap.objs.size) (s.heap.objs.size + 1) → St z TI TO i1 i2 h' → St1 (i + 1) h' → St2 (i + 1) h' → IsTupOf2 h' s.heap.objs.size x1 x2 →
      IsTupOf2 h' (s.heap.objs.size + 1) (.int c tk) (.ref s.heap.objs.size) → (∀ b o, b ≠ e → b ≠ z → b ≠ TO → b ≠ i1 → b ≠ i2 → s.heap.get? b = some o → h'.get? b = some o) → Q (.ref (s.heap.objs.size + 1)) { s with heap := h', toks := tk' }) :
    wpAny (model prog w) A (Builtin.«enumerate.__next__» ⟨[.ref e], []⟩) (fun fin s' => ∃ v, fin = .done (.ret v) ∧ Q v s') E s := by
  obtain ⟨hp, g, d, tk0, os⟩ := s
  show wpAny _ _ (field (.ref e) 2 >>= _) _ _ _
  refine wpAny_bind (wpAny_field he rfl (x := .ref z) rfl ?_)
  refine wpAny_bind (of_zip st (next_item S D1 D2 st st1 st2 hlt1 hlt2 fun x1 x2 h1 tk y1 y2 b1 b2 b3 b4 b5 b6 => ?_))
  have he1 : IsEnum h1 e z c old := b6 _ _ B.z B.TO B.i1 B.i2 he
  show wpAny _ _ (field (.ref e) 3 >>= _) _ _ ⟨h1, g, d, tk, os⟩
  refine wpAny_bind (wpAny_field he1 rfl (x := rawInt c) rfl ?_)
  show wpAny _ _ (field (.ref e) 4 >>= _) _ _ ⟨h1, g, d, tk, os⟩
  refine wpAny_bind (wpAny_field he1 rfl (x := .none) rfl ?_)
  show wpAny _ _ (mkInt c >>= _) _ _ ⟨h1, g, d, tk, os⟩
  refine wpAny_bind (wpAny_mkInt ?_)
  show wpAny _ _ (setField (.ref e) 3 (rawInt (c + 1)) >>= _) _ _ ⟨h1, g, d, tk + 1, os⟩
  refine wpAny_bind (wpAny_setField_rec he1 (by simp) fun h2 he2 hs2 => ?_)
  replace hs2 : Heap.SameBut e h1 h2 := hs2
  replace he2 : IsEnum h2 e z (c + 1) old := he2
  show wpAny _ _ (setField (.ref e) 4 .none >>= _) _ _ ⟨h2, g, d, tk + 1, os⟩
  refine wpAny_bind (wpAny_setField_rec he2 (by simp) fun h3 he3 hs3 => ?_)
  replace hs3 : Heap.SameBut e h2 h3 := hs3
  replace he3 : IsEnum h3 e z (c + 1) old := he3
  show wpAny _ _ (newTuple [.int c tk, .ref hp.objs.size] >>= _) _ _ ⟨h3, g, d, tk + 1, os⟩
  refine wpAny_bind (wpAny_newTuple ?_)
  have hsz : h3.objs.size = hp.objs.size + 1 := by rw [hs3.1, hs2.1, b5]
  have hel : e < hp.objs.size := Heap.lt_size he
  have he4 : IsEnum (h3.push { cls := .type "tuple", data := .seq #[.int c tk, .ref hp.objs.size] }) e z (c + 1) old := Heap.get?_push_of_some _ he3
  have ht4 : IsTupOf2 (h3.push { cls := .type "tuple", data := .seq #[.int c tk, .ref hp.objs.size] }) (hp.objs.size + 1) (.int c tk) (.ref hp.objs.size) := by
    rw [← hsz]
    exact Heap.get?_push_size _ rfl
  have k4 : ∀ b o, b ≠ e → h1.get? b = some o → (h3.push { cls := .type "tuple", data := .seq #[.int c tk, .ref hp.objs.size] }).get? b = some o := fun b o hb x => Heap.get?_push_of_some _ (hs3.extBut b o hb (hs2.extBut b o hb x))
  generalize hh4 : h3.push { cls := .type "tuple", data := .seq #[.int c tk, .ref hp.objs.size] } = h4 at he4 ht4 k4
  show wpAny _ _ (Builtin.SmallTypes.ownedTupleIsFree (.ref e) >>= _) _ _ ⟨h4, g, d, tk + 1, os⟩
  rw [hsz]
  refine wpAny_bind ?_
  unfold Builtin.SmallTypes.ownedTupleIsFree
  refine wpAny_bind (wpAny_field he4 rfl (x := .none) rfl (wpAny_pure ?_))
  simp only [if_true]
  refine wpAny_bind (wpAny_rule ?_)
  refine wpAny_bind (wpAny_field he4 rfl (x := old) rfl ?_)
  refine wpAny_bind (wpAny_setField_rec he4 (by simp) fun h5 he5 hs5 => ?_)
  replace hs5 : Heap.SameBut e h4 h5 := hs5
  replace he5 : IsEnum h5 e z (c + 1) (.ref hp.objs.size) := he5
  show wpAny _ _ (Builtin.SmallTypes.ownedTupleHandOut (.ref e) (.ref (hp.objs.size + 1)) >>= _) _ _ ⟨h5, g, d, tk + 1, os⟩
  refine wpAny_bind ?_
  unfold Builtin.SmallTypes.ownedTupleHandOut
  refine wpAny_bind (wpAny_setField_rec he5 (by simp) fun h6 he6 hs6 => ?_)
  replace hs6 : Heap.SameBut e h5 h6 := hs6
  replace he6 : IsEnumOut h6 e z (c + 1) (.ref hp.objs.size) (hp.objs.size + 1) := he6
  refine wpAny_setField_rec he6 (by simp) fun h7 he7 hs7 => ?_
  replace hs7 : Heap.SameBut e h6 h7 := hs7
  replace he7 : IsEnumOut h7 e z (c + 1) (.ref hp.objs.size) (hp.objs.size + 1) := he7
  have up : ∀ b o, b ≠ e → h4.get? b = some o → h7.get? b = some o := fun b o hb x => hs7.extBut b o hb (hs6.extBut b o hb (hs5.extBut b o hb x))
  have n0 : hp.objs.size ≠ e := Nat.ne_of_gt hel
  have n1' : hp.objs.size + 1 ≠ e := Nat.ne_of_gt (Nat.lt_succ_of_lt hel)
  refine wpAny_bind (wpAny_letGo (wpAny_pure ⟨_, rfl, hQ x1 x2 h7 tk (tk + 1) y1 y2 he7 (b1.keep fun b hb o x => ?_) (D1.frame _ _ _ b2 fun b hb o x => ?_) (D2.frame _ _ _ b3 fun b hb o x => ?_) (up _ _ n0 (k4 _ _ n0 b4)) (up _ _ n1' ht4) fun b o c1 c2 c3 c4 c5 x => up b o c1 (k4 b o c1 (b6 b o c2 c3 c4 c5 x))⟩))
  · have hbe : b ≠ e := by
      rcases hb with q | q | q <;> rw [q]
      · exact B.z.symm
      · exact B.TI.symm
      · exact B.TO.symm
    exact up b o hbe (k4 b o hbe x)
  · have hbe : b ≠ e := fun q => B.f1 (q ▸ hb)
    exact up b o hbe (k4 b o hbe x)
  · have hbe : b ≠ e := fun q => B.f2 (q ▸ hb)
    exact up b o hbe (k4 b o hbe x)
theorem pyNext_enum_item {e : Addr} {c : Int} {old : Value} {Q : Option Value → Shared → Prop} (S : ZipSep2 z TI TO i1 i2 fp1 fp2) (B : Apart e z TI TO i1 i2 fp1 fp2) (D1 : Draws prog w A.in1.in1 i1 fp1 n1 P1 St1) (D2 : Draws prog w A.in1.in1 i2 fp2 n2 P2 St2)
    (he : IsEnum s.heap e z c old) (st : St z TI TO i1 i2 s.heap) (st1 : St1 i s.heap) (st2 : St2 i s.heap) (hlt1 : i < n1) (hlt2 : i < n2)
    (hQ : ∀ x1 x2 h' tk tk', P1 i x1 → P2 i x2 → IsEnumOut h' e z (c + 1) (.ref s.heap.objs.size) (s.heap.objs.size + 1) → St z TI TO i1 i2 h' → St1 (i + 1) h' → St2 (i + 1) h' → IsTupOf2 h' s.heap.objs.size x1 x2 →
      IsTupOf2 h' (s.heap.objs.size + 1) (.int c tk) (.ref s.heap.objs.size) → (∀ b o, b ≠ e → b ≠ z → b ≠ TO → b ≠ i1 → b ≠ i2 → s.heap.get? b = some o → h'.get? b = some o) → Q (some (.ref (s.heap.objs.size + 1))) { s with heap := h', toks := tk' }) :
    wpAny (model prog w) A (pyNext (.ref e)) Q E s := by
  have hT : s.TypeIs (.ref e) "enumerate" := ⟨_, he, rfl⟩
  unfold pyNext
  exact wpAny_bind (wpAny_attempt (wpAny_callSpecial?_slot (name := Str.ofString "__next__") hT F.slot_enumerate_next (wpAny_call_entry F.slot_enumerate_next hT F.entry_enumerate_next
    (enum_item S B D1 D2 he st st1 st2 hlt1 hlt2 fun x1 x2 h' tk tk' y1 y2 a1 a2 a3 a4 a5 a6 a7 => wpAny_pure (hQ x1 x2 h' tk tk' y1 y2 a1 a2 a3 a4 a5 a6 a7)) (F.args_enumerate_next_1 _))))
theorem pyNext_enum_end {e : Addr} {c : Int} {old : Value} {Q : Option Value → Shared → Prop} (S : ZipSep2 z TI TO i1 i2 fp1 fp2) (D1 : Draws prog w A.in1.in1 i1 fp1 n1 P1 St1) (D2 : Draws prog w A.in1.in1 i2 fp2 n2 P2 St2)
    (he : IsEnum s.heap e z c old) (st : St z TI TO i1 i2 s.heap) (st1 : St1 i s.heap) (st2 : St2 i s.heap) (hle1 : i ≤ n1) (hle2 : i ≤ n2) (hend : i = n1 ∨ i = n2)
    (hQ : ∀ h' tk, (∀ c o, c ≠ z → c ≠ TO → c ≠ i1 → c ≠ i2 → s.heap.get? c = some o → h'.get? c = some o) → Q none { s with heap := h', toks := tk }) : wpAny (model prog w) A (pyNext (.ref e)) Q E s := by
  have hT : s.TypeIs (.ref e) "enumerate" := ⟨_, he, rfl⟩
  unfold pyNext
  refine wpAny_bind (wpAny_attempt (wpAny_callSpecial?_slot (name := Str.ofString "__next__") hT F.slot_enumerate_next (wpAny_call_entry F.slot_enumerate_next hT F.entry_enumerate_next ?_ (F.args_enumerate_next_1 _))))
  show wpAny _ _ (field (.ref e) 2 >>= _) _ _ _
  refine wpAny_bind (wpAny_field he rfl (x := .ref z) rfl ?_)
  refine wpAny_bind (of_zip st (next_end S D1 D2 st st1 st2 hle1 hle2 hend fun h' tk x hk hx => ?_))
  obtain ⟨o, ho, hc⟩ := hx
  refine wpAny_bind (wpAny_isInstance (T := "StopIteration") (b := true) ⟨o, ho, hc⟩ isSubtype_stop ?_)
  exact wpAny_pure (hQ _ _ hk)
end
end Zn
namespace Sk
open PySem PySem.Spec PyProof.Rows L2
/-! zip and enumerate over texts, tuples and lists that stand. -/
section
variable {prog : Program} {w : World} {A : Around} {E : Value → Shared → Prop} {s : Shared}
theorem go_zip {z TI TO i1 i2 T : Addr} {elts : List Expr} {x1 : Nat} {pos : Pos} {Q : Unit → Shared → Prop} (hTI : TI ≠ z) (hTO : TO ≠ z) (st : Zn.St z TI TO i1 i2 s.heap)
    (hQ : ∀ h', Zn.St z TI TO i1 i2 h' → Heap.SameBut z s.heap h' → Q () { s with heap := h' }) : wpAny (model prog w) A (letOwnedTupleGo (.Tuple elts x1 pos) (.ref z) (.ref T)) Q E s := by
  obtain ⟨⟨w0, f, hz, hw⟩, h1, a1, a2, h2⟩ := st
  unfold letOwnedTupleGo
  refine wpAny_bind (wpAny_load hz ?_)
  show wpAny _ A (if (["enumerate", "zip", "dict_itemiterator", "dict_reverseitemiterator", "odict_iterator", "itertools.zip_longest", "itertools.pairwise"].contains "zip" &&
      (#[w0, .bool f, .bool false, .ref TI, .ref TO] : Array Value)[0]? == some (rawInt T)) = true then _ else _) Q E s
  split
  · refine wpAny_bind (wpAny_rule ?_)
    show wpAny _ A (setField (.ref z) 0 .none) Q E s
    exact wpAny_setField_rec hz (by simp) fun h' he' hs' => hQ h' ⟨⟨_, _, he', .inl rfl⟩, hs'.extBut _ _ hTI h1, a1, a2, hs'.extBut _ _ hTO h2⟩ hs'
  · exact wpAny_pure (hQ s.heap ⟨⟨w0, f, hz, hw⟩, h1, a1, a2, h2⟩ (Heap.SameBut.refl _ _))
set_option maxHeartbeats 1000000 in
theorem meets_enumerate_newB1 {v : Value} {o : Obj} {H : Heap → Prop} (B : Begins v o H) :
    Meets (Builtin.«enumerate.__new__» ⟨[.type "enumerate", v], []⟩) (fun _ R s => H s.heap ∧
      R (.ok (.ret (.ref (s.heap.push o).objs.size))) { s with heap := (s.heap.push o).push { cls := .type "enumerate", data := .fields #[.none, .bool false, .ref s.heap.objs.size, rawInt 0, .none, .none] } }) :=
  .of_wp fun prog w A R s h => by
    obtain ⟨hp, g, d, tk, os⟩ := s; obtain ⟨h1, h⟩ := h
    have hsub := sub_enumerate
    have q1 : ∀ {A' : Around} {E : Value → Shared → Prop} {Q : Value → Shared → Prop}, Q (.ref hp.objs.size) ⟨hp.push o, g, d, tk, os⟩ → wpAny (model prog w) A' (pyIter v) Q E ⟨hp, g, d, tk, os⟩ :=
      fun q => B.iter prog w _ _ ⟨hp, g, d, tk, os⟩ _ h1 q
    wp_walk using q1
    refine wpAny_stack_any fun st => wpAny_pure ?_
    split
    · rename_i c _ _ _ _ _
      cases (c == Value.type "enumerate")
      · wp_walk using q1
        exact ⟨_, rfl, h⟩
      · wp_walk using q1
        exact ⟨_, rfl, h⟩
    · wp_walk using q1
      exact ⟨_, rfl, h⟩
set_option maxHeartbeats 1000000 in
theorem meets_enumerate_newZ (z TI TO : Addr) :
    Meets (Builtin.«enumerate.__new__» ⟨[.type "enumerate", .ref z], []⟩) (fun _ R s => IsZip s.heap z TI TO .none ∧
      R (.ok (.ret (.ref s.heap.objs.size))) { s with heap := s.heap.push { cls := .type "enumerate", data := .fields #[.none, .bool false, .ref z, rawInt 0, .none, .none] } }) :=
  .of_wp fun prog w A R s h => by
    obtain ⟨hp, g, d, tk, os⟩ := s; obtain ⟨h1, h⟩ := h
    have hsub := sub_enumerate
    have q1 : ∀ {A' : Around} {E : Value → Shared → Prop} {Q : Value → Shared → Prop}, Q (.ref z) ⟨hp, g, d, tk, os⟩ → wpAny (model prog w) A' (pyIter (.ref z)) Q E ⟨hp, g, d, tk, os⟩ :=
      fun q => wpAny_pyIter_zip (s := ⟨hp, g, d, tk, os⟩) h1 q
    wp_walk using q1
    refine wpAny_stack_any fun st => wpAny_pure ?_
    split
    · rename_i c _ _ _ _ _
      cases (c == Value.type "enumerate")
      · wp_walk using q1
        exact ⟨_, rfl, h⟩
      · wp_walk using q1
        exact ⟨_, rfl, h⟩
    · wp_walk using q1
      exact ⟨_, rfl, h⟩
theorem enum_begins1 {v : Value} {o : Obj} {H : Heap → Prop} {Q : Value → Shared → Prop} (B : Begins v o H) (h1 : H s.heap)
    (h : ∀ h', IsEnum h' (s.heap.objs.size + 1) s.heap.objs.size 0 .none → h'.get? s.heap.objs.size = some o → h'.objs.size = s.heap.objs.size + 2 →
      (∀ b o, s.heap.get? b = some o → h'.get? b = some o) → Q (.ref (s.heap.objs.size + 1)) { s with heap := h' }) :
    wpAny (model prog w) A (call (.type "enumerate") [v]) Q E s := by
  refine callType_new F.called_enumerate (by decide) (F.typeCall_enumerate_1 _) (F.newCall_enumerate_1 _) (fun obj => F.args_object_init_2 obj _) F.entry_enumerate_new
    (meets_enumerate_newB1 B) ⟨h1, ?_⟩
  have hz : (s.heap.push o).objs.size = s.heap.objs.size + 1 := Heap.size_push ..
  show _ ∧ _
  rw [hz]
  have he : IsEnum ((s.heap.push o).push { cls := .type "enumerate", data := .fields #[.none, .bool false, .ref s.heap.objs.size, rawInt 0, .none, .none] }) (s.heap.objs.size + 1) s.heap.objs.size 0 .none := by
    have := Heap.get?_push_size (s.heap.push o) (o := { cls := .type "enumerate", data := .fields #[.none, .bool false, .ref s.heap.objs.size, rawInt 0, .none, .none] }) rfl
    rw [hz] at this; exact this
  refine ⟨⟨_, he, rfl⟩, h _ he (Heap.get?_push_of_some _ (Heap.get?_push_size _ B.free)) (by rw [Heap.size_push, hz]) fun b o x => Heap.get?_push_of_some _ (Heap.get?_push_of_some _ x)⟩
theorem enum_beginsZ {z TI TO : Addr} {Q : Value → Shared → Prop} (h1 : IsZip s.heap z TI TO .none)
    (h : ∀ h', IsEnum h' s.heap.objs.size z 0 .none → h'.objs.size = s.heap.objs.size + 1 → (∀ b o, s.heap.get? b = some o → h'.get? b = some o) → Q (.ref s.heap.objs.size) { s with heap := h' }) :
    wpAny (model prog w) A (call (.type "enumerate") [.ref z]) Q E s := by
  refine callType_new F.called_enumerate (by decide) (F.typeCall_enumerate_1 _) (F.newCall_enumerate_1 _) (fun obj => F.args_object_init_2 obj _) F.entry_enumerate_new
    (meets_enumerate_newZ z TI TO) ⟨h1, ?_⟩
  have he : IsEnum (s.heap.push { cls := .type "enumerate", data := .fields #[.none, .bool false, .ref z, rawInt 0, .none, .none] }) s.heap.objs.size z 0 .none :=
    Heap.get?_push_size s.heap (o := { cls := .type "enumerate", data := .fields #[.none, .bool false, .ref z, rawInt 0, .none, .none] }) rfl
  exact ⟨⟨_, he, rfl⟩, h _ he (by rw [Heap.size_push]) fun b o x => Heap.get?_push_of_some _ x⟩
end
/-! ### sources -/
inductive Src
  | str (z : Str)
  | tup (a : Addr) (xs : List V)
  | lst (a : Addr) (xs : List V)
def Src.val : Src → V
  | .str z => .str z
  | .tup a _ => .ref a
  | .lst a _ => .ref a
def Src.ok (H : Hp) : Src → Prop
  | .str _ => True
  | .tup a xs => H a = some (.tup xs)
  | .lst a xs => H a = some (.lst xs)
def Src.n : Src → Nat
  | .str z => z.cps.size
  | .tup _ xs => xs.length
  | .lst _ xs => xs.length
def Src.gt : Src → Nat → Option V
  | .str z, i => z.cps[i]?.map fun c => .str ⟨#[c]⟩
  | .tup _ xs, i => xs[i]?
  | .lst _ xs, i => xs[i]?
def Src.it (it : Addr) (i : Nat) (h : Heap) : Src → Prop
  | .str z => ∃ t, h.IsStrIter it (strIterType z) z t i
  | .tup a _ => h.IsTupleIter it a i
  | .lst a _ => h.IsListIter it a i
theorem Src.it_at {it : Addr} {i : Nat} {h h' : Heap} {S : Src} (e : S.it it i h) (k : ∀ o, h.get? it = some o → h'.get? it = some o) : S.it it i h' := by
  cases S with
  | str z =>
    obtain ⟨t, o, ho, r⟩ := e
    exact ⟨t, o, k o ho, r⟩
  | tup a xs => exact Heap.IsTupleIter.at e k
  | lst a xs => exact Heap.IsListIter.at e k
theorem Src.it_obj {it : Addr} {i : Nat} {h : Heap} {S : Src} (e : S.it it i h) : ∃ o, h.get? it = some o ∧ ∀ v, o.data ≠ .cell v := by
  cases S with
  | str z =>
    obtain ⟨t, o, ho, _, d⟩ := e
    exact ⟨o, ho, fun v q => by rw [d] at q; cases q⟩
  | tup a xs =>
    obtain ⟨o, ho, _, d⟩ := e
    exact ⟨o, ho, fun v q => by rw [d] at q; cases q⟩
  | lst a xs =>
    obtain ⟨o, ho, _, d⟩ := e
    exact ⟨o, ho, fun v q => by rw [d] at q; cases q⟩
section
variable {X : Cx} {pins : List (Addr × Obj)} {σ : L2.St} {H : Hp} {s : Shared}
structure Dr (X : Cx) (H : Hp) (s : Shared) (A : Around) (it : Addr) (i : Nat) (S : Src) (fp : List Addr) (P : Nat → Value → Prop) (St : Nat → Heap → Prop) : Prop where
  d : Draws X.prog X.w A it fp S.n P St
  st : St i s.heap
  mem : it ∈ fp
  all : ∀ b ∈ fp, b = it ∨ ∃ o, H b = some o
  it : ∀ j h, St j h → S.it it j h
  val : ∀ j u, P j u → ∃ x, S.gt j = some x ∧ RelV x u
theorem Dr.notin {A : Around} {it : Addr} {i : Nat} {S : Src} {fp : List Addr} {P : Nat → Value → Prop} {St : Nat → Heap → Prop} (D : Dr X H s A it i S fp P St) {b : Addr} (n : H b = none) (ne : b ≠ it) : b ∉ fp := fun hb => by
  rcases D.all b hb with e | ⟨o, e⟩
  · exact ne e
  · rw [n] at e
    cases e
theorem Src.draws (S : Src) {A : Around} {it : Addr} {i : Nat} (I : Inv X pins σ H s) (hS : S.ok H) (hf : H it = none) (st : S.it it i s.heap) (hh : A.handled = none) : ∃ fp P St, Dr X H s A it i S fp P St := by
  cases S with
  | str z =>
    obtain ⟨t, st⟩ := st
    exact ⟨_, _, _, .text hh it z t, st, by simp, fun b hb => .inl (by simpa using hb), fun j h e => ⟨t, e⟩, fun j u ⟨c, v, e, eu⟩ => ⟨.str ⟨#[c]⟩, by show z.cps[j]?.map _ = _; rw [e]; rfl, v, eu⟩⟩
  | tup a xs =>
    have hS' : H a = some (.tup xs) := hS
    obtain ⟨its, rv, p, _⟩ := I.tuple (SqT.of hS')
    have ne : a ≠ it := fun e => by
      rw [e, hf] at hS'
      cases hS'
    have D := Draws.tuple (prog := X.prog) (w := X.w) hh it a ne its.toArray
    have en : its.toArray.size = (Src.tup a xs).n := by
      rw [List.size_toArray]
      exact rv.length.symm
    rw [en] at D
    refine ⟨_, _, _, D, ⟨st, p⟩, by simp, fun b hb => ?_, fun j h e => e.1, fun j u e => ?_⟩
    · have hb' : b = it ∨ b = a := by simpa using hb
      rcases hb' with q | q
      · exact .inl q
      · exact .inr ⟨_, q ▸ hS'⟩
    · have e' : its[j]? = some u := by simpa using e
      obtain ⟨hj, _⟩ := List.getElem?_eq_some_iff.mp e'
      have hj2 : j < xs.length := by
        rw [rv.length]
        exact hj
      obtain ⟨u', e2, r⟩ := rv.get (List.getElem?_eq_getElem hj2)
      rw [e'] at e2
      cases e2
      exact ⟨_, List.getElem?_eq_getElem hj2, r⟩
  | lst a xs =>
    have hS' : H a = some (.lst xs) := hS
    obtain ⟨its, rv, p, _⟩ := I.list (SqL.of hS')
    have ne : a ≠ it := fun e => by
      rw [e, hf] at hS'
      cases hS'
    have D := Draws.list (prog := X.prog) (w := X.w) hh it a ne its.toArray
    have en : its.toArray.size = (Src.lst a xs).n := by
      rw [List.size_toArray]
      exact rv.length.symm
    rw [en] at D
    refine ⟨_, _, _, D, ⟨st, p.isList⟩, by simp, fun b hb => ?_, fun j h e => e.1, fun j u e => ?_⟩
    · have hb' : b = it ∨ b = a := by simpa using hb
      rcases hb' with q | q
      · exact .inl q
      · exact .inr ⟨_, q ▸ hS'⟩
    · have e' : its[j]? = some u := by simpa using e
      obtain ⟨hj, _⟩ := List.getElem?_eq_some_iff.mp e'
      have hj2 : j < xs.length := by
        rw [rv.length]
        exact hj
      obtain ⟨u', e2, r⟩ := rv.get (List.getElem?_eq_getElem hj2)
      rw [e'] at e2
      cases e2
      exact ⟨_, List.getElem?_eq_getElem hj2, r⟩
theorem Src.begins (S : Src) {u : Value} (I : Inv X pins σ H s) (hS : S.ok H) (r : RelV S.val u) : ∃ o Hh, Begins u o Hh ∧ Hh s.heap ∧ ∀ (h' : Heap) it, h'.get? it = some o → S.it it 0 h' := by
  cases S with
  | str z =>
    obtain ⟨t, rfl⟩ := r
    exact ⟨_, _, begins_text z t, trivial, fun h' it e => ⟨t, _, e, rfl, rfl⟩⟩
  | tup a xs =>
    obtain ⟨its, rv, p, _⟩ := I.tuple (SqT.of (show H a = some (.tup xs) from hS))
    cases r
    exact ⟨_, _, begins_tuple a its.toArray, p, fun h' it e => ⟨_, e, rfl, rfl⟩⟩
  | lst a xs =>
    obtain ⟨its, rv, p, _⟩ := I.list (SqL.of (show H a = some (.lst xs) from hS))
    cases r
    exact ⟨_, _, begins_list a its.toArray, p.isList, fun h' it e => ⟨_, e, rfl, rfl⟩⟩
end
section
variable {X : Cx} {pins : List (Addr × Obj)} {σ : L2.St} {H : Hp} {s : Shared} {h' : Heap}
theorem turnedNew2 {t' : Nat} {ch : List Addr} {T0 T : Addr} {o0 ob : HO} (I : Inv X pins σ H s) (k : ∀ b o, b ∉ ch → s.heap.get? b = some o → h'.get? b = some o) (hf : ∀ b ∈ ch, FpOk X pins H b) (hT0 : s.heap.objs.size ≤ T0) (hT : s.heap.objs.size ≤ T) (ne : T ≠ T0)
    (new0 : ObjOk X.prog X.w (upd (upd H T0 o0) T ob) h' T0 o0) (new : ObjOk X.prog X.w (upd (upd H T0 o0) T ob) h' T ob) : Inv X pins σ (upd (upd H T0 o0) T ob) { s with heap := h', toks := t' } := by
  have hn0 : H T0 = none := I.hok.fresh hT0
  have hn : H T = none := I.hok.fresh hT
  have up : ∀ b u, H b = some u → upd (upd H T0 o0) T ob b = some u := fun b u e => by
    rw [upd_ne (ne_of_none e hn), upd_ne (ne_of_none e hn0)]
    exact e
  have nit : ∀ b u, H b = some u → b ∉ ch := fun b u e z => by
    have q := (hf b z).1
    rw [q] at e; cases e
  refine I.step (g' := s.gens) (d' := s.drawn) (ch := ch) (fun b hb => ⟨(hf b hb).2.2.2.1, (hf b hb).2.1, (hf b hb).2.2.2.2.1, (hf b hb).2.2.2.2.2⟩) (fun b o _ _ hc e _ => k b o hc e) (fun b o _ _ hc e _ => ⟨o.slots, k b o hc e⟩)
    (fun b o _ e n => ?_) (fun b o hc e => ⟨o, k b o hc e⟩) (fun b xs e => up _ _ e) (fun b o u e => up _ _ e) (fun b ps e => ⟨#[], ?_⟩) (fun m hm => ?_) (fun b u e => ?_) I.bare
  · rw [upd_ne (Nat.ne_of_lt (Nat.lt_of_lt_of_le (Heap.lt_size e) hT)), upd_ne (Nat.ne_of_lt (Nat.lt_of_lt_of_le (Heap.lt_size e) hT0))]; exact n
  · rw [up _ _ e]; simp
  · obtain ⟨o, es, ep, ho, r⟩ := hm
    exact ⟨o, es, ep, k _ o (fun z => (hf _ z).2.1 rfl) ho, r⟩
  · by_cases hb : b = T
    · subst hb
      rw [upd_same] at e
      cases e
      exact new
    · rw [upd_ne hb] at e
      by_cases hb0 : b = T0
      · subst hb0
        rw [upd_same] at e
        cases e
        exact new0
      · rw [upd_ne hb0] at e
        refine (I.hok b u e).stay (fun c v hc q => k c v ?_ q) (fun c q => up _ _ q) fun c xs q => up _ _ q
        rcases hc with z | z
        · rw [z]; exact nit b u e
        · exact nit c _ z
end
/-! ### the iterators -/
structure Five (z TI TO i1 i2 : Addr) : Prop where
  TIz : TI ≠ z
  TOz : TO ≠ z
  TITO : TI ≠ TO
  TIi1 : TI ≠ i1
  TIi2 : TI ≠ i2
  zi1 : z ≠ i1
  zi2 : z ≠ i2
  TOi1 : TO ≠ i1
  TOi2 : TO ≠ i2
  i12 : i1 ≠ i2
theorem Five.sep {X : Cx} {H : Hp} {s : Shared} {A : Around} {z TI TO i1 i2 : Addr} {i : Nat} {S1 S2 : Src} {fp1 fp2 : List Addr} {P1 P2 : Nat → Value → Prop} {St1 St2 : Nat → Heap → Prop} (F : Five z TI TO i1 i2)
    (D1 : Dr X H s A i1 i S1 fp1 P1 St1) (D2 : Dr X H s A i2 i S2 fp2 P2 St2) (nz : H z = none) (nTO : H TO = none) (n1 : H i1 = none) (n2 : H i2 = none) : ZipSep2 z TI TO i1 i2 fp1 fp2 :=
  { TIz := F.TIz, TOz := F.TOz, TITO := F.TITO, TIi1 := F.TIi1, mem1 := D1.mem, zf1 := D1.notin nz F.zi1, Tf1 := D1.notin nTO F.TOi1, TIi2 := F.TIi2, mem2 := D2.mem, zf2 := D2.notin nz F.zi2, Tf2 := D2.notin nTO F.TOi2,
    sep1_2 := D2.notin n1 F.i12, sep2_1 := D1.notin n2 F.i12.symm }
def JZ (S1 S2 : Src) : It :=
  ⟨fun i H => S1.ok H ∧ S2.ok H ∧ i < S1.n ∧ i < S2.n,
    fun i H v H' => ∃ T x y, v = .ref T ∧ H T = none ∧ H' = upd H T (.tup [x, y]) ∧ S1.gt i = some x ∧ S2.gt i = some y,
    fun i H => S1.ok H ∧ S2.ok H ∧ i ≤ S1.n ∧ i ≤ S2.n ∧ (i = S1.n ∨ i = S2.n)⟩
def JEZ (S1 S2 : Src) : It :=
  ⟨fun i H => S1.ok H ∧ S2.ok H ∧ i < S1.n ∧ i < S2.n,
    fun i H v H' => ∃ T0 T x y, v = .ref T ∧ H T0 = none ∧ H T = none ∧ T ≠ T0 ∧ H' = upd (upd H T0 (.tup [x, y])) T (.tup [.int (i : Nat), .ref T0]) ∧ S1.gt i = some x ∧ S2.gt i = some y,
    fun i H => S1.ok H ∧ S2.ok H ∧ i ≤ S1.n ∧ i ≤ S2.n ∧ (i = S1.n ∨ i = S2.n)⟩
def JE (S : Src) : It :=
  ⟨fun i H => S.ok H ∧ i < S.n,
    fun i H v H' => ∃ T x, v = .ref T ∧ H T = none ∧ H' = upd H T (.tup [.int (i : Nat), x]) ∧ S.gt i = some x,
    fun i H => S.ok H ∧ i = S.n⟩
section
variable {P : Program} {w : World} {K : PySem.W.Frag} {elts : List Expr} {kk : Nat} {tpos : Pos}
theorem turn_JE (S : Src) {e it : Addr} (hne : e ≠ it) : Turn P w K (.Tuple elts kk tpos) (JE S) [e, it] e (fun i h => (∃ old, IsEnum h e it ((i : Nat) : Int) old) ∧ S.it it i h) where
  mem := by simp
  obj := fun i h st b hb => by
    obtain ⟨⟨old, he⟩, hi⟩ := st
    have e' : b = e ∨ b = it := by simpa using hb
    rcases e' with z | z
    · rw [z]; exact ⟨_, he, fun v q => nomatch q⟩
    · rw [z]; exact Src.it_obj hi
  keep := fun i h h' st k => let ⟨⟨old, he⟩, hi⟩ := st; ⟨⟨old, k e (by simp) _ he⟩, Src.it_at hi fun o q => k it (by simp) o q⟩
  item := by
    intro X hP hw hK hc i pins s σ H E I hf st hg
    subst hP hw hK
    obtain ⟨⟨old, he⟩, hit⟩ := st
    obtain ⟨hS, hlt⟩ := hg
    obtain ⟨fp, P1, St1, D⟩ := S.draws (A := X.A.in1) I hS (hf it (by simp)).1 hit (I.ok.hd hc)
    have hel : e < s.heap.objs.size := Heap.lt_size he
    have hil : it < s.heap.objs.size := by obtain ⟨_, q, _⟩ := Src.it_obj hit; exact Heap.lt_size q
    refine wpAny_pyNext_enum_itemC D.d he D.st hlt hne (D.notin (hf e (by simp)).1 hne) fun u h' tk hu ho hst hT hsz hk => ?_
    obtain ⟨x, ex, ru⟩ := D.val _ _ hu
    refine ⟨_, rfl, wpAny_letOwnedTupleGo_enum (s := { s with heap := h', toks := tk + 1 }) ho fun h'' he' sb => ?_⟩
    have hT2 : h''.get? s.heap.objs.size = some { cls := .type "tuple", data := .seq #[.int i tk, u] } := (sb.2 _ (Nat.ne_of_gt hel)).trans hT
    have new : ObjOk X.prog X.w (upd H s.heap.objs.size (.tup [.int (i : Nat), x])) h'' s.heap.objs.size (.tup [.int (i : Nat), x]) :=
      ⟨by show 2 ≤ sizeLine; decide, [.int i tk, u], .cons ⟨_, rfl⟩ (.cons ru .nil), ⟨_, hT2, rfl, _, rfl⟩⟩
    have I1 : Inv X pins σ (upd H s.heap.objs.size (.tup [.int (i : Nat), x])) { s with heap := h'', toks := tk + 1 } :=
      I.turnedNew (ch := [e, it]) (fun b ob hb q => (sb.2 b (fun z => hb (by simp [z]))).trans (hk b ob (fun z => hb (by simp [z])) (fun z => hb (by simp [z])) q)) hf (Nat.le_refl _) new
    refine ⟨.ref s.heap.objs.size, _, I1, rfl, ⟨_, x, rfl, I.hok.fresh (Nat.le_refl _), rfl, ex⟩, ⟨⟨u, ?_⟩, Src.it_at (D.it _ _ hst) fun o q => (sb.2 it (Ne.symm hne)).trans q⟩, fun b hb => ?_⟩
    · have e1 : ((i + 1 : Nat) : Int) = (i : Int) + 1 := by omega
      rw [e1]; exact he'
    · have hb' : b < s.heap.objs.size := by
        have e' : b = e ∨ b = it := by simpa using hb
        rcases e' with z | z
        · rw [z]; exact hel
        · rw [z]; exact hil
      rw [upd_ne (Nat.ne_of_lt hb')]
      exact (hf b hb).1
  done := by
    intro X hP hw hK hc i pins s σ H E I hf st hg
    subst hP hw hK
    obtain ⟨⟨old, he⟩, hit⟩ := st
    obtain ⟨hS, hlt⟩ := hg
    subst hlt
    obtain ⟨fp, P1, St1, D⟩ := S.draws (A := X.A.in1) I hS (hf it (by simp)).1 hit (I.ok.hd hc)
    exact wpAny_pyNext_enum_endD D.d he D.st fun h' eb => ⟨rfl, I.turnedL (t' := s.toks) (ch := [e, it]) (fun b o hb q => eb b o (fun z => hb (by simp [z])) q) hf⟩
  self := fun A i s Q E st h => let ⟨⟨_, he⟩, _⟩ := st; wpAny_pyIter_enum he h
theorem turn_JZ (S1 S2 : Src) {z TI TO i1 i2 : Addr} (F : Five z TI TO i1 i2) : Turn P w K (.Tuple elts kk tpos) (JZ S1 S2) [z, TI, TO, i1, i2] z (fun i h => Zn.St z TI TO i1 i2 h ∧ S1.it i1 i h ∧ S2.it i2 i h) where
  mem := by simp
  obj := fun i h st c hc => by
    obtain ⟨⟨⟨w0, f, hz, _⟩, hTI, x, y, hTO⟩, h1, h2⟩ := st
    have e' : c = z ∨ c = TI ∨ c = TO ∨ c = i1 ∨ c = i2 := by simpa using hc
    rcases e' with q | q | q | q | q
    · rw [q]; exact ⟨_, hz, fun v q => nomatch q⟩
    · rw [q]; exact ⟨_, hTI, fun v q => nomatch q⟩
    · rw [q]; exact ⟨_, hTO, fun v q => nomatch q⟩
    · rw [q]; exact Src.it_obj h1
    · rw [q]; exact Src.it_obj h2
  keep := fun i h h' st k => by
    obtain ⟨st, h1, h2⟩ := st
    refine ⟨st.keep fun b hb o e => k b ?_ o e, Src.it_at h1 fun o q => k i1 (by simp) o q, Src.it_at h2 fun o q => k i2 (by simp) o q⟩
    rcases hb with q | q | q <;> rw [q] <;> simp
  item := by
    intro X hP hw hK hc i pins s σ H E I hf st hg
    subst hP hw hK
    obtain ⟨st, h1, h2⟩ := st
    obtain ⟨hS1, hS2, hl1, hl2⟩ := hg
    obtain ⟨fp1, P1, St1, D1⟩ := S1.draws (A := X.A.in1) I hS1 (hf i1 (by simp)).1 h1 (I.ok.hd hc)
    obtain ⟨fp2, P2, St2, D2⟩ := S2.draws (A := X.A.in1) I hS2 (hf i2 (by simp)).1 h2 (I.ok.hd hc)
    have sep := F.sep D1 D2 (hf z (by simp)).1 (hf TO (by simp)).1 (hf i1 (by simp)).1 (hf i2 (by simp)).1
    have lt : ∀ c, c ∈ [z, TI, TO, i1, i2] → c < s.heap.objs.size := fun c hcm => by
      obtain ⟨⟨w0, f, hz, _⟩, hTI, x, y, hTO⟩ := id st
      have e' : c = z ∨ c = TI ∨ c = TO ∨ c = i1 ∨ c = i2 := by simpa using hcm
      rcases e' with q | q | q | q | q
      · rw [q]; exact Heap.lt_size hz
      · rw [q]; exact Heap.lt_size hTI
      · rw [q]; exact Heap.lt_size hTO
      · rw [q]; obtain ⟨_, e, _⟩ := Src.it_obj h1; exact Heap.lt_size e
      · rw [q]; obtain ⟨_, e, _⟩ := Src.it_obj h2; exact Heap.lt_size e
    have hzl : z < s.heap.objs.size := lt z (by simp)
    refine Zn.pyNext_item sep D1.d D2.d st D1.st D2.st hl1 hl2 fun u u2 h' tk p1 p2 st' q1 q2 hT hsz hk => ?_
    obtain ⟨x, ex, ru⟩ := D1.val _ _ p1
    obtain ⟨y, ey, ru2⟩ := D2.val _ _ p2
    refine ⟨_, rfl, go_zip (s := { s with heap := h', toks := tk }) F.TIz F.TOz st' fun h'' st'' sb => ?_⟩
    have hT2 : h''.get? s.heap.objs.size = some { cls := .type "tuple", data := .seq #[u, u2] } := (sb.2 _ (Nat.ne_of_gt hzl)).trans hT
    have new : ObjOk X.prog X.w (upd H s.heap.objs.size (.tup [x, y])) h'' s.heap.objs.size (.tup [x, y]) :=
      ⟨by show 2 ≤ sizeLine; decide, [u, u2], .cons ru (.cons ru2 .nil), ⟨_, hT2, rfl, _, rfl⟩⟩
    have I1 : Inv X pins σ (upd H s.heap.objs.size (.tup [x, y])) { s with heap := h'', toks := tk } :=
      I.turnedNew (ch := [z, TI, TO, i1, i2]) (fun c o hb q => (sb.2 c (fun q' => hb (by simp [q']))).trans (hk c o (fun q' => hb (by simp [q'])) (fun q' => hb (by simp [q'])) (fun q' => hb (by simp [q'])) (fun q' => hb (by simp [q'])) q)) hf (Nat.le_refl _) new
    refine ⟨.ref s.heap.objs.size, _, I1, rfl, ⟨_, x, y, rfl, I.hok.fresh (Nat.le_refl _), rfl, ex, ey⟩, ⟨st'', Src.it_at (D1.it _ _ q1) fun o q => (sb.2 _ F.zi1.symm).trans q, Src.it_at (D2.it _ _ q2) fun o q => (sb.2 _ F.zi2.symm).trans q⟩, fun c hcm => ?_⟩
    rw [upd_ne (Nat.ne_of_lt (lt c hcm))]
    exact (hf c hcm).1
  done := by
    intro X hP hw hK hc i pins s σ H E I hf st hg
    subst hP hw hK
    obtain ⟨st, h1, h2⟩ := st
    obtain ⟨hS1, hS2, hl1, hl2, hend⟩ := hg
    obtain ⟨fp1, P1, St1, D1⟩ := S1.draws (A := X.A.in1) I hS1 (hf i1 (by simp)).1 h1 (I.ok.hd hc)
    obtain ⟨fp2, P2, St2, D2⟩ := S2.draws (A := X.A.in1) I hS2 (hf i2 (by simp)).1 h2 (I.ok.hd hc)
    have sep := F.sep D1 D2 (hf z (by simp)).1 (hf TO (by simp)).1 (hf i1 (by simp)).1 (hf i2 (by simp)).1
    exact Zn.pyNext_end sep D1.d D2.d st D1.st D2.st hl1 hl2 hend fun h' tk hk => ⟨rfl, I.turnedL (ch := [z, TI, TO, i1, i2]) (fun c o hb q =>
      hk c o (fun q' => hb (by simp [q'])) (fun q' => hb (by simp [q'])) (fun q' => hb (by simp [q'])) (fun q' => hb (by simp [q'])) q) hf⟩
  self := fun A i s Q E st h => by
    obtain ⟨⟨⟨w0, f, hz, hw⟩, _⟩, _⟩ := st
    have hT : s.TypeIs (.ref z) "zip" := ⟨_, hz, rfl⟩
    refine wpAny_pyIter_slot hT PySem.F.slot_zip_iter (wpAny_call_entry PySem.F.slot_zip_iter hT PySem.F.entry_zip_iter ?_ (PySem.F.args_zip_iter_1 _))
    show wpAny _ _ (ret (.ref z)) _ _ s
    exact wpAny_pure ⟨_, rfl, "zip", _, hT, PySem.F.slot_zip_next.lookup, h⟩
theorem turn_JEZ (S1 S2 : Src) {e z TI TO i1 i2 : Addr} (F : Five z TI TO i1 i2) (n1 : e ≠ z) (n2 : e ≠ TI) (n3 : e ≠ TO) (n4 : e ≠ i1) (n5 : e ≠ i2) :
    Turn P w K (.Tuple elts kk tpos) (JEZ S1 S2) [e, z, TI, TO, i1, i2] e (fun i h => (∃ old, IsEnum h e z ((i : Nat) : Int) old) ∧ Zn.St z TI TO i1 i2 h ∧ S1.it i1 i h ∧ S2.it i2 i h) where
  mem := by simp
  obj := fun i h st c hc => by
    obtain ⟨⟨old, he⟩, ⟨⟨w0, f, hz, _⟩, hTI, x, y, hTO⟩, h1, h2⟩ := st
    have e' : c = e ∨ c = z ∨ c = TI ∨ c = TO ∨ c = i1 ∨ c = i2 := by simpa using hc
    rcases e' with q | q | q | q | q | q
    · rw [q]; exact ⟨_, he, fun v q => nomatch q⟩
    · rw [q]; exact ⟨_, hz, fun v q => nomatch q⟩
    · rw [q]; exact ⟨_, hTI, fun v q => nomatch q⟩
    · rw [q]; exact ⟨_, hTO, fun v q => nomatch q⟩
    · rw [q]; exact Src.it_obj h1
    · rw [q]; exact Src.it_obj h2
  keep := fun i h h' st k => by
    obtain ⟨⟨old, he⟩, st, h1, h2⟩ := st
    refine ⟨⟨old, k e (by simp) _ he⟩, st.keep fun b hb o e => k b ?_ o e, Src.it_at h1 fun o q => k i1 (by simp) o q, Src.it_at h2 fun o q => k i2 (by simp) o q⟩
    rcases hb with q | q | q <;> rw [q] <;> simp
  item := by
    intro X hP hw hK hc i pins s σ H E I hf st hg
    subst hP hw hK
    obtain ⟨⟨old, he⟩, st, h1, h2⟩ := st
    obtain ⟨hS1, hS2, hl1, hl2⟩ := hg
    obtain ⟨fp1, P1, St1, D1⟩ := S1.draws (A := X.A.in1.in1) I hS1 (hf i1 (by simp)).1 h1 (I.ok.hd hc)
    obtain ⟨fp2, P2, St2, D2⟩ := S2.draws (A := X.A.in1.in1) I hS2 (hf i2 (by simp)).1 h2 (I.ok.hd hc)
    have sep := F.sep D1 D2 (hf z (by simp)).1 (hf TO (by simp)).1 (hf i1 (by simp)).1 (hf i2 (by simp)).1
    have lt : ∀ c, c ∈ [e, z, TI, TO, i1, i2] → c < s.heap.objs.size := fun c hcm => by
      obtain ⟨⟨w0, f, hz, _⟩, hTI, x, y, hTO⟩ := id st
      have e' : c = e ∨ c = z ∨ c = TI ∨ c = TO ∨ c = i1 ∨ c = i2 := by simpa using hcm
      rcases e' with q | q | q | q | q | q
      · rw [q]; exact Heap.lt_size he
      · rw [q]; exact Heap.lt_size hz
      · rw [q]; exact Heap.lt_size hTI
      · rw [q]; exact Heap.lt_size hTO
      · rw [q]; obtain ⟨_, e, _⟩ := Src.it_obj h1; exact Heap.lt_size e
      · rw [q]; obtain ⟨_, e, _⟩ := Src.it_obj h2; exact Heap.lt_size e
    have hel : e < s.heap.objs.size := lt e (by simp)
    refine Zn.pyNext_enum_item sep ⟨n1, n2, n3, n4, n5, D1.notin (hf e (by simp)).1 n4, D2.notin (hf e (by simp)).1 n5⟩ D1.d D2.d he st D1.st D2.st hl1 hl2 fun u u2 h' tk tk' p1 p2 ho st' q1 q2 hT0 hT hk => ?_
    obtain ⟨x, ex, ru⟩ := D1.val _ _ p1
    obtain ⟨y, ey, ru2⟩ := D2.val _ _ p2
    refine ⟨_, rfl, wpAny_letOwnedTupleGo_enum (s := { s with heap := h', toks := tk' }) ho fun h'' he' sb => ?_⟩
    have hT02 : h''.get? s.heap.objs.size = some { cls := .type "tuple", data := .seq #[u, u2] } := (sb.2 _ (Nat.ne_of_gt hel)).trans hT0
    have hT2 : h''.get? (s.heap.objs.size + 1) = some { cls := .type "tuple", data := .seq #[.int i tk, .ref s.heap.objs.size] } := (sb.2 _ (Nat.ne_of_gt (Nat.lt_succ_of_lt hel))).trans hT
    have ne : (s.heap.objs.size + 1 : Nat) ≠ s.heap.objs.size := Nat.succ_ne_self _
    have I1 := turnedNew2 (t' := tk') (ch := [e, z, TI, TO, i1, i2]) (T0 := s.heap.objs.size) (T := s.heap.objs.size + 1) (o0 := .tup [x, y]) (ob := .tup [.int (i : Nat), .ref s.heap.objs.size]) (h' := h'') I (fun c o hb q => (sb.2 c (fun q' => hb (by simp [q']))).trans (hk c o (fun q' => hb (by simp [q'])) (fun q' => hb (by simp [q'])) (fun q' => hb (by simp [q'])) (fun q' => hb (by simp [q'])) (fun q' => hb (by simp [q'])) q)) hf (Nat.le_refl _) (Nat.le_succ _) ne
      ⟨by show 2 ≤ sizeLine; decide, [u, u2], .cons ru (.cons ru2 .nil), ⟨_, hT02, rfl, _, rfl⟩⟩ ⟨by show 2 ≤ sizeLine; decide, [.int i tk, .ref s.heap.objs.size], .cons ⟨_, rfl⟩ (.cons rfl .nil), ⟨_, hT2, rfl, _, rfl⟩⟩
    refine ⟨.ref (s.heap.objs.size + 1), _, I1, rfl, ⟨_, _, x, y, rfl, I.hok.fresh (Nat.le_refl _), I.hok.fresh (Nat.le_succ _), ne, rfl, ex, ey⟩, ⟨⟨.ref s.heap.objs.size, ?_⟩, st'.keep fun b hb o q => (sb.2 b ?_).trans q, Src.it_at (D1.it _ _ q1) fun o q => (sb.2 _ n4.symm).trans q, Src.it_at (D2.it _ _ q2) fun o q => (sb.2 _ n5.symm).trans q⟩, fun c hcm => ?_⟩
    · have e1 : ((i + 1 : Nat) : Int) = (i : Int) + 1 := by omega
      rw [e1]; exact he'
    · rcases hb with q | q | q <;> rw [q]
      · exact n1.symm
      · exact n2.symm
      · exact n3.symm
    · rw [upd_ne (Nat.ne_of_lt (Nat.lt_succ_of_lt (lt c hcm))), upd_ne (Nat.ne_of_lt (lt c hcm))]
      exact (hf c hcm).1
  done := by
    intro X hP hw hK hc i pins s σ H E I hf st hg
    subst hP hw hK
    obtain ⟨⟨old, he⟩, st, h1, h2⟩ := st
    obtain ⟨hS1, hS2, hl1, hl2, hend⟩ := hg
    obtain ⟨fp1, P1, St1, D1⟩ := S1.draws (A := X.A.in1.in1) I hS1 (hf i1 (by simp)).1 h1 (I.ok.hd hc)
    obtain ⟨fp2, P2, St2, D2⟩ := S2.draws (A := X.A.in1.in1) I hS2 (hf i2 (by simp)).1 h2 (I.ok.hd hc)
    have sep := F.sep D1 D2 (hf z (by simp)).1 (hf TO (by simp)).1 (hf i1 (by simp)).1 (hf i2 (by simp)).1
    exact Zn.pyNext_enum_end sep D1.d D2.d he st D1.st D2.st hl1 hl2 hend fun h' tk hk => ⟨rfl, I.turnedL (ch := [e, z, TI, TO, i1, i2]) (fun c o hb q =>
      hk c o (fun q' => hb (by simp [q'])) (fun q' => hb (by simp [q'])) (fun q' => hb (by simp [q'])) (fun q' => hb (by simp [q'])) q) hf⟩
  self := fun A i s Q E st h => let ⟨⟨_, he⟩, _⟩ := st; wpAny_pyIter_enum he h
/-! ### the rules -/
def iZS (ta : TA) (mk : Src → Src → It) : TI := fun σ H R => ta σ H fun vs H1 => ∃ S1 S2 : Src, vs = [S1.val, S2.val] ∧ S1.ok H1 ∧ S2.ok H1 ∧ R (mk S1 S2) H1
def iES (ta : TA) : TI := fun σ H R => ta σ H fun vs H1 => ∃ S : Src, vs = [S.val] ∧ S.ok H1 ∧ R (JE S) H1
theorem five_new (N : Nat) : Five (N + 4) (N + 2) (N + 3) N (N + 1) :=
  ⟨show (N + 2 : Nat) ≠ N + 4 by omega, show (N + 3 : Nat) ≠ N + 4 by omega, show (N + 2 : Nat) ≠ N + 3 by omega, show (N + 2 : Nat) ≠ N by omega, show (N + 2 : Nat) ≠ N + 1 by omega, show (N + 4 : Nat) ≠ N by omega, show (N + 4 : Nat) ≠ N + 1 by omega,
    show (N + 3 : Nat) ≠ N by omega, show (N + 3 : Nat) ≠ N + 1 by omega, show (N : Nat) ≠ N + 1 by omega⟩
theorem pi_zipS {X : Cx} {e e2 : Expr} {ta : TA} {p pos tpos : Pos} {elts : List Expr} {kk : Nat} (hg : Gl X "zip") (hm : X.mg "zip" = none) (ha : PA X [e, e2] ta)
    (hs : starEach [e, e2] X.env = (false, eval e X.env) :: starEach [e2] X.env := by rfl) (hpl : (backTo pos (starEach [e2] X.env)).any (·.1) = false := by rfl) :
    PI X (.Tuple elts kk tpos) (.Call (.Name "zip" p) [e, e2] [] pos) (iZS ta JZ) := by
  refine ⟨fun pins s σ H R I h => ?_⟩
  refine Call_ (ld_blt I hg hm PyProof.Rows.boot_zip (PyProof.Rows.callWith_type1 (thn (ha.run pos pins s σ H _ I h) fun us s1 ⟨vs, H1, I1, r1, q1⟩ => ?_) hs hpl))
  obtain ⟨S1, S2, ex, hS1, hS2, q⟩ := q1
  subst ex
  cases r1 with
  | cons r rr =>
    cases rr with
    | cons r' rr =>
      cases rr
      obtain ⟨o1, Hh1, B1, b1, g1⟩ := S1.begins I1 hS1 r
      obtain ⟨o2, Hh2, B2, b2, g2⟩ := S2.begins I1 hS2 r'
      refine zip_begins2 B1 B2 b1 b2 fun h' hz hTI hTO h1 h2 hsz hk => wpAny_pyIter_zip hz ?_
      have I2 : Inv X pins σ H1 { s1 with heap := h' } := I1.kept (t' := s1.toks) hk
      refine ⟨s1.heap.objs.size + 4, [s1.heap.objs.size + 4, s1.heap.objs.size + 2, s1.heap.objs.size + 3, s1.heap.objs.size, s1.heap.objs.size + 1], _, _, H1, rfl, I2, turn_JZ S1 S2 (five_new _), ⟨⟨⟨_, _, hz, .inl rfl⟩, hTI, _, _, hTO⟩, g1 _ _ h1, g2 _ _ h2⟩, fun c hcm => ?_, q⟩
      have e' : c = s1.heap.objs.size + 4 ∨ c = s1.heap.objs.size + 2 ∨ c = s1.heap.objs.size + 3 ∨ c = s1.heap.objs.size ∨ c = s1.heap.objs.size + 1 := by simpa using hcm
      have hle : s1.heap.objs.size ≤ c := by
        rcases e' with z | z | z | z | z
        · rw [z]; exact Nat.le_add_right _ _
        · rw [z]; exact Nat.le_add_right _ _
        · rw [z]; exact Nat.le_add_right _ _
        · rw [z]; exact Nat.le_refl _
        · rw [z]; exact Nat.le_add_right _ _
      exact I1.fpOk hle (I1.hok.fresh hle)
theorem pi_enumS {X : Cx} {e : Expr} {ta : TA} {p pos tpos : Pos} {elts : List Expr} {kk : Nat} (hg : Gl X "enumerate") (hm : X.mg "enumerate" = none) (ha : PA X [e] ta) (hs : starEach [e] X.env = [(false, eval e X.env)] := by rfl) :
    PI X (.Tuple elts kk tpos) (.Call (.Name "enumerate" p) [e] [] pos) (iES ta) := by
  refine ⟨fun pins s σ H R I h => ?_⟩
  refine Call_ (ld_blt I hg hm boot_enumerate (PyProof.Rows.callWith_type1 (thn (ha.run pos pins s σ H _ I h) fun us s1 ⟨vs, H1, I1, r1, q1⟩ => ?_) hs rfl))
  obtain ⟨S, ex, hS, q⟩ := q1
  subst ex
  cases r1 with
  | cons r rr =>
    cases rr
    obtain ⟨o1, Hh1, B1, b1, g1⟩ := S.begins I1 hS r
    refine enum_begins1 B1 b1 fun h' he hit hsz hk => wpAny_pyIter_enum he ?_
    have I2 : Inv X pins σ H1 { s1 with heap := h' } := I1.kept (t' := s1.toks) hk
    refine ⟨s1.heap.objs.size + 1, [s1.heap.objs.size + 1, s1.heap.objs.size], _, _, H1, rfl, I2, turn_JE S (Nat.succ_ne_self _), ⟨⟨.none, he⟩, g1 _ _ hit⟩, fun b hb => ?_, q⟩
    have e' : b = s1.heap.objs.size + 1 ∨ b = s1.heap.objs.size := by simpa using hb
    have hle : s1.heap.objs.size ≤ b := by
      rcases e' with z | z
      · rw [z]; exact Nat.le_add_right _ _
      · rw [z]; exact Nat.le_refl _
    exact I1.fpOk hle (I1.hok.fresh hle)
theorem pi_enumZip {X : Cx} {e e2 : Expr} {ta : TA} {p p2 pos pos2 tpos : Pos} {elts : List Expr} {kk : Nat} (hg0 : Gl X "enumerate") (hm0 : X.mg "enumerate" = none) (hg : Gl X "zip") (hm : X.mg "zip" = none) (ha : PA X [e, e2] ta)
    (hs0 : starEach [Expr.Call (.Name "zip" p2) [e, e2] [] pos2] X.env = (false, eval (Expr.Call (.Name "zip" p2) [e, e2] [] pos2) X.env) :: starEach [] X.env := by rfl)
    (hs : starEach [e, e2] X.env = (false, eval e X.env) :: starEach [e2] X.env := by rfl) (hpl : (backTo pos2 (starEach [e2] X.env)).any (·.1) = false := by rfl) :
    PI X (.Tuple elts kk tpos) (.Call (.Name "enumerate" p) [.Call (.Name "zip" p2) [e, e2] [] pos2] [] pos) (iZS ta JEZ) := by
  refine ⟨fun pins s σ H R I h => ?_⟩
  refine Call_ (ld_blt I hg0 hm0 boot_enumerate (PyProof.Rows.callWith_type1 (PyProof.Rows.args_cons (Call_ (ld_blt I hg hm PyProof.Rows.boot_zip (PyProof.Rows.callWith_type1 (thn (ha.run pos2 pins s σ H _ I h) fun us s1 ⟨vs, H1, I1, r1, q1⟩ => ?_) hs hpl))) hs0) hs0 rfl))
  obtain ⟨S1, S2, ex, hS1, hS2, q⟩ := q1
  subst ex
  cases r1 with
  | cons r rr =>
    cases rr with
    | cons r' rr =>
      cases rr
      obtain ⟨o1, Hh1, B1, b1, g1⟩ := S1.begins I1 hS1 r
      obtain ⟨o2, Hh2, B2, b2, g2⟩ := S2.begins I1 hS2 r'
      refine zip_begins2 B1 B2 b1 b2 fun h' hz hTI hTO h1 h2 hsz hk => PyProof.Rows.args_nil ?_
      refine enum_beginsZ hz fun h'' he hsz2 hk2 => wpAny_pyIter_enum he ?_
      have I2 : Inv X pins σ H1 { s1 with heap := h'' } := I1.kept (t' := s1.toks) fun b o x => hk2 b o (hk b o x)
      have hsz' : h'.objs.size = s1.heap.objs.size + 5 := hsz
      replace he : IsEnum h'' h'.objs.size (s1.heap.objs.size + 4) 0 .none := he
      rw [hsz'] at he
      rw [hsz']
      have F := five_new s1.heap.objs.size
      refine ⟨s1.heap.objs.size + 5, [s1.heap.objs.size + 5, s1.heap.objs.size + 4, s1.heap.objs.size + 2, s1.heap.objs.size + 3, s1.heap.objs.size, s1.heap.objs.size + 1], _, _, H1, rfl, I2,
        turn_JEZ S1 S2 F (show (s1.heap.objs.size + 5 : Nat) ≠ s1.heap.objs.size + 4 by omega) (show (s1.heap.objs.size + 5 : Nat) ≠ s1.heap.objs.size + 2 by omega) (show (s1.heap.objs.size + 5 : Nat) ≠ s1.heap.objs.size + 3 by omega) (show (s1.heap.objs.size + 5 : Nat) ≠ s1.heap.objs.size by omega) (show (s1.heap.objs.size + 5 : Nat) ≠ s1.heap.objs.size + 1 by omega),
        ⟨⟨.none, he⟩, ⟨⟨_, _, hk2 _ _ hz, .inl rfl⟩, hk2 _ _ hTI, _, _, hk2 _ _ hTO⟩, g1 _ _ (hk2 _ _ h1), g2 _ _ (hk2 _ _ h2)⟩, fun c hcm => ?_, q⟩
      have e' : c = s1.heap.objs.size + 5 ∨ c = s1.heap.objs.size + 4 ∨ c = s1.heap.objs.size + 2 ∨ c = s1.heap.objs.size + 3 ∨ c = s1.heap.objs.size ∨ c = s1.heap.objs.size + 1 := by simpa using hcm
      have hle : s1.heap.objs.size ≤ c := by
        rcases e' with z | z | z | z | z | z
        · rw [z]; exact Nat.le_add_right _ _
        · rw [z]; exact Nat.le_add_right _ _
        · rw [z]; exact Nat.le_add_right _ _
        · rw [z]; exact Nat.le_add_right _ _
        · rw [z]; exact Nat.le_refl _
        · rw [z]; exact Nat.le_add_right _ _
      exact I1.fpOk hle (I1.hok.fresh hle)
end
/-! ### walks and steps -/
section
variable {σ : L2.St} {H : Hp} {Q : VK} {D : Ends} {t : TS} {g : TG} {K : PySem.W.Frag}
theorem walk_JZ (S1 S2 : Src) (hl : S1.n = S2.n) : Walk (JZ S1 S2) S1.n (fun H => S1.ok H ∧ S2.ok H) (fun i H v H' => ∃ T x y, v = .ref T ∧ H T = none ∧ H' = upd H T (.tup [x, y]) ∧ S1.gt i = some x ∧ S2.gt i = some y) :=
  ⟨fun i H hi q => ⟨q.1, q.2, hi, hl ▸ hi⟩, fun H q => ⟨q.1, q.2, Nat.le_refl _, Nat.le_of_eq hl, .inl rfl⟩, fun i H x H' hi q y => y⟩
theorem walk_JEZ (S1 S2 : Src) (hl : S1.n = S2.n) : Walk (JEZ S1 S2) S1.n (fun H => S1.ok H ∧ S2.ok H) (fun i H v H' => ∃ T0 T x y, v = .ref T ∧ H T0 = none ∧ H T = none ∧ T ≠ T0 ∧ H' = upd (upd H T0 (.tup [x, y])) T (.tup [.int (i : Nat), .ref T0]) ∧ S1.gt i = some x ∧ S2.gt i = some y) :=
  ⟨fun i H hi q => ⟨q.1, q.2, hi, hl ▸ hi⟩, fun H q => ⟨q.1, q.2, Nat.le_refl _, Nat.le_of_eq hl, .inl rfl⟩, fun i H x H' hi q y => y⟩
theorem walk_JE (S : Src) : Walk (JE S) S.n (fun H => S.ok H) (fun i H v H' => ∃ T x, v = .ref T ∧ H T = none ∧ H' = upd H T (.tup [.int (i : Nat), x]) ∧ S.gt i = some x) :=
  ⟨fun i H hi q => ⟨q, hi⟩, fun H q => ⟨q, rfl⟩, fun i H x H' hi q y => y⟩
def nZS (mk : Src → Src → It) (vs : List V) (H1 : Hp) (R : It → Hp → Prop) : Prop := ∃ S1 S2 : Src, vs = [S1.val, S2.val] ∧ S1.ok H1 ∧ S2.ok H1 ∧ R (mk S1 S2) H1
theorem z_zS {ta : TA} {mk : Src → Src → It} {R : It → Hp → Prop} (h : ta σ H fun vs H1 => nZS mk vs H1 R) : iZS ta mk σ H R := h
def nES (vs : List V) (H1 : Hp) (R : It → Hp → Prop) : Prop := ∃ S : Src, vs = [S.val] ∧ S.ok H1 ∧ R (JE S) H1
theorem z_eS {ta : TA} {R : It → Hp → Prop} (h : ta σ H fun vs H1 => nES vs H1 R) : iES ta σ H R := h
end
end Sk
namespace Sk
open PySem PySem.Spec PyProof.Rows L2
/-! More steps: loops and comprehensions by what is walked, methods of texts, isinstance, deep ==. -/
theorem hu64 {k : Nat} {A : Around} (r : Room k A) : A.units + 64 < cLine := by
  have := r.un
  omega
theorem hu65 {k : Nat} {A : Around} (r : Room k A) : A.units + 65 < cLine := by
  have := r.un
  omega
section
variable {σ : L2.St} {H : Hp} {Q : VK} {D : Ends} {te ta tb tc : TE} {t u : TS} {g : TG} {K : PySem.W.Frag}
theorem z_m1 {r : V → List V → Hp → VK → Prop} (h : ta σ H fun x H1 => (∃ a, x = .str a) ∧ te σ H1 fun y H2 => r x [y] H2 Q) : tM1 r ta te σ H Q := h
theorem z_strI {a : Str} {R : Prop} (r : R) : (∃ b, V.str a = .str b) ∧ R := ⟨⟨a, rfl⟩, r⟩
theorem v_zip {mk : Src → Src → It} {x y : V} {R : It → Hp → Prop} (S1 S2 : Src) (h1 : S1.ok H) (h2 : S2.ok H) (h : R (mk S1 S2) H) (e1 : x = S1.val := by rfl) (e2 : y = S2.val := by rfl) : nZS mk [x, y] H R := by
  subst e1 e2
  exact ⟨S1, S2, rfl, h1, h2, h⟩
theorem v_enum {x : V} {R : It → Hp → Prop} (S : Src) (h1 : S.ok H) (h : R (JE S) H) (e1 : x = S.val := by rfl) : nES [x] H R := by
  subst e1
  exact ⟨S, rfl, h1, h⟩
theorem v_forE {S : Src} (Pv : Nat → L2.St → Hp → Prop) (h0 : Pv 0 σ H) (hG : ∀ i σ H, Pv i σ H → S.ok H)
    (hs : ∀ i x T σ H H1, S.gt i = some x → i < S.n → Pv i σ H → H T = none → Same H H1 → H1 T = some (.tup [.int (i : Nat), x]) → g (.ref T) σ H1 fun σ2 H2 => t { D with nx := Pv (i + 1), ct := Pv (i + 1), bk := D.nx } σ2 H2)
    (hd : ∀ σ H, Pv S.n σ H → D.nx σ H) : rFor (JE S) g t D σ H :=
  for_it (walk_JE S) Pv h0 (fun i σ H _ p => hG i σ H p) (fun i x σ H H' hi p y => by
    obtain ⟨T, x, rfl, hn, rfl, e⟩ := y
    exact hs i x T σ H _ e hi p hn (same_new hn) upd_same) hd
theorem v_forZ {S1 S2 : Src} (hl : S1.n = S2.n) (Pv : Nat → L2.St → Hp → Prop) (h0 : Pv 0 σ H) (hG : ∀ i σ H, Pv i σ H → S1.ok H ∧ S2.ok H)
    (hs : ∀ i x y T σ H H1, S1.gt i = some x → S2.gt i = some y → i < S1.n → Pv i σ H → H T = none → Same H H1 → H1 T = some (.tup [x, y]) → g (.ref T) σ H1 fun σ2 H2 => t { D with nx := Pv (i + 1), ct := Pv (i + 1), bk := D.nx } σ2 H2)
    (hd : ∀ σ H, Pv S1.n σ H → D.nx σ H) : rFor (JZ S1 S2) g t D σ H :=
  for_it (walk_JZ S1 S2 hl) Pv h0 (fun i σ H _ p => hG i σ H p) (fun i x σ H H' hi p y => by
    obtain ⟨T, x, y, rfl, hn, rfl, e, e2⟩ := y
    exact hs i x y T σ H _ e e2 hi p hn (same_new hn) upd_same) hd
theorem v_forEZ {S1 S2 : Src} (hl : S1.n = S2.n) (Pv : Nat → L2.St → Hp → Prop) (h0 : Pv 0 σ H) (hG : ∀ i σ H, Pv i σ H → S1.ok H ∧ S2.ok H)
    (hs : ∀ i x y T0 T σ H H1, S1.gt i = some x → S2.gt i = some y → i < S1.n → Pv i σ H → H T0 = none → H T = none → Same H H1 → H1 T0 = some (.tup [x, y]) → H1 T = some (.tup [.int (i : Nat), .ref T0]) → g (.ref T) σ H1 fun σ2 H2 => t { D with nx := Pv (i + 1), ct := Pv (i + 1), bk := D.nx } σ2 H2)
    (hd : ∀ σ H, Pv S1.n σ H → D.nx σ H) : rFor (JEZ S1 S2) g t D σ H :=
  for_it (walk_JEZ S1 S2 hl) Pv h0 (fun i σ H _ p => hG i σ H p) (fun i x σ H H' hi p y => by
    obtain ⟨T0, T, x, y, rfl, hn0, hn, ne, rfl, e, e2⟩ := y
    have hn' : upd H T0 (.tup [x, y]) T = none := by rw [upd_ne ne]; exact hn
    exact hs i x y T0 T σ H _ e e2 hi p hn0 hn ((same_new hn0).trans (same_new hn')) (by rw [upd_ne ne.symm, upd_same]) upd_same) hd
theorem z_nT {A B : Prop} (h : B) : if (!true) = true then A else B := h
theorem z_nF {A B : Prop} (h : A) : if (!false) = true then A else B := h
theorem z_wipe {σ2 σ3 : L2.St} {R : Prop} (h : σ2 = σ3) (r : R) : σ2 = σ3 ∧ R := ⟨h, r⟩
theorem v_ixE {v : List Bool} {i : Nat} {b : Bool} (e : v[i]? = some b) (l : v.length ≤ 1000) (h : Q (.str ⟨#[cd b]⟩) H) : rIxS (encV v) (.int (i : Nat)) H Q :=
  v_ixS (by rw [enc_len]; exact small (by omega)) (enc_at e) h
theorem v_ixLn {a : Addr} {xs : List V} {i : Nat} {x : V} (e : SqL K H a xs) (h1 : xs[i]? = some x) (h : Q x H) : rIxL K (.ref a) (.int (i : Nat)) H Q := v_ixL e (atI_nat h1) h
theorem v_ixTn {a : Addr} {xs : List V} {i : Nat} {x : V} (e : SqT K H a xs) (h1 : xs[i]? = some x) (h : Q x H) : rIxT K (.ref a) (.int (i : Nat)) H Q := v_ixT e (atI_nat h1) h
def lt (c : Bool) : Str := if c = true then "d" else "o"
theorem sign_lt (b c : Bool) : decide ((⟨#[cd b]⟩ : Str) = lt c) = (b == c) := by
  cases b <;> cases c <;> decide +kernel
theorem lt_str (c : Bool) : (⟨#[cd c]⟩ : Str) = lt c := by
  cases c <;> decide +kernel
theorem dec_lt (b c : Bool) : decide (lt b = lt c) = (b == c) := by
  cases b <;> cases c <;> decide +kernel
/-! comprehensions -/
theorem v_lcL {a : Addr} {xs : List V} {tt : TT} {vs : List Nat} (I : Addr → Nat → List V → Hp → Prop)
    (h0 : ∀ L H', H L = none → Same H H' → H' L = some (.lst []) → I L 0 [] H') (hG : ∀ L i acc H2, H L = none → I L i acc H2 → SqL K H2 a xs)
    (hs : ∀ L i x acc H2, xs[i]? = some x → H L = none → H2 L = some (.lst acc) → I L i acc H2 → g x (wipe σ vs) H2 fun σ2 H3 => wipe σ2 vs = wipe σ vs ∧ tt σ2 H3 fun b H4 =>
      if b = true then te σ2 H4 (fun y H5 => nAcc I L (i + 1) y H5) else nSoFar I L (i + 1) H4)
    (hd : ∀ L acc H2, H L = none → H2 L = some (.lst acc) → I L xs.length acc H2 → Q (.ref L) H2) : rLc (Itl K a) g tt te vs σ H Q :=
  v_lc walk_list I h0 (fun L i acc H2 n _ p => hG L i acc H2 n p) (fun L i x acc H2 H' hi n e p y => by
    obtain ⟨rfl, e2⟩ := y
    exact hs L i x acc _ e2 n e p) hd
theorem v_lcT {a : Addr} {xs : List V} {tt : TT} {vs : List Nat} (I : Addr → Nat → List V → Hp → Prop)
    (h0 : ∀ L H', H L = none → Same H H' → H' L = some (.lst []) → I L 0 [] H') (hG : ∀ L i acc H2, H L = none → I L i acc H2 → SqT K H2 a xs)
    (hs : ∀ L i x acc H2, xs[i]? = some x → H L = none → H2 L = some (.lst acc) → I L i acc H2 → g x (wipe σ vs) H2 fun σ2 H3 => wipe σ2 vs = wipe σ vs ∧ tt σ2 H3 fun b H4 =>
      if b = true then te σ2 H4 (fun y H5 => nAcc I L (i + 1) y H5) else nSoFar I L (i + 1) H4)
    (hd : ∀ L acc H2, H L = none → H2 L = some (.lst acc) → I L xs.length acc H2 → Q (.ref L) H2) : rLc (Itt K a) g tt te vs σ H Q :=
  v_lc walk_tup I h0 (fun L i acc H2 n _ p => hG L i acc H2 n p) (fun L i x acc H2 H' hi n e p y => by
    obtain ⟨rfl, e2⟩ := y
    exact hs L i x acc _ e2 n e p) hd
theorem v_lcR {n : Nat} {tt : TT} {vs : List Nat} (I : Addr → Nat → List V → Hp → Prop)
    (h0 : ∀ L H', H L = none → Same H H' → H' L = some (.lst []) → I L 0 [] H')
    (hs : ∀ L i acc H2, i < n → H L = none → H2 L = some (.lst acc) → I L i acc H2 → g (.int (i : Nat)) (wipe σ vs) H2 fun σ2 H3 => wipe σ2 vs = wipe σ vs ∧ tt σ2 H3 fun b H4 =>
      if b = true then te σ2 H4 (fun y H5 => nAcc I L (i + 1) y H5) else nSoFar I L (i + 1) H4)
    (hd : ∀ L acc H2, H L = none → H2 L = some (.lst acc) → I L n acc H2 → Q (.ref L) H2) : rLc (Itr 0 n) g tt te vs σ H Q :=
  v_lc walk_range I h0 (fun _ _ _ _ _ _ _ => trivial) (fun L i x acc H2 H' hi n e p y => by
    obtain ⟨rfl, rfl⟩ := y
    show g (.int ((0 : Int) + (i : Int))) _ _ _
    rw [Int.zero_add]
    exact hs L i acc _ hi n e p) hd
theorem v_lcS {v : List Bool} {tt : TT} {vs : List Nat} (I : Addr → Nat → List V → Hp → Prop)
    (h0 : ∀ L H', H L = none → Same H H' → H' L = some (.lst []) → I L 0 [] H')
    (hs : ∀ L i b acc H2, v[i]? = some b → H L = none → H2 L = some (.lst acc) → I L i acc H2 → g (.str ⟨#[cd b]⟩) (wipe σ vs) H2 fun σ2 H3 => wipe σ2 vs = wipe σ vs ∧ tt σ2 H3 fun b H4 =>
      if b = true then te σ2 H4 (fun y H5 => nAcc I L (i + 1) y H5) else nSoFar I L (i + 1) H4)
    (hd : ∀ L acc H2, H L = none → H2 L = some (.lst acc) → I L v.length acc H2 → Q (.ref L) H2) : rLc (Its (enc v)) g tt te vs σ H Q :=
  v_lc walk_str I h0 (fun _ _ _ _ _ _ _ => trivial) (fun L i x acc H2 H' hi n e p y => by
    obtain ⟨rfl, c, hc, rfl⟩ := y
    rw [enc_cps] at hc
    cases hv : v[i]? with
    | none =>
      rw [hv] at hc
      cases hc
    | some b =>
      rw [hv] at hc
      cases hc
      exact hs L i b acc _ hv n e p) (fun L acc H2 n e p => hd L acc H2 n e (by rw [enc_size] at p; exact p))
theorem v_forS {v : List Bool} (Pv : Nat → L2.St → Hp → Prop) (h0 : Pv 0 σ H)
    (hs : ∀ i b σ H, v[i]? = some b → Pv i σ H → g (.str ⟨#[cd b]⟩) σ H fun σ2 H2 => t { D with nx := Pv (i + 1), ct := Pv (i + 1), bk := D.nx } σ2 H2) (hd : ∀ σ H, Pv v.length σ H → D.nx σ H) : rFor (Its (enc v)) g t D σ H :=
  for_it walk_str Pv h0 (fun _ _ _ _ _ => trivial) (fun i x σ H H' hi p y => by
    obtain ⟨rfl, c, hc, rfl⟩ := y
    rw [enc_cps] at hc
    cases hv : v[i]? with
    | none =>
      rw [hv] at hc
      cases hc
    | some b =>
      rw [hv] at hc
      cases hc
      exact hs i b σ _ hv p) (fun σ H p => hd σ H (by rw [enc_size] at p; exact p))
theorem v_lcZ {S1 S2 : Src} {tt : TT} {vs : List Nat} (hl : S1.n = S2.n) (I : Addr → Nat → List V → Hp → Prop)
    (h0 : ∀ L H', H L = none → Same H H' → H' L = some (.lst []) → I L 0 [] H') (hG : ∀ L i acc H2, H L = none → I L i acc H2 → S1.ok H2 ∧ S2.ok H2)
    (hs : ∀ L i x y T acc H2 H', S1.gt i = some x → S2.gt i = some y → i < S1.n → H L = none → H2 L = some (.lst acc) → I L i acc H2 → H2 T = none → Same H2 H' → H' T = some (.tup [x, y]) → g (.ref T) (wipe σ vs) H' fun σ2 H3 => wipe σ2 vs = wipe σ vs ∧ tt σ2 H3 fun b H4 =>
      if b = true then te σ2 H4 (fun y H5 => nAcc I L (i + 1) y H5) else nSoFar I L (i + 1) H4)
    (hd : ∀ L acc H2, H L = none → H2 L = some (.lst acc) → I L S1.n acc H2 → Q (.ref L) H2) : rLc (JZ S1 S2) g tt te vs σ H Q :=
  v_lc (walk_JZ S1 S2 hl) I h0 (fun L i acc H2 n _ p => hG L i acc H2 n p) (fun L i x acc H2 H' hi n e p y => by
    obtain ⟨T, x, y, rfl, hn, rfl, e1, e2⟩ := y
    exact hs L i x y T acc H2 _ e1 e2 hi n e p hn (same_new hn) upd_same) hd
/-! isinstance -/
theorem v_isi {x c : V} {ty u : Value} (b : Bool) (k : ClsV c u) (e : TyX K H x ty) (o : PySem.W.kitOne K ty u = some b) (h : Q (.bl b) H) : rIsi K [x, c] H Q := ⟨x, c, ty, u, b, rfl, k, e, o, h⟩
theorem v_isiT {x : V} {tp : Addr} {cs : List V} {ty : Value} {us : List Value} (b : Bool) (e : H tp = some (.tup cs)) (k : Paired ClsV cs us) (ex : TyX K H x ty) (o : PySem.W.kitAny K ty us = some b) (h : Q (.bl b) H) : rIsiT K [x, .ref tp] H Q := ⟨x, tp, cs, ty, us, b, rfl, e, k, ex, o, h⟩
theorem k1 : PySem.W.kitOne K (.type "int") (.type "int") = some true := rfl
theorem k2 : PySem.W.kitOne K (.type "int") (.type "bool") = some false := by rfl
theorem k3 : PySem.W.kitOne K (.type "bool") (.type "int") = some true := by rfl
theorem k4 : PySem.W.kitOne K (.type "bool") (.type "bool") = some true := rfl
theorem k5 : PySem.W.kitOne K (.type "NoneType") (.type "int") = some false := by rfl
theorem k6 : PySem.W.kitOne K (.type "int") (.type "tuple") = some false := by rfl
theorem k7 : PySem.W.kitOne K (.type "str") (.type "tuple") = some false := by rfl
theorem k8 : PySem.W.kitOne K (.type "tuple") (.type "tuple") = some true := rfl
theorem k9 : PySem.W.kitOne K (.type "str") (.type "str") = some true := rfl
theorem k10 : PySem.W.kitOne K (.type "int") (.type "str") = some false := by rfl
theorem k11 : PySem.W.kitAny K (.type "list") [.type "list", .type "tuple"] = some true := by rfl
theorem k12 : PySem.W.kitAny K (.type "tuple") [.type "list", .type "tuple"] = some true := by rfl
theorem v_isII {i : Int} (h : Q (.bl true) H) : rIsi K [.int i, .ty "int"] H Q := v_isi true (.ty _) (.base (.int i)) k1 h
theorem v_isIB {i : Int} (h : Q (.bl false) H) : rIsi K [.int i, .ty "bool"] H Q := v_isi false (.ty _) (.base (.int i)) k2 h
theorem v_isBI {b : Bool} (h : Q (.bl true) H) : rIsi K [.bl b, .ty "int"] H Q := v_isi true (.ty _) (.base (.bl b)) k3 h
theorem v_isBB {b : Bool} (h : Q (.bl true) H) : rIsi K [.bl b, .ty "bool"] H Q := v_isi true (.ty _) (.base (.bl b)) k4 h
theorem v_isNI (h : Q (.bl false) H) : rIsi K [.non, .ty "int"] H Q := v_isi false (.ty _) (.base .non) k5 h
theorem v_isIT {i : Int} (h : Q (.bl false) H) : rIsi K [.int i, .ty "tuple"] H Q := v_isi false (.ty _) (.base (.int i)) k6 h
theorem v_isST {i : Str} (h : Q (.bl false) H) : rIsi K [.str i, .ty "tuple"] H Q := v_isi false (.ty _) (.base (.str i)) k7 h
theorem v_isTT {p : Addr} {xs : List V} (e : H p = some (.tup xs)) (h : Q (.bl true) H) : rIsi K [.ref p, .ty "tuple"] H Q := v_isi true (.ty _) (.base (.tup e)) k8 h
theorem v_isSS {i : Str} (h : Q (.bl true) H) : rIsi K [.str i, .ty "str"] H Q := v_isi true (.ty _) (.base (.str i)) k9 h
theorem v_isIS {i : Int} (h : Q (.bl false) H) : rIsi K [.int i, .ty "str"] H Q := v_isi false (.ty _) (.base (.int i)) k10 h
theorem v_isLT {p tp : Addr} {xs : List V} (e : H p = some (.lst xs) ∨ H p = some (.tup xs)) (et : H tp = some (.tup [.ty "list", .ty "tuple"])) (h : Q (.bl true) H) : rIsiT K [.ref p, .ref tp] H Q := by
  rcases e with e | e
  · exact v_isiT true et (.cons (.ty _) (.cons (.ty _) .nil)) (.base (.lst e)) k11 h
  · exact v_isiT true et (.cons (.ty _) (.cons (.ty _) .nil)) (.base (.tup e)) k12 h
end
section
variable {X : Cx} {K : PySem.W.Frag}
theorem pg_tupK {es : List Expr} {k : Nat} {t : TGs} {pos : Pos} (n : Nat) (e : X.K = K) (hc : X.calm = true) (h : PGs X es t) (hn : (assignEach es X.env).length = n := by rfl) (hst : (assignEach es X.env).findIdx? (·.1) = none := by rfl) : PG X (.Tuple es k pos) (gTup K n t) := e ▸ pg_tup hc h hn hst
theorem ixL (e : X.K = K) : IxR X (rIxL K) := e ▸ ix_list
theorem ixT (e : X.K = K) : IxR X (rIxT K) := e ▸ ix_tup
theorem lenK (e : X.K = K) : CallR X (.builtin "len") (rLenN K) := e ▸ call_lenN
theorem tupK (e : X.K = K) : CallR X (.type "tuple") (rTupN K) := e ▸ call_tupN
theorem lstK (e : X.K = K) : CallR X (.type "list") (rLstN K) := e ▸ call_lstN
theorem fldK {o : Expr} {f : Str} {ta : TE} {pos : Pos} (e : X.K = K) (he : PE X o ta) (hb : attributeBase o f X.env (eval o X.env) = eval o X.env) : PE X (.Attribute o f pos) (tFld K ta f) := e ▸ pe_fld he hb
end
section
variable {X : Cx}
theorem ip_ext : PIp X .Add rExt2 := iop_ext
end
section
variable {σ : L2.St} {H : Hp} {D : Ends} {R : L2.St → Hp → Prop}
def nPar3 (i j l : Nat) (vs : List V) (σ : L2.St) (H : Hp) (R : L2.St → Hp → Prop) : Prop := ∃ v w z, vs = [v, w, z] ∧ R (((σ.set i (some v)).set j (some w)).set l (some z)) H
theorem z_par3 {i j l : Nat} {ts : TA} (h : ts σ H fun vs H1 => nPar3 i j l vs σ H1 D.nx) : tPar3 i j l ts D σ H := h
theorem v_par3 {i j l : Nat} {v w z : V} (h : R (((σ.set i (some v)).set j (some w)).set l (some z)) H) : nPar3 i j l [v, w, z] σ H R := ⟨v, w, z, rfl, h⟩
def tTru (K : PySem.W.Frag) (ta : TE) : TT := fun σ H Q => ta σ H fun x H' => ∃ k, TruV K x H' k ∧ Q k H'
theorem pt_tru {X : Cx} {K : PySem.W.Frag} {a : Expr} {ta : TE} (e : X.K = K) (ha : PE X a ta) (he : ∀ whole, isTrue a X.env whole = (do let v ← whole; standAt a.pos; holding [v] (truthy v))) : PT X a (tTru K ta) := e ▸ pt_truth ha he
def nTru (K : PySem.W.Frag) (x : V) (H : Hp) (Q : Bool → Hp → Prop) : Prop := ∃ k, TruV K x H k ∧ Q k H
theorem z_tru {K : PySem.W.Frag} {ta : TE} {Q : Bool → Hp → Prop} (h : ta σ H fun x H1 => nTru K x H1 Q) : tTru K ta σ H Q := h
theorem v_truL {K : PySem.W.Frag} {l : Addr} {xs : List V} {Q : Bool → Hp → Prop} (h : H l = some (.lst xs)) (r : Q (!xs.isEmpty) H) : nTru K (.ref l) H Q := ⟨_, .inl ⟨xs, SqL.of h, rfl⟩, r⟩
end
def Sq (H : Hp) (p : Addr) (is : List Int) : Prop := H p = some (.lst (is.map .int)) ∨ H p = some (.tup (is.map .int))
section
variable {K : PySem.W.Frag} {H : Hp} {Q : VK}
theorem v_lenSq {p : Addr} {is : List Int} (e : Sq H p is) (h : Q (.int (is.length : Nat)) H) : rLenN K [.ref p] H Q := by
  rcases e with e | e
  · exact v_lenL (SqL.of e) (by rw [List.length_map]; exact h)
  · exact v_lenT (SqT.of e) (by rw [List.length_map]; exact h)
theorem v_tupSq {p : Addr} {is : List Int} (e : Sq H p is) (h : ∀ l H', Same H H' → H' l = some (.tup (is.map .int)) → Q (.ref l) H') : rTupN K [.ref p] H Q := by
  rcases e with e | e
  · exact v_tupL (SqL.of e) fun l H' _ s e' => h l H' s e'
  · exact v_tupT (SqT.of e) (h p H (Same.refl _) e)
theorem Sq.same {H' : Hp} {p : Addr} {is : List Int} (e : Sq H p is) (s : Same H H') : Sq H' p is := e.imp (s _ _) (s _ _)
end
end Sk
namespace Sk
open PySem PySem.Spec PyProof.Rows L2
/-! step words: z one step, zz as far as it goes, at: what stands at an address -/
local macro_rules
  | `(tactic| walk_at "zz") => `(tactic| repeat first
    | (with_reducible refine z_seq ?_) | (with_reducible refine z_asg ?_) | (with_reducible refine z_gname ?_) | (with_reducible refine z_var (by with_unfolding_all rfl) ?_)
    | (with_reducible refine z_c ?_) | (with_reducible refine z_op ?_) | (with_reducible refine z_cons ?_) | (with_reducible refine z_nil ?_)
    | (with_reducible refine z_next ?_) | (with_reducible refine z_call ?_) | (with_reducible refine z_drop ?_) | (with_reducible refine z_ret ?_)
    | (with_reducible refine z_ifs ?_) | (with_reducible refine z_un ?_) | (with_reducible refine z_chain ?_) | (with_reducible refine z_rI0 ?_)
    | (with_reducible refine z_eqI ?_) | (with_reducible refine z_neI ?_) | (with_reducible refine z_eqS ?_) | (with_reducible refine z_neS ?_)
    | (with_reducible refine z_eqB ?_) | (with_reducible refine z_neB ?_) | (with_reducible refine z_test ?_) | (with_reducible refine z_tB ?_)
    | (with_reducible refine z_bl ?_) | (with_reducible refine z_and ?_) | (with_reducible refine z_or ?_) | (with_reducible refine z_not ?_)
    | (with_reducible refine z_andV ?_) | (with_reducible refine z_orV ?_) | (with_reducible refine z_notV ?_) | (with_reducible refine z_if ?_)
    | (with_reducible refine z_cb ?_) | (with_reducible refine z_part ?_) | (with_reducible refine z_noPart ?_) | (with_reducible refine z_int ?_)
    | (with_reducible refine z_sl ?_) | (with_reducible refine z_fld ?_) | (with_reducible refine z_tup ?_) | (with_reducible refine z_lst ?_)
    | (with_reducible refine z_bm ?_) | (with_reducible refine z_bm0 ?_) | (with_reducible refine z_fldS ?_) | (with_reducible refine z_rU ?_)
    | (with_reducible refine v_intI ?_) | (with_reducible refine v_intB ?_) | (with_reducible refine v_abs ?_) | (with_reducible refine v_isN ?_)
    | (with_reducible refine v_notN ?_) | (with_reducible refine v_cnt ?_) | (with_reducible refine z_make ?_) | (with_reducible refine z_tru ?_)
    | (with_reducible refine z_m1 ?_) | (with_reducible refine z_strI ?_) | (with_reducible refine z_zS ?_) | (with_reducible refine z_eS ?_)
    | (with_reducible refine v_isII ?_) | (with_reducible refine v_isIB ?_) | (with_reducible refine v_isBI ?_) | (with_reducible refine v_isBB ?_)
    | (with_reducible refine v_isNI ?_) | (with_reducible refine v_isIT ?_) | (with_reducible refine v_isST ?_) | (with_reducible refine v_isSS ?_)
    | (with_reducible refine v_isIS ?_) | (with_reducible refine z_sub ?_) | (with_reducible refine z_gcons ?_) | (with_reducible refine z_gnil ?_)
    | (with_reducible refine z_par ?_) | (with_reducible refine v_par ?_) | (with_reducible refine z_par3 ?_) | (with_reducible refine v_par3 ?_)
    | (with_reducible refine v_ipI ?_) | (with_reducible refine z_for ?_) | (with_reducible refine z_lc ?_) | (with_reducible refine z_yes ?_)
    | (with_reducible refine z_rng1 ?_) | (with_reducible refine z_rng2 ?_) | (with_reducible refine z_list ?_) | (with_reducible refine z_tupi ?_)
    | (with_reducible refine z_stri ?_) | (with_reducible refine v_istr ?_) | (with_reducible refine iteT ?_) | (with_reducible refine iteF ?_)
    | (with_reducible refine z_nT ?_) | (with_reducible refine z_nF ?_) | (with_reducible refine z_cont ?_) | (with_reducible refine z_brk ?_)
    | (with_reducible refine z_retN ?_) | (walk_at "zn"))
  | `(tactic| walk_at "zn") => `(tactic| first
    | ((with_reducible refine' v_ixL ?k1 ?k2 ?_); (case k1 => walk_at "sq"); (case k2 => rfl)) | ((with_reducible refine' v_ixT ?k1 ?k2 ?_); (case k1 => walk_at "st"); (case k2 => rfl)) | ((with_reducible refine' v_lenL ?k1 ?_); (case k1 => walk_at "sq")) | ((with_reducible refine' v_lenT ?k1 ?_); (case k1 => walk_at "st"))
    | ((with_reducible refine' v_slS ?k1 ?_); (case k1 => (rw [enc_len]; exact small (by omega)))) | ((with_reducible refine' v_lenS ?k1 ?_); (case k1 => (rw [enc_len]; exact small (by omega)))) | ((with_reducible refine' v_slL ?k1 ?_); (case k1 => walk_at "sq")) | ((with_reducible refine' z_tyL ?k1 ?_); (case k1 => walk_at "at"))
    | ((with_reducible refine' v_fld ?k1 ?k2 ?k3 ?k4 ?_); (case k1 => walk_at "at"); (case k2 => assumption); (case k3 => assumption); (case k4 => first | assumption | rfl)) | ((with_reducible refine' v_truL ?k1 ?_); (case k1 => walk_at "at")) | ((with_reducible refine' z_wipe ?k1 ?_); (case k1 => rfl)) | ((with_reducible refine' v_gtup ?k1 ?k2 ?_); (case k1 => walk_at "st"); (case k2 => rfl))
    | ((with_reducible refine' z_aug ?k1 ?_); (case k1 => rfl)) | ((with_reducible refine' v_ilist ?k1 ?_); (case k1 => walk_at "sq")) | ((with_reducible refine' v_itup ?k1 ?_); (case k1 => walk_at "st")) | ((with_reducible refine' z_rI ?k1 ?_); (case k1 => first | (show (_ : Int) ≠ _; omega) | exact .inl ⟨by decide, by decide⟩ | exact .inr ⟨by decide, by decide⟩ | exact ⟨by decide, by decide⟩ | exact .inl ⟨by omega, by omega⟩ | exact .inr ⟨by omega, by omega⟩))
    | ((with_reducible refine' z_var ?hv ?_); (case hv => rfl)))
  | `(tactic| walk_at "at") => `(tactic| first
    | assumption
    | ((with_reducible refine' same_at ?k1 ?k2); (case k1 => assumption); (case k2 => walk_at "at"))
    | ((with_reducible refine' but_at ?k1 ?k2 ?k3); (case k1 => assumption); (case k2 => first | assumption | (apply Ne.symm; assumption)); (case k3 => walk_at "at")))
  | `(tactic| walk_at "sq") => `(tactic| first
    | assumption
    | (refine' SqL.of ?k1; (case k1 => walk_at "at"))
    | ((with_reducible refine' Same.seq ?k1 ?k2); (case k1 => assumption); (case k2 => walk_at "sq")))
  | `(tactic| walk_at "st") => `(tactic| first
    | assumption
    | (refine' SqT.of ?k1; (case k1 => walk_at "at"))
    | ((with_reducible refine' same_tup ?k1 ?k2); (case k1 => assumption); (case k2 => walk_at "st")))
  | `(tactic| walk_at "sa") => `(tactic| first
    | assumption
    | exact Same.refl _
    | (refine' Same.trans ?k1 ?k2; (case k2 => assumption); (case k1 => walk_at "sa")))
abbrev s__law_take : Stmt := top 48
abbrev N__law_take : List Str := ["_law_bag_here", "_law_many", "_law_digit"]
theorem sc__law_take : FnScope N__law_take ["_law_bag_here", "_law_many"] (defScope s__law_take) := ⟨rfl, rfl, rfl, by decide +kernel, rfl, by decide +kernel, by decide +kernel⟩
abbrev s__law_pick : Stmt := top 49
abbrev N__law_pick : List Str := ["_law_bag_here", "_law_some"]
theorem sc__law_pick : FnScope N__law_pick ["_law_bag_here", "_law_some"] (defScope s__law_pick) := ⟨rfl, rfl, rfl, by decide +kernel, rfl, by decide +kernel, by decide +kernel⟩
abbrev s__law_extent : Stmt := top 50
abbrev N__law_extent : List Str := ["_law_bag_here"]
theorem sc__law_extent : FnScope N__law_extent ["_law_bag_here"] (defScope s__law_extent) := ⟨rfl, rfl, rfl, by decide +kernel, rfl, by decide +kernel, by decide +kernel⟩
abbrev s__law_word : Stmt := top 51
abbrev N__law_word : List Str := ["_law_bag_here", "_law_size", "_law_word_here", "_law_down", "_law_k"]
theorem sc__law_word : FnScope N__law_word ["_law_bag_here", "_law_size"] (defScope s__law_word) := ⟨rfl, rfl, rfl, by decide +kernel, rfl, by decide +kernel, by decide +kernel⟩
def spTake : Sp := fun vs H Q _ => ∃ (b : Addr) (m : Int), vs = [.ref b, .int m] ∧ 0 < m ∧ m ≤ 10 ^ 30 ∧ Bag H b ∧ ∀ v H', 0 ≤ v → v < m → But b H H' → Bag H' b → Q (.int v) H'
theorem log_small {m : Int} (h0 : 0 < m) (h : m ≤ 10 ^ 30) : CDivW 0 m := wide_div (b := 100) h0 (by
  have : (10 : Int) ^ 30 < 2 ^ 100 := by decide
  omega) (by decide) (by decide)
section
variable {P : Program} {w : World} {K : PySem.W.Frag} {mg : Str → Option Value} {base : Heap}
theorem ok__law_take (D : DefAt K mg "_law_take" ["_law_bag_here", "_law_many"] s__law_take) (T : Tx K mg) : Glo P w K mg base CX0 1 "_law_take" ["_law_bag_here", "_law_many"] spTake := by
  refine D.ok 0 sc__law_take (fun vs H Q E h => ?_) (fun f cdv A outer s H vs Q E hr h => ?_)
  · obtain ⟨b, m, rfl, _⟩ := h
    rfl
  · obtain ⟨b, m, rfl, hm, hm2, ⟨x, y, z, hb⟩, k⟩ := h
    refine ⟨_, (pss_cons (ps_if (pt_cmpR op_gt (pe_ix (ixL (K := K) rfl) (pv 0) pe_int (fun _ _ => rfl)) pe_int (nomark _)) (pss_cons (ps_set (i := 2) sc__law_take.nd rfl (Or.inl rfl) (pe_op op_modN (pe_callTy call_intN (by rfl) T.n_int (by decide +kernel) (pa_cons (pe_ix (ixL (K := K) rfl) (pv 0) pe_int (fun _ _ => rfl)) pa_nil)) (pv 1)))
        (pss_cons (ps_asg (pe_op op_fdivW (pe_ix (ixL (K := K) rfl) (pv 0) pe_int (fun _ _ => rfl)) (pv 1)) (pg_sub (pv 0) pe_int set_list))
        (pss_one (ps_ret (pv 2))))) pss_nil)
      (pss_cons (ps_asg (pe_op op_add (pe_ix (ixL (K := K) rfl) (pv 0) pe_int (fun _ _ => rfl)) pe_int) (pg_sub (pv 0) pe_int set_list))
      (pss_cons (ps_asg (pe_op op_modN (pe_callTy call_intN (by rfl) T.n_int (by decide +kernel) (pa_cons (pe_op op_add (pe_op op_add (pe_op op_mul (pe_ix (ixL (K := K) rfl) (pv 0) pe_int (fun _ _ => rfl)) pe_int) (pe_op op_mul pe_int (pe_ix (ixL (K := K) rfl) (pv 0) pe_int (fun _ _ => rfl)))) pe_int) pa_nil)) pe_int) (pg_sub (pv 0) pe_int set_list))
      (pss_one (ps_ret (pe_op op_modN (pe_op op_fdivW (pe_op op_modN (pe_callTy call_intN (by rfl) T.n_int (by decide +kernel) (pa_cons (pe_op op_mul (pe_ix (ixL (K := K) rfl) (pv 0) pe_int (fun _ _ => rfl)) pe_int) pa_nil)) pe_int) pe_int) (pv 1))))))), ?_⟩
    walk_at "zz"
    refine v_if (fun h1 => ?_) (fun h1 => ?_)
    · walk_at "zz"
      refine z_rI (log_small hm hm2) ?_
      walk_at "zz"
      refine v_setL hb rfl fun H1 s1 e1 => ?_
      walk_at "zz"
      exact k _ _ (Int.fmod_nonneg_of_pos _ hm) (Int.fmod_lt_of_pos _ hm) s1 ⟨_, _, _, e1⟩
    · walk_at "zz"
      refine v_setL hb rfl fun H1 s1 e1 => ?_
      walk_at "zz"
      refine v_setL e1 rfl fun H2 s2 e2 => ?_
      walk_at "zz"
      exact k _ _ (Int.fmod_nonneg_of_pos _ hm) (Int.fmod_lt_of_pos _ hm) (but_trans s1 s2) ⟨_, _, _, e2⟩
def spPick : Sp := fun vs H Q _ => ∃ (b l : Addr) (xs : List V), vs = [.ref b, .ref l] ∧ H l = some (.lst xs) ∧ b ≠ l ∧ 0 < xs.length ∧ xs.length ≤ 1000 ∧ Bag H b ∧ ∀ v H', v ∈ xs → But b H H' → Bag H' b → Q v H'
theorem ok__law_pick (D : DefAt K mg "_law_pick" ["_law_bag_here", "_law_some"] s__law_pick) (T : Tx K mg) (G__law_take : Glo P w K mg base CX0 1 "_law_take" ["_law_bag_here", "_law_many"] spTake) :
    Glo P w K mg base CX0 2 "_law_pick" ["_law_bag_here", "_law_some"] spPick := by
  refine D.ok 1 sc__law_pick (fun vs H Q E h => ?_) (fun f cdv A outer s H vs Q E hr h => ?_)
  · obtain ⟨b, l, xs, rfl, _⟩ := h
    rfl
  · obtain ⟨b, l, xs, rfl, hl, hn, h0, h1, hB, k⟩ := h
    refine ⟨_, (pss_one (ps_ret (pe_ix (ixL (K := K) rfl) (pv 1) (pe_g G__law_take (hr.mono (by decide)) rfl pass0 (pa_cons (pv 0) (pa_cons (pe_callB (lenK (K := K) rfl) (by rfl) T.n_len (by decide +kernel) (pa_cons (pv 1) pa_nil)) pa_nil))) (fun _ _ => rfl)))), ?_⟩
    walk_at "zz"
    refine ⟨b, _, rfl, by omega, ?_, hB, fun v H1 v0 v1 s1 B1 => ?_⟩
    · have : (1000 : Int) ≤ 10 ^ 30 := by decide
      omega
    obtain ⟨j, rfl⟩ := Int.eq_ofNat_of_zero_le v0
    have hj : j < xs.length := by omega
    have hl1 : H1 l = some (.lst xs) := s1 _ _ hn.symm hl
    refine v_ixL (SqL.of hl1) (atI_nat (List.getElem?_eq_getElem hj)) ?_
    exact k _ _ (List.getElem_mem hj) s1 B1
def spExtent : Sp := fun vs H Q _ => ∃ (b : Addr), vs = [.ref b] ∧ Bag H b ∧ ∀ p (L W : Nat) H', 1 ≤ L → L ≤ 6 → 1 ≤ W → W ≤ 12 → H p = none → But b H H' → Bag H' b → H' p = some (.tup [.int L, .int W]) → Q (.ref p) H'
theorem ok__law_extent (D : DefAt K mg "_law_extent" ["_law_bag_here"] s__law_extent) (T : Tx K mg) (G__law_pick : Glo P w K mg base CX0 2 "_law_pick" ["_law_bag_here", "_law_some"] spPick) :
    Glo P w K mg base CX0 3 "_law_extent" ["_law_bag_here"] spExtent := by
  refine D.ok 2 sc__law_extent (fun vs H Q E h => ?_) (fun f cdv A outer s H vs Q E hr h => ?_)
  · obtain ⟨b, rfl, _⟩ := h
    rfl
  · obtain ⟨b, rfl, hB, k⟩ := h
    refine ⟨_, (pss_one (ps_ret (pe_tup (pa_cons (pe_g G__law_pick (hr.mono (by decide)) rfl pass0 (pa_cons (pv 0) (pa_cons (pe_lst (pa_cons pe_int (pa_cons pe_int (pa_cons pe_int (pa_cons pe_int (pa_cons pe_int (pa_cons pe_int (pa_cons pe_int (pa_cons pe_int pa_nil))))))))) pa_nil))) (pa_cons (pe_g G__law_pick (hr.mono (by decide)) rfl pass0 (pa_cons (pv 0) (pa_cons (pe_lst (pa_cons pe_int (pa_cons pe_int (pa_cons pe_int (pa_cons pe_int (pa_cons pe_int (pa_cons pe_int (pa_cons pe_int (pa_cons pe_int pa_nil))))))))) pa_nil))) pa_nil))))), ?_⟩
    walk_at "zz"
    refine v_lst fun l H1 n1 s1 e1 => ?_
    walk_at "zz"
    refine ⟨b, l, _, rfl, e1, hB.ne n1, by decide, by decide, hB.same s1, fun v H2 hv s2 B2 => ?_⟩
    walk_at "zz"
    refine v_lst fun l2 H3 n3 s3 e3 => ?_
    walk_at "zz"
    refine ⟨b, l2, _, rfl, e3, B2.ne n3, by decide, by decide, B2.same s3, fun u H4 hu s4 B4 => ?_⟩
    walk_at "zz"
    refine v_tup fun p H5 n5 s5 e5 => ?_
    have hv' : ∃ L : Nat, v = .int L ∧ 1 ≤ L ∧ L ≤ 6 := by
      simp only [List.mem_cons, List.mem_nil_iff, or_false] at hv
      rcases hv with h | h | h | h | h | h | h | h <;> subst h
      all_goals first | exact ⟨1, rfl, by decide, by decide⟩ | exact ⟨2, rfl, by decide, by decide⟩ | exact ⟨3, rfl, by decide, by decide⟩ | exact ⟨4, rfl, by decide, by decide⟩ | exact ⟨5, rfl, by decide, by decide⟩ | exact ⟨6, rfl, by decide, by decide⟩
    have hu' : ∃ W : Nat, u = .int W ∧ 1 ≤ W ∧ W ≤ 12 := by
      simp only [List.mem_cons, List.mem_nil_iff, or_false] at hu
      rcases hu with h | h | h | h | h | h | h | h <;> subst h
      all_goals first | exact ⟨1, rfl, by decide, by decide⟩ | exact ⟨2, rfl, by decide, by decide⟩ | exact ⟨3, rfl, by decide, by decide⟩ | exact ⟨5, rfl, by decide, by decide⟩ | exact ⟨12, rfl, by decide, by decide⟩
    obtain ⟨L, rfl, l1, l2⟩ := hv'
    obtain ⟨W, rfl, w1, w2⟩ := hu'
    have sH : But b H H4 := but_trans (but_trans (but_trans (but_of s1) s2) (but_of s3)) s4
    have hp : p ≠ b := fun e => by
      subst e
      exact B4.ne n5 rfl
    exact k p L W H5 l1 l2 w1 w2 (but_free sH hp n5) (but_trans sH (but_of s5)) (B4.same s5) e5
/-! ### words -/
/-- as many d ahead of a boundary as makes no o too many; L of them -/
structure IsW (L : Nat) (v : List Bool) : Prop where
  len : v.length = 2 * L
  cnt : v.count true = L
  pre : ∀ t, t ≤ v.length → t ≤ 2 * (v.take t).count true
theorem IsW.cn {L : Nat} {v : List Bool} (h : IsW L v) (c : Bool) : v.count c = L := by
  cases c with
  | true => exact h.cnt
  | false =>
    have e : v.count true + v.count false = v.length := by
      clear h
      induction v with
      | nil => rfl
      | cons a v ih => cases a <;> simp <;> omega
    rw [h.len, h.cnt] at e
    omega
def spWord : Sp := fun vs H Q _ => ∃ (b : Addr) (L : Nat), vs = [.ref b, .int L] ∧ 1 ≤ L ∧ L ≤ 6 ∧ Bag H b ∧ ∀ v H', IsW L v → But b H H' → Bag H' b → Q (encV v) H'
theorem take_grow {v : List Bool} {b : Bool} {t : Nat} (h : t ≤ v.length) : (v ++ [b]).take t = v.take t := List.take_append_of_le_length h
theorem ok__law_word (D : DefAt K mg "_law_word" ["_law_bag_here", "_law_size"] s__law_word) (T : Tx K mg) (G__law_take : Glo P w K mg base CX0 1 "_law_take" ["_law_bag_here", "_law_many"] spTake) :
    Glo P w K mg base CX0 2 "_law_word" ["_law_bag_here", "_law_size"] spWord := by
  refine D.ok 1 sc__law_word (fun vs H Q E h => ?_) (fun f cdv A outer s H vs Q E hr h => ?_)
  · obtain ⟨b, L, rfl, _⟩ := h
    rfl
  · obtain ⟨b, L, rfl, l1, l2, hB, k⟩ := h
    refine ⟨_, (pss_cons (ps_asg (pe_tup (pa_cons pe_str (pa_cons pe_int pa_nil))) (pg_tupK (K := K) 2 rfl rfl (pgs_cons (pg_name (i := 2) sc__law_word.nd rfl (Or.inl rfl)) (pgs_cons (pg_name (i := 3) sc__law_word.nd rfl (Or.inl rfl)) pgs_nil))))
      (pss_cons (ps_for PassesOwn.never rfl (pi_range1 (by rfl) T.n_range (pa_cons (pe_op op_mul pe_int (pv 1)) pa_nil)) (pg_name (i := 4) sc__law_word.nd rfl (Or.inl rfl))
        (pss_one (ps_if (PW.pt (pw_and (pt_cmpR op_lt (pv 3) (pv 1) (nomark _)) (pw_and1 (PW.pt (pw_or (pt_cmpR op_eq (pe_op op_mul pe_int (pv 3)) (pv 4) (nomark _)) (pw_or1 (pt_cmpR op_eq (pe_g G__law_take (hr.mono (by decide)) rfl pass0 (pa_cons (pv 0) (pa_cons pe_int pa_nil))) pe_int (nomark _)))))))) (pss_one (ps_par (i := 2) (j := 3) (by rfl) sc__law_word.nd rfl rfl (by decide) rfl rfl (pa_cons (pe_op op_addS (pv 2) pe_str) (pa_cons (pe_op op_add (pv 3) pe_int) pa_nil)) (by rfl))) (pss_one (ps_set (i := 2) sc__law_word.nd rfl (Or.inl rfl) (pe_op op_addS (pv 2) pe_str))))))
      (pss_one (ps_ret (pv 2))))), ?_⟩
    walk_at "zz"
    refine v_tup fun p H1 n1 s1 e1 => ?_
    walk_at "zz"
    refine v_rng1 (2 * L) (by omega) (by omega) ?_
    refine v_for0 (fun i σ H' => ∃ (v : List Bool) (dn : Nat) (c : Option V), σ = [some (.ref b), some (.int L), some (encV v), some (.int dn), c] ∧ But b H H' ∧ Bag H' b ∧ v.length = i ∧ v.count true = dn ∧ dn ≤ L ∧ ∀ t, t ≤ v.length → t ≤ 2 * (v.take t).count true) ?_ ?_ ?_
    · exact ⟨[], 0, none, by rw [← enc_nil]; rfl, but_of s1, hB.same s1, rfl, rfl, by omega, fun t ht => by simp at ht; omega⟩
    · rintro i σ H2 hi ⟨v, dn, c, rfl, b2, B2, hl, hc, hd, hp⟩
      have hlen : (enc v).length ≤ 50000 := by
        rw [enc_len]
        omega
      -- d
      have yes : ∀ H3, But b H H3 → Bag H3 b → dn < L → rAddS (encV v) (.str "d") H3 fun x H4 => tCons (tOp (rI0 fun i j => V.int (i + j)) (tVar 3) (tC (V.int 1))) tNil [some (.ref b), some (.int L), some (encV v), some (.int dn), some (.int (i : Nat))] H4 fun xs H5 =>
          nPar 2 3 (x :: xs) [some (.ref b), some (.int L), some (encV v), some (.int dn), some (.int (i : Nat))] H5 (fun σ H' => ∃ (v : List Bool) (dn : Nat) (c : Option V), σ = [some (.ref b), some (.int L), some (encV v), some (.int dn), c] ∧ But b H H' ∧ Bag H' b ∧ v.length = i + 1 ∧ v.count true = dn ∧ dn ≤ L ∧ ∀ t, t ≤ v.length → t ≤ 2 * (v.take t).count true) := by
        intro H3 b3 B3 hdn
        refine v_addS (by show (enc v).length + 1 ≤ 100000; omega) ?_
        walk_at "zz"
        rw [enc_add_d]
        refine ⟨v ++ [true], dn + 1, _, rfl, b3, B3, by simp [hl], by simp [hc], by omega, fun t ht => ?_⟩
        by_cases h : t ≤ v.length
        · rw [take_grow h]
          exact hp t h
        · rw [List.take_of_length_le (by simp; omega)]
          have := hp v.length (Nat.le_refl _)
          rw [List.take_length] at this
          simp at ht ⊢
          omega
      have no : ∀ H3, But b H H3 → Bag H3 b → i < 2 * dn → rAddS (encV v) (.str "o") H3 fun x H4 => (fun σ H' => ∃ (v : List Bool) (dn : Nat) (c : Option V), σ = [some (.ref b), some (.int L), some (encV v), some (.int dn), c] ∧ But b H H' ∧ Bag H' b ∧ v.length = i + 1 ∧ v.count true = dn ∧ dn ≤ L ∧ ∀ t, t ≤ v.length → t ≤ 2 * (v.take t).count true) ([some (.ref b), some (.int L), some x, some (.int dn), some (.int (i : Nat))]) H4 := by
        intro H3 b3 B3 hdn
        refine v_addS (by show (enc v).length + 1 ≤ 100000; omega) ?_
        show ∃ (v : List Bool) (dn : Nat) (c : Option V), _
        rw [enc_add_o]
        refine ⟨v ++ [false], dn, _, rfl, b3, B3, by simp [hl], by simp [hc], by omega, fun t ht => ?_⟩
        by_cases h : t ≤ v.length
        · rw [take_grow h]
          exact hp t h
        · rw [List.take_of_length_le (by simp; omega)]
          simp at ht ⊢
          omega
      walk_at "zz"
      refine v_if (fun h1 => ?_) (fun h1 => ?_)
      · walk_at "zz"
        refine v_if (fun h2 => ?_) (fun h2 => ?_)
        · walk_at "zz"
          exact yes _ b2 B2 (by simpa using h1)
        · walk_at "zz"
          refine ⟨b, 2, rfl, by omega, by decide, B2, fun u H3 u0 u1 b3 B3 => ?_⟩
          walk_at "zz"
          refine v_if (fun h3 => ?_) (fun h3 => ?_)
          · walk_at "zz"
            exact yes _ (but_trans b2 b3) B3 (by simpa using h1)
          · walk_at "zz"
            refine no _ (but_trans b2 b3) B3 ?_
            have := hp v.length (Nat.le_refl _)
            rw [List.take_length, hc, hl] at this
            simp at h2
            omega
      · walk_at "zz"
        refine no _ b2 B2 ?_
        simp at h1
        omega
    · rintro σ H2 ⟨v, dn, c, rfl, b2, B2, hl, hc, hd, hp⟩
      walk_at "zz"
      refine k v H2 ⟨hl, ?_, hp⟩ b2 B2
      have := hp v.length (Nat.le_refl _)
      rw [List.take_length, hc, hl] at this
      omega
end
end Sk
namespace Sk
open PySem PySem.Spec PyProof.Rows L2
/-! Deep data: tuples of ints, of texts, of tuples of ints. -/
theorem eqvI : ∀ is js : List Int, PyData.eqvAll (is.map .int) (js.map .int) = decide (is = js)
  | [], [] => rfl
  | [], _ :: _ => by
    show false = _
    simp
  | _ :: _, [] => by
    show false = _
    simp
  | i :: is, j :: js => by
    show ((i == j) && PyData.eqvAll (is.map .int) (js.map .int)) = _
    rw [eqvI is js]
    by_cases h : i = j <;> by_cases h2 : is = js <;> simp [h, h2]
theorem eqvS : ∀ is js : List Str, PyData.eqvAll (is.map .str) (js.map .str) = decide (is = js)
  | [], [] => rfl
  | [], _ :: _ => by
    show false = _
    simp
  | _ :: _, [] => by
    show false = _
    simp
  | i :: is, j :: js => by
    show ((i == j) && PyData.eqvAll (is.map .str) (js.map .str)) = _
    rw [eqvS is js]
    by_cases h : i = j <;> by_cases h2 : is = js <;> simp [h, h2]
def dI (is : List Int) : PyData := .tuple (is.map .int)
def dII (ls : List (List Int)) : PyData := .tuple (ls.map dI)
def dS (zs : List Str) : PyData := .tuple (zs.map .str)
theorem eqv_dI (is js : List Int) : PyData.eqv (dI is) (dI js) = decide (is = js) := eqvI is js
theorem eqv_dS (is js : List Str) : PyData.eqv (dS is) (dS js) = decide (is = js) := eqvS is js
theorem eqvII : ∀ is js : List (List Int), PyData.eqvAll (is.map dI) (js.map dI) = decide (is = js)
  | [], [] => rfl
  | [], _ :: _ => by
    show false = _
    simp
  | _ :: _, [] => by
    show false = _
    simp
  | i :: is, j :: js => by
    show (PyData.eqv (dI i) (dI j) && PyData.eqvAll (is.map dI) (js.map dI)) = _
    rw [eqvII is js, eqv_dI]
    by_cases h : i = j <;> by_cases h2 : is = js <;> simp [h, h2]
theorem eqv_dII (is js : List (List Int)) : PyData.eqv (dII is) (dII js) = decide (is = js) := eqvII is js
theorem layI : ∀ is : List Int, PyData.canLayAll0 (is.map .int) = true
  | [] => rfl
  | i :: is => by
    show (true && PyData.canLayAll0 (is.map .int)) = true
    rw [layI is]
    rfl
theorem layII : ∀ is : List (List Int), PyData.canLayAll0 (is.map dI) = true
  | [] => rfl
  | i :: is => by
    show (PyData.canLayAll0 (i.map .int) && PyData.canLayAll0 (is.map dI)) = true
    rw [layI, layII is]
    rfl
theorem depI : ∀ is : List Int, PyData.depthAll (is.map .int) ≤ 1
  | [] => by show 0 ≤ 1; omega
  | i :: is => by
    have h := depI is
    show max (PyData.depth (.int i)) (PyData.depthAll (is.map .int)) ≤ 1
    have : PyData.depth (.int i) ≤ 1 := by show 0 ≤ 1; omega
    omega
theorem depII : ∀ is : List (List Int), PyData.depthAll (is.map dI) ≤ 2
  | [] => by show 0 ≤ 2; omega
  | i :: is => by
    have h := depII is
    have h2 := depI i
    show max (PyData.depthAll (i.map .int) + 1) (PyData.depthAll (is.map dI)) ≤ 2
    omega
theorem depS : ∀ is : List Str, PyData.depthAll (is.map .str) ≤ 1
  | [] => by show 0 ≤ 1; omega
  | i :: is => by
    have h := depS is
    show max (PyData.depth (.str i)) (PyData.depthAll (is.map .str)) ≤ 1
    have : PyData.depth (.str i) ≤ 1 := by show 0 ≤ 1; omega
    omega
theorem shI (is : List Int) : SeqAt.shaped (dI is) = true := by
  unfold SeqAt.shaped
  have h := depI is
  have e : PyData.depth (dI is) ≤ 64 := by
    show PyData.depthAll (is.map .int) + 1 ≤ 64
    omega
  rw [show PyData.canLay0 (dI is) = true from layI is, decide_eq_true e]
  rfl
theorem shII (is : List (List Int)) : SeqAt.shaped (dII is) = true := by
  unfold SeqAt.shaped
  have h := depII is
  have e : PyData.depth (dII is) ≤ 64 := by
    show PyData.depthAll (is.map dI) + 1 ≤ 64
    omega
  rw [show PyData.canLay0 (dII is) = true from layII is, decide_eq_true e]
  rfl
theorem shLI (is : List (List Int)) : SeqAt.shaped (.list (is.map dI)) = true := by
  unfold SeqAt.shaped
  have h := depII is
  have e : PyData.depth (.list (is.map dI)) ≤ 64 := by
    show PyData.depthAll (is.map dI) + 1 ≤ 64
    omega
  rw [show PyData.canLay0 (.list (is.map dI)) = true from layII is, decide_eq_true e]
  rfl
theorem shS {is : List Str} (l : PyData.canLayAll0 (is.map .str) = true) : SeqAt.shaped (dS is) = true := by
  unfold SeqAt.shaped
  have h := depS is
  have e : PyData.depth (dS is) ≤ 64 := by
    show PyData.depthAll (is.map .str) + 1 ≤ 64
    omega
  rw [show PyData.canLay0 (dS is) = true from l, decide_eq_true e]
  rfl
def dO (o : Option (Int × Int)) : PyData := match o with
  | none => .none
  | some (a, b) => dI [a, b]
theorem eqv_dO (o o' : Option (Int × Int)) : PyData.eqv (dO o) (dO o') = decide (o = o') := by
  cases o with
  | none =>
    cases o' with
    | none => rfl
    | some y => rfl
  | some x =>
    cases o' with
    | none => rfl
    | some y =>
      obtain ⟨a, b⟩ := x
      obtain ⟨c, d⟩ := y
      show PyData.eqv (dI [a, b]) (dI [c, d]) = _
      rw [eqv_dI]
      by_cases h : a = c <;> by_cases h2 : b = d <;> simp [h, h2]
theorem shO (o : Option (Int × Int)) : SeqAt.shaped (dO o) = true := by
  cases o with
  | none => rfl
  | some x => exact shI [x.1, x.2]
def dOS (o : Option (List Str)) : PyData := match o with
  | none => .none
  | some zs => dS zs
theorem eqv_dOS (o o' : Option (List Str)) : PyData.eqv (dOS o) (dOS o') = decide (o = o') := by
  cases o with
  | none =>
    cases o' with
    | none => rfl
    | some y => rfl
  | some x =>
    cases o' with
    | none => rfl
    | some y =>
      show PyData.eqv (dS x) (dS y) = _
      rw [eqv_dS]
      by_cases h : x = y <;> simp [h]
section
variable {K : PySem.W.Frag} {H : Hp} {Q : VK}
theorem dpI : ∀ is : List Int, DpAll K H (is.map .int) (is.map .int)
  | [] => .nil
  | i :: is => .cons (.int i) (dpI is)
theorem dpS : ∀ is : List Str, DpAll K H (is.map .str) (is.map .str)
  | [] => .nil
  | i :: is => .cons (.str i) (dpS is)
theorem Dp.I {p : Addr} {is : List Int} (h : H p = some (.tup (is.map .int))) : Dp K H (.ref p) (dI is) := .tup (SqT.of h) (dpI is)
theorem Dp.S {p : Addr} {is : List Str} (h : H p = some (.tup (is.map .str))) : Dp K H (.ref p) (dS is) := .tup (SqT.of h) (dpS is)
/-- refs to tuples of ints -/
inductive Tups (H : Hp) : List V → List (List Int) → Prop
  | nil : Tups H [] []
  | cons {p : Addr} {is : List Int} {rs : List V} {ls : List (List Int)} (h : H p = some (.tup (is.map .int))) (t : Tups H rs ls) : Tups H (.ref p :: rs) (is :: ls)
theorem Tups.dp {rs : List V} {ls : List (List Int)} (t : Tups H rs ls) : DpAll K H rs (ls.map dI) := by
  induction t with
  | nil => exact .nil
  | cons h t ih => exact .cons (Dp.I h) ih
theorem Tups.same {H' : Hp} {rs : List V} {ls : List (List Int)} (t : Tups H rs ls) (s : Same H H') : Tups H' rs ls := by
  induction t with
  | nil => exact .nil
  | cons h t ih => exact .cons (s _ _ h) ih
theorem Tups.but {H' : Hp} {l : Addr} {xs : List V} {rs : List V} {ls : List (List Int)} (t : Tups H rs ls) (s : But l H H') (hl : H l = some (.lst xs)) : Tups H' rs ls := by
  induction t with
  | nil => exact .nil
  | cons h t ih => exact .cons (s _ _ (fun e => by rw [e, hl] at h; cases h) h) ih
theorem Tups.but2 {H' : Hp} {l : Addr} {rs : List V} {ls : List (List Int)} (t : Tups H rs ls) (s : But l H H') (hl : ∀ is : List Int, H l ≠ some (.tup (is.map .int))) : Tups H' rs ls := by
  induction t with
  | nil => exact .nil
  | cons h t ih => exact .cons (s _ _ (fun e => by rw [e] at h; exact hl _ h) h) ih
theorem Tups.len {rs : List V} {ls : List (List Int)} (t : Tups H rs ls) : rs.length = ls.length := by
  induction t with
  | nil => rfl
  | cons h t ih => simp [ih]
theorem Tups.snoc {p : Addr} {is : List Int} {rs : List V} {ls : List (List Int)} (t : Tups H rs ls) (h : H p = some (.tup (is.map .int))) : Tups H (rs ++ [.ref p]) (ls ++ [is]) := by
  induction t with
  | nil => exact .cons h .nil
  | cons h2 t ih => exact .cons h2 ih
theorem Tups.get {rs : List V} {ls : List (List Int)} (t : Tups H rs ls) : ∀ {i : Nat} {x : V}, rs[i]? = some x → ∃ p is, x = .ref p ∧ ls[i]? = some is ∧ H p = some (.tup (is.map .int)) := by
  induction t with
  | nil => intro i x h; cases h
  | cons h t ih =>
    intro i x hx
    cases i with
    | zero =>
      cases hx
      exact ⟨_, _, rfl, rfl, h⟩
    | succ i => exact ih hx
theorem Tups.get2 {rs : List V} {ls : List (List Int)} (t : Tups H rs ls) : ∀ {i : Nat} {is : List Int}, ls[i]? = some is → ∃ p, rs[i]? = some (.ref p) ∧ H p = some (.tup (is.map .int)) := by
  induction t with
  | nil => intro i x h; cases h
  | cons h t ih =>
    intro i x hx
    cases i with
    | zero =>
      cases hx
      exact ⟨_, rfl, h⟩
    | succ i => exact ih hx
def OptP (H : Hp) (x : V) (o : Option (Int × Int)) : Prop := match o with
  | none => x = .non
  | some (a, b) => ∃ p, x = .ref p ∧ H p = some (.tup [.int a, .int b])
theorem OptP.dp {x : V} {o : Option (Int × Int)} (h : OptP H x o) : Dp K H x (dO o) := by
  cases o with
  | none =>
    have h' : x = .non := h
    rw [h']
    exact .non
  | some y =>
    obtain ⟨a, b⟩ := y
    obtain ⟨p, rfl, e⟩ := h
    exact Dp.I (is := [a, b]) e
theorem OptP.same {H' : Hp} {x : V} {o : Option (Int × Int)} (h : OptP H x o) (s : Same H H') : OptP H' x o := by
  cases o with
  | none => exact h
  | some y =>
    obtain ⟨p, e, e2⟩ := h
    exact ⟨p, e, s _ _ e2⟩
theorem OptP.isN {x : V} {o : Option (Int × Int)} (h : OptP H x o) : decide (x = .non) = decide (o = none) := by
  cases o with
  | none =>
    have h' : x = .non := h
    rw [h']
    rfl
  | some y =>
    obtain ⟨p, e, e2⟩ := h
    rw [e]
    rfl
def OptS (H : Hp) (x : V) (o : Option (List Str)) : Prop := match o with
  | none => x = .non
  | some zs => ∃ p, x = .ref p ∧ H p = some (.tup (zs.map .str))
theorem OptS.dp {x : V} {o : Option (List Str)} (h : OptS H x o) : Dp K H x (dOS o) := by
  cases o with
  | none =>
    have h' : x = .non := h
    rw [h']
    exact .non
  | some y =>
    obtain ⟨p, rfl, e⟩ := h
    exact Dp.S e
theorem OptS.same {H' : Hp} {x : V} {o : Option (List Str)} (h : OptS H x o) (s : Same H H') : OptS H' x o := by
  cases o with
  | none => exact h
  | some y =>
    obtain ⟨p, e, e2⟩ := h
    exact ⟨p, e, s _ _ e2⟩
theorem OptS.isN {x : V} {o : Option (List Str)} (h : OptS H x o) : decide (x = .non) = decide (o = none) := by
  cases o with
  | none =>
    have h' : x = .non := h
    rw [h']
    rfl
  | some y =>
    obtain ⟨p, e, e2⟩ := h
    rw [e]
    rfl
theorem shOS {o : Option (List Str)} (l : ∀ zs, o = some zs → PyData.canLayAll0 (zs.map .str) = true) : SeqAt.shaped (dOS o) = true := by
  cases o with
  | none => rfl
  | some x => exact shS (l _ rfl)
theorem v_eqO {x y : V} {o o' : Option (Int × Int)} (h1 : OptP H x o) (h2 : OptP H y o') (h : Q (.bl (decide (o = o'))) H) : rEqD K x y H Q := ⟨_, _, h1.dp, h2.dp, shO _, shO _, by rw [eqv_dO]; exact h⟩
theorem v_neO {x y : V} {o o' : Option (Int × Int)} (h1 : OptP H x o) (h2 : OptP H y o') (h : Q (.bl (!decide (o = o'))) H) : rNeD K x y H Q := ⟨_, _, h1.dp, h2.dp, shO _, shO _, by rw [eqv_dO]; exact h⟩
theorem v_eqOS {x y : V} {o o' : Option (List Str)} (h1 : OptS H x o) (h2 : OptS H y o') (l1 : ∀ zs, o = some zs → PyData.canLayAll0 (zs.map .str) = true) (l2 : ∀ zs, o' = some zs → PyData.canLayAll0 (zs.map .str) = true) (h : Q (.bl (decide (o = o'))) H) : rEqD K x y H Q :=
  ⟨_, _, h1.dp, h2.dp, shOS l1, shOS l2, by rw [eqv_dOS]; exact h⟩
theorem v_neOS {x y : V} {o o' : Option (List Str)} (h1 : OptS H x o) (h2 : OptS H y o') (l1 : ∀ zs, o = some zs → PyData.canLayAll0 (zs.map .str) = true) (l2 : ∀ zs, o' = some zs → PyData.canLayAll0 (zs.map .str) = true) (h : Q (.bl (!decide (o = o'))) H) : rNeD K x y H Q :=
  ⟨_, _, h1.dp, h2.dp, shOS l1, shOS l2, by rw [eqv_dOS]; exact h⟩
theorem v_eqII {p q : Addr} {rs rs' : List V} {ls ls' : List (List Int)} (e1 : H p = some (.tup rs)) (t1 : Tups H rs ls) (e2 : H q = some (.tup rs')) (t2 : Tups H rs' ls') (h : Q (.bl (decide (ls = ls'))) H) : rEqD K (.ref p) (.ref q) H Q :=
  ⟨dII ls, dII ls', .tup (SqT.of e1) t1.dp, .tup (SqT.of e2) t2.dp, shII _, shII _, by rw [eqv_dII]; exact h⟩
/-- a tuple of ints in a list of such -/
theorem v_notInT {p q : Addr} {is : List Int} {rs : List V} {ls : List (List Int)} (e1 : H p = some (.tup (is.map .int))) (e2 : H q = some (.lst rs)) (t2 : Tups H rs ls) (h : Q (.bl (!decide (is ∈ ls))) H) : rNotInD K (.ref p) (.ref q) H Q :=
  ⟨dI is, ls.map dI, Dp.I e1, .lst (SqL.of e2) t2.dp, shI _, shLI _, by
    have e : ((ls.map dI).any fun z => PyData.eqv z (dI is)) = decide (is ∈ ls) := by
      rw [List.any_map]
      have : (fun z => PyData.eqv z (dI is)) ∘ dI = fun z => decide (z = is) := by
        funext z
        exact eqv_dI z is
      rw [this]
      by_cases hm : is ∈ ls
      · rw [decide_eq_true hm]
        exact List.any_eq_true.mpr ⟨is, hm, by simp⟩
      · rw [decide_eq_false hm]
        exact List.any_eq_false.mpr fun x hx => by
          simp
          exact fun e => hm (e ▸ hx)
    rw [e]
    exact h⟩
theorem v_inT {p q : Addr} {is : List Int} {rs : List V} {ls : List (List Int)} (e1 : H p = some (.tup (is.map .int))) (e2 : H q = some (.lst rs)) (t2 : Tups H rs ls) (h : Q (.bl (decide (is ∈ ls))) H) : rInD K (.ref p) (.ref q) H Q :=
  ⟨dI is, ls.map dI, Dp.I e1, .lst (SqL.of e2) t2.dp, shI _, shLI _, by
    have e : ((ls.map dI).any fun z => PyData.eqv z (dI is)) = decide (is ∈ ls) := by
      rw [List.any_map]
      have : (fun z => PyData.eqv z (dI is)) ∘ dI = fun z => decide (z = is) := by
        funext z
        exact eqv_dI z is
      rw [this]
      by_cases hm : is ∈ ls
      · rw [decide_eq_true hm]
        exact List.any_eq_true.mpr ⟨is, hm, by simp⟩
      · rw [decide_eq_false hm]
        exact List.any_eq_false.mpr fun x hx => by
          simp
          exact fun e => hm (e ▸ hx)
    rw [e]
    exact h⟩
end
end Sk
namespace Sk
open PySem PySem.Spec PyProof.Rows L2
/-! What is seen, first differences: plain functions. -/
def seen (p q : Nat) : List Bool → List Int → List Int
  | b :: w, i :: r => List.replicate (if b = true then p else q) i ++ seen p q w r
  | _, _ => []
theorem seen_nil {p q : Nat} {w : List Bool} : seen p q w [] = [] := by
  cases w <;> rfl
theorem seen_snoc {p q : Nat} : ∀ {w : List Bool} {r : List Int} {t : Nat} {b : Bool} {i : Int}, w[t]? = some b → r[t]? = some i → seen p q (w.take (t + 1)) (r.take (t + 1)) = seen p q (w.take t) (r.take t) ++ List.replicate (if b = true then p else q) i
  | b :: w, i :: r, 0, _, _, h1, h2 => by
    cases h1
    cases h2
    simp [seen]
  | b :: w, i :: r, t + 1, b', i', h1, h2 => by
    have e := seen_snoc (p := p) (q := q) (w := w) (r := r) (t := t) (b := b') (i := i') h1 h2
    show List.replicate _ i ++ seen p q (w.take (t + 1)) (r.take (t + 1)) = (List.replicate _ i ++ seen p q (w.take t) (r.take t)) ++ _
    rw [e, List.append_assoc]
  | [], _, _, _, _, h1, _ => by simp at h1
  | _ :: _, [], _, _, _, _, h2 => by simp at h2
theorem seen_len {p q : Nat} : ∀ {w : List Bool} {r : List Int}, w.length ≤ r.length → (seen p q w r).length = p * w.count true + q * w.count false
  | [], r, _ => by simp [seen]
  | b :: w, [], h => by simp at h
  | b :: w, i :: r, h => by
    have e := seen_len (p := p) (q := q) (w := w) (r := r) (by simpa using h)
    show (List.replicate _ i ++ seen p q w r).length = _
    rw [List.length_append, List.length_replicate, e]
    cases b
    · simp [Nat.mul_add]
      omega
    · simp [Nat.mul_add]
      omega
def keep (c : Bool) : List Bool → List Int → List Int
  | b :: w, i :: r => if b = c then i :: keep c w r else keep c w r
  | _, _ => []
theorem keep_snoc {c : Bool} : ∀ {w : List Bool} {r : List Int} {t : Nat} {b : Bool} {i : Int}, w[t]? = some b → r[t]? = some i → keep c (w.take (t + 1)) (r.take (t + 1)) = keep c (w.take t) (r.take t) ++ if b = c then [i] else []
  | b :: w, i :: r, 0, _, _, h1, h2 => by
    cases h1
    cases h2
    simp [keep]
  | b :: w, i :: r, t + 1, b', i', h1, h2 => by
    have e := keep_snoc (c := c) (w := w) (r := r) (t := t) (b := b') (i := i') h1 h2
    show (if b = c then i :: keep c (w.take (t + 1)) (r.take (t + 1)) else keep c (w.take (t + 1)) (r.take (t + 1))) = (if b = c then i :: keep c (w.take t) (r.take t) else keep c (w.take t) (r.take t)) ++ _
    rw [e]
    by_cases h : b = c
    · rw [if_pos h, if_pos h]
      rfl
    · rw [if_neg h, if_neg h]
  | [], _, _, _, _, h1, _ => by simp at h1
  | _ :: _, [], _, _, _, _, h2 => by simp at h2
theorem keep_len {c : Bool} : ∀ {w : List Bool} {r : List Int}, (keep c w r).length ≤ w.length
  | [], _ => by simp [keep]
  | _ :: _, [] => by simp [keep]
  | b :: w, i :: r => by
    have := keep_len (c := c) (w := w) (r := r)
    show (if b = c then i :: keep c w r else keep c w r).length ≤ _
    split <;> simp <;> omega
def first (P : Nat → Bool) (n : Nat) : Option Nat := (List.range n).find? P
theorem first_none {P : Nat → Bool} {n : Nat} (h : ∀ t, t < n → P t = false) : first P n = none := by
  unfold first
  rw [List.find?_eq_none]
  intro t ht
  rw [h t (List.mem_range.mp ht)]
  simp
theorem find_range {P : Nat → Bool} {i : Nat} : ∀ {n : Nat}, i < n → (∀ t, t < i → P t = false) → P i = true → (List.range n).find? P = some i
  | 0, hi, _, _ => absurd hi (Nat.not_lt_zero _)
  | n + 1, hi, h, e => by
    rw [List.range_succ, List.find?_append]
    by_cases hn : i < n
    · rw [find_range hn h e]
      rfl
    · have : i = n := by omega
      subst this
      rw [show (List.range i).find? P = none from first_none h]
      simp [e]
theorem first_some {P : Nat → Bool} {n i : Nat} (hi : i < n) (h : ∀ t, t < i → P t = false) (e : P i = true) : first P n = some i := find_range hi h e
theorem first_none_iff {P : Nat → Bool} {n : Nat} : first P n = none ↔ ∀ t, t < n → P t = false := by
  refine ⟨fun h t ht => ?_, first_none⟩
  unfold first at h
  have := List.find?_eq_none.mp h t (List.mem_range.mpr ht)
  simpa using this
theorem first_of {P : Nat → Bool} {n i : Nat} (h : first P n = some i) : i < n ∧ P i = true ∧ ∀ t, t < i → P t = false := by
  have h1 := List.find?_some h
  have h2 := List.mem_range.mp (List.mem_of_find?_eq_some h)
  refine ⟨h2, h1, fun t ht => ?_⟩
  refine Bool.eq_false_iff.mpr fun hc => ?_
  -- the first one is not behind t
  have : ∃ j, j ≤ t ∧ P j = true ∧ ∀ k, k < j → P k = false := by
    clear h h1 h2 ht
    induction t using Nat.strongRecOn with
    | ind t ih =>
      by_cases hk : ∃ k, k < t ∧ P k = true
      · obtain ⟨k, hk1, hk2⟩ := hk
        obtain ⟨j, j1, j2, j3⟩ := ih k hk1 hk2
        exact ⟨j, by omega, j2, j3⟩
      · exact ⟨t, Nat.le_refl _, hc, fun k hk3 => by
          cases hp : P k with
          | false => rfl
          | true => exact absurd ⟨k, hk3, hp⟩ hk⟩
  obtain ⟨j, j1, j2, j3⟩ := this
  have e := first_some (n := n) (by omega) j3 j2
  rw [h] at e
  cases e
  omega
def first2 (g : Nat → Option Nat) (n : Nat) : Option (Int × Int) := match first (fun c => (g c).isSome) n with
  | none => none
  | some c => (g c).map fun (t : Nat) => ((c : Int), (t : Int))
theorem first2_none {g : Nat → Option Nat} {n : Nat} (h : ∀ c, c < n → g c = none) : first2 g n = none := by
  unfold first2
  rw [first_none fun t ht => by rw [h t ht]; rfl]
theorem first2_some {g : Nat → Option Nat} {n i t : Nat} (hi : i < n) (h : ∀ c, c < i → g c = none) (e : g i = some t) : first2 g n = some ((i : Int), (t : Int)) := by
  unfold first2
  rw [first_some (i := i) hi (fun c hc => by rw [h c hc]; rfl) (by rw [e]; rfl)]
  simp [e]
theorem first2_none_iff {g : Nat → Option Nat} {n : Nat} : first2 g n = none ↔ ∀ c, c < n → g c = none := by
  refine ⟨fun h c hc => ?_, first2_none⟩
  unfold first2 at h
  cases hf : first (fun c => (g c).isSome) n with
  | none =>
    have := first_none_iff.mp hf c hc
    simpa using this
  | some j =>
    rw [hf] at h
    obtain ⟨_, h2, _⟩ := first_of hf
    obtain ⟨t, ht⟩ := Option.isSome_iff_exists.mp h2
    simp [ht] at h
theorem first2_of {g : Nat → Option Nat} {n : Nat} {a b : Int} (h : first2 g n = some (a, b)) : ∃ i t : Nat, a = i ∧ b = t ∧ i < n ∧ g i = some t ∧ ∀ c, c < i → g c = none := by
  unfold first2 at h
  cases hf : first (fun c => (g c).isSome) n with
  | none =>
    rw [hf] at h
    cases h
  | some j =>
    rw [hf] at h
    obtain ⟨h1, h2, h3⟩ := first_of hf
    obtain ⟨t, ht⟩ := Option.isSome_iff_exists.mp h2
    simp [ht] at h
    obtain ⟨rfl, rfl⟩ := h
    exact ⟨j, t, rfl, rfl, h1, ht, fun c hc => by have := h3 c hc; simpa using this⟩
/-- the first place where two lists differ -/
def fd {α : Type} [DecidableEq α] (xs ys : List α) : Option Nat := first (fun t => decide (xs[t]? ≠ ys[t]?)) xs.length
theorem fd_none {α : Type} [DecidableEq α] {xs ys : List α} (hl : xs.length = ys.length) : fd xs ys = none ↔ xs = ys := by
  unfold fd
  rw [first_none_iff]
  constructor
  · intro h
    refine List.ext_getElem? fun t => ?_
    by_cases ht : t < xs.length
    · have := h t ht
      simpa using this
    · rw [List.getElem?_eq_none (by omega), List.getElem?_eq_none (by omega)]
  · rintro rfl t _
    simp
/-! ### the answers -/
abbrev Ws := List (List Bool)
abbrev Rs := List (List Int)
def wAt (ws : Ws) (c : Nat) : List Bool := ws.getD c []
def rAt (rs : Rs) (c : Nat) : List Int := rs.getD c []
def spot (ws us : Ws) (rs : Rs) (p q : Nat) : Option (Int × Int) := first2 (fun c => fd (seen p q (wAt ws c) (rAt rs c)) (seen p q (wAt us c) (rAt rs c))) ws.length
def cell (ws us : Ws) : Option (Int × Int) := first2 (fun c => fd (wAt ws c) (wAt us c)) ws.length
def Agree (ws us : Ws) (rs : Rs) : Prop := ∀ c, c < ws.length → ∀ t, 1 ≤ t → t < (wAt ws c).length → (rAt rs c)[t - 1]? ≠ (rAt rs c)[t]? → ((wAt ws c).take t).count true = ((wAt us c).take t).count true
theorem wAt_some {ws : Ws} {c : Nat} {w : List Bool} (h : ws[c]? = some w) : wAt ws c = w := by
  unfold wAt
  rw [List.getD_eq_getElem?_getD, h]
  rfl
theorem rAt_some {rs : Rs} {c : Nat} {r : List Int} (h : rs[c]? = some r) : rAt rs c = r := by
  unfold rAt
  rw [List.getD_eq_getElem?_getD, h]
  rfl
theorem seen_small {p q : Nat} {w : List Bool} {r : List Int} (hp : p ≤ 100) (hq : q ≤ 100) (h : w.length ≤ 12) (hr : w.length ≤ r.length) : (seen p q w r).length ≤ 2400 := by
  rw [seen_len hr]
  have h1 := List.count_le_length (a := true) (l := w)
  have h2 := List.count_le_length (a := false) (l := w)
  have h3 : p * w.count true ≤ 100 * 12 := Nat.mul_le_mul hp (by omega)
  have h4 : q * w.count false ≤ 100 * 12 := Nat.mul_le_mul hq (by omega)
  omega
theorem rep_flat (k : Nat) (x : Int) : (List.replicate k [V.int x]).flatten = (List.replicate k x).map V.int := by
  induction k with
  | zero => rfl
  | succ k ih =>
    rw [List.replicate_succ, List.flatten_cons, ih, List.replicate_succ]
    rfl
def keeps (c : Bool) (ws : Ws) (rs : Rs) : Rs := List.zipWith (keep c) ws rs
theorem keeps_snoc {c : Bool} {ws : Ws} {rs : Rs} {i : Nat} {w : List Bool} {r : List Int} (h1 : ws[i]? = some w) (h2 : rs[i]? = some r) : (keeps c ws rs).take (i + 1) = (keeps c ws rs).take i ++ [keep c w r] := by
  unfold keeps
  rw [List.take_add_one, List.getElem?_zipWith, h1, h2]
  rfl
/-! ### lists of lists of ints, of texts -/
def iL (is : List Int) : List V := is.map V.int
theorem iL_mem {is : List Int} {v : V} (h : v ∈ iL is) : ∃ k : Int, v = .int k := by
  obtain ⟨k, _, rfl⟩ := List.mem_map.mp h
  exact ⟨k, rfl⟩
theorem iL_get {is : List Int} {i : Nat} (h : i < is.length) : (iL is)[i]? = some (.int is[i]) := by
  unfold iL
  rw [List.getElem?_map, List.getElem?_eq_getElem h]
  rfl
theorem iL_len (is : List Int) : (iL is).length = is.length := List.length_map ..
def wL (ws : Ws) : List V := ws.map encV
theorem wL_get {ws : Ws} {c : Nat} {w : List Bool} (h : ws[c]? = some w) : (wL ws)[c]? = some (encV w) := by
  unfold wL
  rw [List.getElem?_map, h]
  rfl
theorem wL_len (ws : Ws) : (wL ws).length = ws.length := List.length_map ..
theorem wL_of {ws : Ws} {c : Nat} {x : V} (h : (wL ws)[c]? = some x) : ∃ w, ws[c]? = some w ∧ x = encV w := by
  unfold wL at h
  rw [List.getElem?_map] at h
  cases e : ws[c]? with
  | none =>
    rw [e] at h
    cases h
  | some w =>
    rw [e] at h
    cases h
    exact ⟨w, rfl, rfl⟩
inductive Lsts (H : Hp) : List V → Rs → Prop
  | nil : Lsts H [] []
  | cons {p : Addr} {is : List Int} {rs : List V} {ls : Rs} (h : H p = some (.lst (iL is))) (t : Lsts H rs ls) : Lsts H (.ref p :: rs) (is :: ls)
section
variable {H : Hp}
theorem Lsts.same {H' : Hp} {rs : List V} {ls : Rs} (t : Lsts H rs ls) (s : Same H H') : Lsts H' rs ls := by
  induction t with
  | nil => exact .nil
  | cons h t ih => exact .cons (s _ _ h) ih
theorem Lsts.but {H' : Hp} {l : Addr} {rs : List V} {ls : Rs} (t : Lsts H rs ls) (s : But l H H') (hl : ∀ is, H l ≠ some (.lst (iL is))) : Lsts H' rs ls := by
  induction t with
  | nil => exact .nil
  | cons h t ih => exact .cons (s _ _ (fun e => by rw [e] at h; exact hl _ h) h) ih
theorem Lsts.len {rs : List V} {ls : Rs} (t : Lsts H rs ls) : rs.length = ls.length := by
  induction t with
  | nil => rfl
  | cons h t ih => simp [ih]
theorem Lsts.snoc {p : Addr} {is : List Int} {rs : List V} {ls : Rs} (t : Lsts H rs ls) (h : H p = some (.lst (iL is))) : Lsts H (rs ++ [.ref p]) (ls ++ [is]) := by
  induction t with
  | nil => exact .cons h .nil
  | cons h2 t ih => exact .cons h2 ih
theorem Lsts.get {rs : List V} {ls : Rs} (t : Lsts H rs ls) : ∀ {i : Nat} {x : V}, rs[i]? = some x → ∃ p is, x = .ref p ∧ ls[i]? = some is ∧ H p = some (.lst (iL is)) := by
  induction t with
  | nil => intro i x h; cases h
  | cons h t ih =>
    intro i x hx
    cases i with
    | zero =>
      cases hx
      exact ⟨_, _, rfl, rfl, h⟩
    | succ i => exact ih hx
theorem Lsts.get2 {rs : List V} {ls : Rs} (t : Lsts H rs ls) : ∀ {i : Nat} {is : List Int}, ls[i]? = some is → ∃ p, rs[i]? = some (.ref p) ∧ H p = some (.lst (iL is)) := by
  induction t with
  | nil => intro i x h; cases h
  | cons h t ih =>
    intro i x hx
    cases i with
    | zero =>
      cases hx
      exact ⟨_, rfl, h⟩
    | succ i => exact ih hx
end
end Sk
namespace Sk
open PySem PySem.Spec PyProof.Rows L2
/-! step words: z one step, zz as far as it goes, at: what stands at an address -/
local macro_rules
  | `(tactic| walk_at "zz") => `(tactic| repeat first
    | (with_reducible refine z_seq ?_) | (with_reducible refine z_asg ?_) | (with_reducible refine z_gname ?_) | (with_reducible refine z_var (by with_unfolding_all rfl) ?_)
    | (with_reducible refine z_c ?_) | (with_reducible refine z_op ?_) | (with_reducible refine z_cons ?_) | (with_reducible refine z_nil ?_)
    | (with_reducible refine z_next ?_) | (with_reducible refine z_call ?_) | (with_reducible refine z_drop ?_) | (with_reducible refine z_ret ?_)
    | (with_reducible refine z_ifs ?_) | (with_reducible refine z_un ?_) | (with_reducible refine z_chain ?_) | (with_reducible refine z_rI0 ?_)
    | (with_reducible refine z_eqI ?_) | (with_reducible refine z_neI ?_) | (with_reducible refine z_eqS ?_) | (with_reducible refine z_neS ?_)
    | (with_reducible refine z_eqB ?_) | (with_reducible refine z_neB ?_) | (with_reducible refine z_test ?_) | (with_reducible refine z_tB ?_)
    | (with_reducible refine z_bl ?_) | (with_reducible refine z_and ?_) | (with_reducible refine z_or ?_) | (with_reducible refine z_not ?_)
    | (with_reducible refine z_andV ?_) | (with_reducible refine z_orV ?_) | (with_reducible refine z_notV ?_) | (with_reducible refine z_if ?_)
    | (with_reducible refine z_cb ?_) | (with_reducible refine z_part ?_) | (with_reducible refine z_noPart ?_) | (with_reducible refine z_int ?_)
    | (with_reducible refine z_sl ?_) | (with_reducible refine z_fld ?_) | (with_reducible refine z_tup ?_) | (with_reducible refine z_lst ?_)
    | (with_reducible refine z_bm ?_) | (with_reducible refine z_bm0 ?_) | (with_reducible refine z_fldS ?_) | (with_reducible refine z_rU ?_)
    | (with_reducible refine v_intI ?_) | (with_reducible refine v_intB ?_) | (with_reducible refine v_abs ?_) | (with_reducible refine v_isN ?_)
    | (with_reducible refine v_notN ?_) | (with_reducible refine v_cnt ?_) | (with_reducible refine z_make ?_) | (with_reducible refine z_tru ?_)
    | (with_reducible refine z_m1 ?_) | (with_reducible refine z_strI ?_) | (with_reducible refine z_zS ?_) | (with_reducible refine z_eS ?_)
    | (with_reducible refine v_isII ?_) | (with_reducible refine v_isIB ?_) | (with_reducible refine v_isBI ?_) | (with_reducible refine v_isBB ?_)
    | (with_reducible refine v_isNI ?_) | (with_reducible refine v_isIT ?_) | (with_reducible refine v_isST ?_) | (with_reducible refine v_isSS ?_)
    | (with_reducible refine v_isIS ?_) | (with_reducible refine z_sub ?_) | (with_reducible refine z_gcons ?_) | (with_reducible refine z_gnil ?_)
    | (with_reducible refine z_par ?_) | (with_reducible refine v_par ?_) | (with_reducible refine z_par3 ?_) | (with_reducible refine v_par3 ?_)
    | (with_reducible refine v_ipI ?_) | (with_reducible refine z_for ?_) | (with_reducible refine z_lc ?_) | (with_reducible refine z_yes ?_)
    | (with_reducible refine z_rng1 ?_) | (with_reducible refine z_rng2 ?_) | (with_reducible refine z_list ?_) | (with_reducible refine z_tupi ?_)
    | (with_reducible refine z_stri ?_) | (with_reducible refine v_istr ?_) | (with_reducible refine iteT ?_) | (with_reducible refine iteF ?_)
    | (with_reducible refine z_nT ?_) | (with_reducible refine z_nF ?_) | (with_reducible refine z_cont ?_) | (with_reducible refine z_brk ?_)
    | (with_reducible refine z_retN ?_) | (walk_at "zn"))
  | `(tactic| walk_at "zn") => `(tactic| first
    | ((with_reducible refine' v_ixL ?k1 ?k2 ?_); (case k1 => walk_at "sq"); (case k2 => rfl)) | ((with_reducible refine' v_ixT ?k1 ?k2 ?_); (case k1 => walk_at "st"); (case k2 => rfl)) | ((with_reducible refine' v_lenL ?k1 ?_); (case k1 => walk_at "sq")) | ((with_reducible refine' v_lenT ?k1 ?_); (case k1 => walk_at "st"))
    | ((with_reducible refine' v_slS ?k1 ?_); (case k1 => (rw [enc_len]; exact small (by omega)))) | ((with_reducible refine' v_lenS ?k1 ?_); (case k1 => (rw [enc_len]; exact small (by omega)))) | ((with_reducible refine' v_slL ?k1 ?_); (case k1 => walk_at "sq")) | ((with_reducible refine' z_tyL ?k1 ?_); (case k1 => walk_at "at"))
    | ((with_reducible refine' v_fld ?k1 ?k2 ?k3 ?k4 ?_); (case k1 => walk_at "at"); (case k2 => assumption); (case k3 => assumption); (case k4 => first | assumption | rfl)) | ((with_reducible refine' v_truL ?k1 ?_); (case k1 => walk_at "at")) | ((with_reducible refine' z_wipe ?k1 ?_); (case k1 => rfl)) | ((with_reducible refine' v_gtup ?k1 ?k2 ?_); (case k1 => walk_at "st"); (case k2 => rfl))
    | ((with_reducible refine' z_aug ?k1 ?_); (case k1 => rfl)) | ((with_reducible refine' v_ilist ?k1 ?_); (case k1 => walk_at "sq")) | ((with_reducible refine' v_itup ?k1 ?_); (case k1 => walk_at "st")) | ((with_reducible refine' z_rI ?k1 ?_); (case k1 => first | (show (_ : Int) ≠ _; omega) | exact .inl ⟨by decide, by decide⟩ | exact .inr ⟨by decide, by decide⟩ | exact ⟨by decide, by decide⟩ | exact .inl ⟨by omega, by omega⟩ | exact .inr ⟨by omega, by omega⟩))
    | ((with_reducible refine' z_var ?hv ?_); (case hv => rfl)))
  | `(tactic| walk_at "at") => `(tactic| first
    | assumption
    | ((with_reducible refine' same_at ?k1 ?k2); (case k1 => assumption); (case k2 => walk_at "at"))
    | ((with_reducible refine' but_at ?k1 ?k2 ?k3); (case k1 => assumption); (case k2 => first | assumption | (apply Ne.symm; assumption)); (case k3 => walk_at "at")))
  | `(tactic| walk_at "sq") => `(tactic| first
    | assumption
    | (refine' SqL.of ?k1; (case k1 => walk_at "at"))
    | ((with_reducible refine' Same.seq ?k1 ?k2); (case k1 => assumption); (case k2 => walk_at "sq")))
  | `(tactic| walk_at "st") => `(tactic| first
    | assumption
    | (refine' SqT.of ?k1; (case k1 => walk_at "at"))
    | ((with_reducible refine' same_tup ?k1 ?k2); (case k1 => assumption); (case k2 => walk_at "st")))
  | `(tactic| walk_at "sa") => `(tactic| first
    | assumption
    | exact Same.refl _
    | (refine' Same.trans ?k1 ?k2; (case k2 => assumption); (case k1 => walk_at "sa")))
/-! The law's helpers, without cards. -/
abbrev s__law_bag : Stmt := top 47
abbrev N__law_bag : List Str := ["_law_script", "_law_at", "_law_cell", "_law_mix", "_law_k", "_law_each"]
theorem sc__law_bag : FnScope N__law_bag ["_law_script", "_law_at"] (defScope s__law_bag) := ⟨rfl, rfl, rfl, by decide +kernel, rfl, by decide +kernel, by decide +kernel⟩
abbrev s__law_is_word : Stmt := top 53
abbrev N__law_is_word : List Str := ["_law_word_here", "_law_t"]
theorem sc__law_is_word : FnScope N__law_is_word ["_law_word_here"] (defScope s__law_is_word) := ⟨rfl, rfl, rfl, by decide +kernel, rfl, by decide +kernel, by decide +kernel⟩
abbrev s__law_downs : Stmt := top 60
abbrev N__law_downs : List Str := ["_law_word_here", "_law_boundary"]
theorem sc__law_downs : FnScope N__law_downs ["_law_word_here", "_law_boundary"] (defScope s__law_downs) := ⟨rfl, rfl, rfl, by decide +kernel, rfl, by decide +kernel, by decide +kernel⟩
abbrev s__law_places : Stmt := top 59
abbrev N__law_places : List Str := ["_law_word_here", "_law_letter", "_law_t"]
theorem sc__law_places : FnScope N__law_places ["_law_word_here", "_law_letter"] (defScope s__law_places) := ⟨rfl, rfl, rfl, by decide +kernel, rfl, by decide +kernel, by decide +kernel⟩
abbrev s__law_ink : Stmt := top 56
abbrev N__law_ink : List Str := ["_law_bag_here"]
theorem sc__law_ink : FnScope N__law_ink ["_law_bag_here"] (defScope s__law_ink) := ⟨rfl, rfl, rfl, by decide +kernel, rfl, by decide +kernel, by decide +kernel⟩
abbrev s__law_kind : Stmt := top 61
abbrev N__law_kind : List Str := ["_law_bag_here"]
theorem sc__law_kind : FnScope N__law_kind ["_law_bag_here"] (defScope s__law_kind) := ⟨rfl, rfl, rfl, by decide +kernel, rfl, by decide +kernel, by decide +kernel⟩
def spDowns : Sp := fun vs H Q _ => ∃ (v : List Bool) (k : Nat), vs = [encV v, .int k] ∧ v.length ≤ 1000 ∧ Q (.int ((v.take k).count true : Nat)) H
def wdB (v : List Bool) : Bool := decide (∀ t, t ≤ v.length → t ≤ 2 * (v.take t).count true)
def spIsWord : Sp := fun vs H Q _ => ∃ (v : List Bool), vs = [encV v] ∧ v.length ≤ 1000 ∧ ∀ b, (b = true ↔ ∀ t, t ≤ v.length → t ≤ 2 * (v.take t).count true) → Q (.bl b) H
def spBag (K : PySem.W.Frag) : Sp := fun vs H Q _ => ∃ (l : Addr) (is : List Int) (k : Nat), vs = [.ref l, .int k] ∧ k ≤ 1 ∧ SqL K H l (iL is) ∧ ∀ b H', H b = none → Same H H' → Bag H' b → Q (.ref b) H'
def spInk : Sp := fun vs H Q _ => ∃ (b : Addr), vs = [.ref b] ∧ Bag H b ∧ ∀ (i : Int) H', But b H H' → Bag H' b → Q (.int i) H'
def spKind : Sp := fun vs H Q _ => ∃ (b : Addr), vs = [.ref b] ∧ Bag H b ∧ ∀ (z : Str) H', But b H H' → Bag H' b → Q (.str z) H'
section
variable {P : Program} {w : World} {K : PySem.W.Frag} {mg : Str → Option Value} {base : Heap}
theorem ok__law_downs (D : DefAt K mg "_law_downs" ["_law_word_here", "_law_boundary"] s__law_downs) (T : Tx K mg) : Glo P w K mg base CX0 1 "_law_downs" ["_law_word_here", "_law_boundary"] spDowns := by
  refine D.ok 0 sc__law_downs (fun vs H Q E h => ?_) (fun f cdv A outer s H vs Q E hr h => ?_)
  · obtain ⟨v, k, rfl, _⟩ := h
    rfl
  · obtain ⟨v, k, rfl, hl, q⟩ := h
    refine ⟨_, (pss_one (ps_ret (pe_m1 PySem.F.slot_str_count PySem.F.type_str_count mt_cnt (pe_slice sl_str (pv 0) po_none (po_some (pv 1))) pe_str))), ?_⟩
    walk_at "zz"
    rw [cut_take, count_d]
    exact q
theorem ok__law_is_word (D : DefAt K mg "_law_is_word" ["_law_word_here"] s__law_is_word) (T : Tx K mg) : Glo P w K mg base CX0 1 "_law_is_word" ["_law_word_here"] spIsWord := by
  refine D.ok 0 sc__law_is_word (fun vs H Q E h => ?_) (fun f cdv A outer s H vs Q E hr h => ?_)
  · obtain ⟨v, rfl, _⟩ := h
    rfl
  · obtain ⟨v, rfl, hl, q⟩ := h
    refine ⟨_, (pss_cons (ps_for PassesOwn.never rfl (pi_range1 (by rfl) T.n_range (pa_cons (pe_op op_add (pe_callB (lenK (K := K) rfl) (by rfl) T.n_len (by decide +kernel) (pa_cons (pv 0) pa_nil)) pe_int) pa_nil)) (pg_name (i := 1) sc__law_is_word.nd rfl (Or.inl rfl))
        (pss_one (ps_if (pt_cmpR op_lt (pe_op op_mul pe_int (pe_m1 PySem.F.slot_str_count PySem.F.type_str_count mt_cnt (pe_slice sl_str (pv 0) po_none (po_some (pv 1))) pe_str)) (pv 1) (nomark _)) (pss_one (ps_ret pe_bl)) pss_nil)))
      (pss_one (ps_ret pe_bl))), ?_⟩
    walk_at "zz"
    refine v_rng1 (v.length + 1) (by rw [enc_len]; rfl) (by omega) ?_
    refine v_for0 (fun i σ H' => ∃ c, σ = [some (encV v), c] ∧ H' = H ∧ ∀ t, t < i → t ≤ 2 * (v.take t).count true) ?_ ?_ ?_
    · exact ⟨none, rfl, rfl, fun t ht => absurd ht (Nat.not_lt_zero _)⟩
    · rintro i σ H' hi ⟨c, rfl, rfl, hp⟩
      walk_at "zz"
      rw [cut_take, count_d]
      refine v_if (fun h1 => ?_) (fun h1 => ?_)
      · walk_at "zz"
        simp at h1
        refine q false ⟨fun e => (by cases e), fun e => ?_⟩
        have := e i (by omega)
        omega
      · walk_at "zz"
        simp at h1
        refine ⟨_, rfl, rfl, fun t ht => ?_⟩
        by_cases e : t = i
        · subst e
          omega
        · exact hp t (by omega)
    · rintro σ H' ⟨c, rfl, rfl, hp⟩
      walk_at "zz"
      exact q true ⟨fun _ t ht => hp t (by omega), fun _ => rfl⟩
theorem ok__law_ink (D : DefAt K mg "_law_ink" ["_law_bag_here"] s__law_ink) (T : Tx K mg) (G__law_take : Glo P w K mg base CX0 1 "_law_take" ["_law_bag_here", "_law_many"] spTake) (G__law_pick : Glo P w K mg base CX0 2 "_law_pick" ["_law_bag_here", "_law_some"] spPick) :
    Glo P w K mg base CX0 3 "_law_ink" ["_law_bag_here"] spInk := by
  refine D.ok 2 sc__law_ink (fun vs H Q E h => ?_) (fun f cdv A outer s H vs Q E hr h => ?_)
  · obtain ⟨v, rfl, _⟩ := h
    rfl
  · obtain ⟨b, rfl, B, q⟩ := h
    refine ⟨_, (pss_cons (ps_if (pt_cmpR op_eq (pe_g G__law_take (hr.mono (by decide)) rfl pass0 (pa_cons (pv 0) (pa_cons pe_int pa_nil))) pe_int (nomark _)) (pss_one (ps_ret (pe_op op_sub (pe_g G__law_take (hr.mono (by decide)) rfl pass0 (pa_cons (pv 0) (pa_cons (pe_op op_pow pe_int pe_int) pa_nil))) (pe_op op_pow pe_int pe_int)))) pss_nil)
      (pss_one (ps_ret (pe_g G__law_pick (hr.mono (by decide)) rfl pass0 (pa_cons (pv 0) (pa_cons (pe_lst (pa_cons pe_int (pa_cons pe_int (pa_cons pe_int (pa_cons pe_int (pa_cons (pe_un un_neg pe_int) (pa_cons pe_int pa_nil))))))) pa_nil)))))), ?_⟩
    walk_at "zz"
    refine ⟨b, 6, rfl, by omega, by decide, B, fun u H1 u0 u1 b1 B1 => ?_⟩
    walk_at "zz"
    refine v_if (fun h1 => ?_) (fun h1 => ?_)
    · walk_at "zz"
      refine ⟨b, _, rfl, by decide, by decide, B1, fun v H2 v0 v1 b2 B2 => ?_⟩
      walk_at "zz"
      exact q _ H2 (but_trans b1 b2) B2
    · walk_at "zz"
      refine v_lst fun l H2 n2 s2 e2 => ?_
      walk_at "zz"
      refine ⟨b, l, _, rfl, e2, B1.ne n2, by decide, by decide, B1.same s2, fun v H3 hv s3 B3 => ?_⟩
      have hv' : ∃ i : Int, v = .int i := by
        simp only [List.mem_cons, List.mem_nil_iff, or_false] at hv
        rcases hv with h | h | h | h | h | h <;> exact ⟨_, h⟩
      obtain ⟨i, rfl⟩ := hv'
      exact q i H3 (but_trans b1 (but_trans (but_of s2) s3)) B3
theorem ok__law_kind (D : DefAt K mg "_law_kind" ["_law_bag_here"] s__law_kind) (T : Tx K mg) (G__law_pick : Glo P w K mg base CX0 2 "_law_pick" ["_law_bag_here", "_law_some"] spPick) :
    Glo P w K mg base CX0 3 "_law_kind" ["_law_bag_here"] spKind := by
  refine D.ok 2 sc__law_kind (fun vs H Q E h => ?_) (fun f cdv A outer s H vs Q E hr h => ?_)
  · obtain ⟨v, rfl, _⟩ := h
    rfl
  · obtain ⟨b, rfl, B, q⟩ := h
    refine ⟨_, (pss_one (ps_ret (pe_g G__law_pick (hr.mono (by decide)) rfl pass0 (pa_cons (pv 0) (pa_cons (pe_lst (pa_cons pe_str (pa_cons pe_str (pa_cons pe_str (pa_cons pe_str (pa_cons pe_str (pa_cons pe_str (pa_cons pe_str pa_nil)))))))) pa_nil))))), ?_⟩
    walk_at "zz"
    refine v_lst fun l H2 n2 s2 e2 => ?_
    walk_at "zz"
    refine ⟨b, l, _, rfl, e2, B.ne n2, by decide, by decide, B.same s2, fun v H3 hv s3 B3 => ?_⟩
    have hv' : ∃ i : Str, v = .str i := by
      simp only [List.mem_cons, List.mem_nil_iff, or_false] at hv
      rcases hv with h | h | h | h | h | h | h <;> exact ⟨_, h⟩
    obtain ⟨i, rfl⟩ := hv'
    exact q i H3 (but_trans (but_of s2) s3) B3
theorem ok__law_bag (D : DefAt K mg "_law_bag" ["_law_script", "_law_at"] s__law_bag) (T : Tx K mg) : Glo P w K mg base CX0 1 "_law_bag" ["_law_script", "_law_at"] (spBag K) := by
  refine D.ok 0 sc__law_bag (fun vs H Q E h => ?_) (fun f cdv A outer s H vs Q E hr h => ?_)
  · obtain ⟨l, is, k, rfl, _⟩ := h
    rfl
  · obtain ⟨l, is, k, rfl, hk, hl, q⟩ := h
    refine ⟨_, (pss_cons (ps_set (i := 2) sc__law_bag.nd rfl (Or.inl rfl) (pe_ifExp (pt_cmpR op_lt (pv 1) (pe_callB (lenK (K := K) rfl) (by rfl) T.n_len (by decide +kernel) (pa_cons (pv 0) pa_nil)) (nomark _)) (pe_callB call_absN (by rfl) T.n_abs (by decide +kernel) (pa_cons (pe_callTy call_intN (by rfl) T.n_int (by decide +kernel) (pa_cons (pe_ix (ixL (K := K) rfl) (pv 0) (pv 1) (fun _ _ => rfl)) pa_nil)) pa_nil)) pe_int))
      (pss_cons (ps_set (i := 3) sc__law_bag.nd rfl (Or.inl rfl) (pe_op op_add pe_int (pe_op op_mul pe_int (pv 1))))
      (pss_cons (ps_for PassesOwn.never rfl (pi_enumS (by rfl) T.n_enumerate (pa_cons (pe_slice sl_list (pv 0) po_none (po_some pe_int)) pa_nil)) (pg_tupK (K := K) 2 rfl rfl (pgs_cons (pg_name (i := 4) sc__law_bag.nd rfl (Or.inl rfl)) (pgs_cons (pg_name (i := 5) sc__law_bag.nd rfl (Or.inl rfl)) pgs_nil)))
        (pss_one (ps_set (i := 3) sc__law_bag.nd rfl (Or.inl rfl) (pe_op op_modN (pe_callTy call_intN (by rfl) T.n_int (by decide +kernel) (pa_cons (pe_op op_add (pe_op op_add (pe_op op_mul (pv 3) pe_int) (pe_op op_modN (pe_callTy call_intN (by rfl) T.n_int (by decide +kernel) (pa_cons (pv 5) pa_nil)) pe_int)) (pe_op op_mul pe_int (pv 4))) pa_nil)) pe_int))))
      (pss_one (ps_ret (pe_lst (pa_cons (pe_ifExp (pt_cmpR op_ge (pv 2) (pe_op op_pow pe_int pe_int) (nomark _)) (pv 2) pe_int) (pa_cons (pv 3) (pa_cons pe_int pa_nil))))))))), ?_⟩
    walk_at "zz"
    refine v_if (fun h1 => ?_) (fun h1 => ?_)
    · walk_at "zz"
      have hk2 : k < (iL is).length := by simpa using h1
      obtain ⟨j, hj⟩ : ∃ j : Int, (iL is)[k]? = some (.int j) := by
        have h2 : k < is.length := by simpa [iL] using hk2
        exact ⟨is[k], by unfold iL; rw [List.getElem?_map, List.getElem?_eq_getElem h2]; rfl⟩
      refine v_ixL hl (atI_nat hj) ?_
      walk_at "zz"
      intro l2 H2 n2 s2 e2
      walk_at "zz"
      refine v_enum (.lst l2 _) e2 ?_
      walk_at "zz"
      refine v_forE (fun i σ H' => ∃ (m : Int) (c1 c2 : Option V), ∃ c : Int, σ = [some (.ref l), some (.int k), some (.int c), some (.int m), c1, c2] ∧ Same H2 H') ?_ ?_ ?_ ?_
      · exact ⟨_, _, _, _, rfl, Same.refl _⟩
      · rintro i σ H3 ⟨m, c1, c2, c, rfl, s3⟩
        exact s3 _ _ e2
      · rintro i x T σ H3 H4 hx hi ⟨m, c1, c2, c, rfl, s3⟩ n4 s4 e4
        have hx' : ∃ j : Int, x = .int j := by
          have h1 := List.mem_of_getElem? (show (cutV (iL is) none (some 63))[i]? = some x from hx)
          have h2 : x ∈ iL is := by
            unfold cutV at h1
            exact List.mem_of_mem_drop (List.mem_of_mem_take h1)
          obtain ⟨j, _, rfl⟩ := List.mem_map.mp h2
          exact ⟨j, rfl⟩
        obtain ⟨j, rfl⟩ := hx'
        walk_at "zz"
        exact ⟨_, _, _, _, rfl, s3.trans s4⟩
      · rintro σ H3 ⟨m, c1, c2, c, rfl, s3⟩
        walk_at "zz"
        have fin : ∀ c, nLst [.int c, .int m, .int 0] H3 Q := fun c => v_lst fun p H4 n4 s4 e4 => q p H4 (Same.free (s2.trans s3) n4) ((s2.trans s3).trans s4) ⟨_, _, _, e4⟩
        refine v_if (fun h1 => ?_) (fun h1 => ?_)
        · walk_at "zz"
          exact fin _
        · walk_at "zz"
          exact fin _
    · skip
      walk_at "zz"
      intro l2 H2 n2 s2 e2
      walk_at "zz"
      refine v_enum (.lst l2 _) e2 ?_
      walk_at "zz"
      refine v_forE (fun i σ H' => ∃ (m : Int) (c1 c2 : Option V), ∃ c : Int, σ = [some (.ref l), some (.int k), some (.int c), some (.int m), c1, c2] ∧ Same H2 H') ?_ ?_ ?_ ?_
      · exact ⟨_, _, _, _, rfl, Same.refl _⟩
      · rintro i σ H3 ⟨m, c1, c2, c, rfl, s3⟩
        exact s3 _ _ e2
      · rintro i x T σ H3 H4 hx hi ⟨m, c1, c2, c, rfl, s3⟩ n4 s4 e4
        have hx' : ∃ j : Int, x = .int j := by
          have h1 := List.mem_of_getElem? (show (cutV (iL is) none (some 63))[i]? = some x from hx)
          have h2 : x ∈ iL is := by
            unfold cutV at h1
            exact List.mem_of_mem_drop (List.mem_of_mem_take h1)
          obtain ⟨j, _, rfl⟩ := List.mem_map.mp h2
          exact ⟨j, rfl⟩
        obtain ⟨j, rfl⟩ := hx'
        walk_at "zz"
        exact ⟨_, _, _, _, rfl, s3.trans s4⟩
      · rintro σ H3 ⟨m, c1, c2, c, rfl, s3⟩
        walk_at "zz"
        have fin : ∀ c, nLst [.int c, .int m, .int 0] H3 Q := fun c => v_lst fun p H4 n4 s4 e4 => q p H4 (Same.free (s2.trans s3) n4) ((s2.trans s3).trans s4) ⟨_, _, _, e4⟩
        refine v_if (fun h1 => ?_) (fun h1 => ?_)
        · walk_at "zz"
          exact fin _
        · walk_at "zz"
          exact fin _
def spPlaces : Sp := fun vs H Q _ => ∃ (v : List Bool) (c : Bool), vs = [encV v, .str (lt c)] ∧ v.length ≤ 1000 ∧ ∀ p (ns : List Nat) H', H p = none → Same H H' → H' p = some (.lst (ns.map fun n : Nat => V.int n)) → ns.length = v.count c → (∀ n ∈ ns, n < v.length) → Q (.ref p) H'
theorem count_snoc {v : List Bool} {i : Nat} {b c : Bool} (h : v[i]? = some b) : (v.take (i + 1)).count c = (v.take i).count c + if b = c then 1 else 0 := by
  rw [List.take_add_one, h, List.count_append]
  cases b <;> cases c <;> rfl
theorem ok__law_places (D : DefAt K mg "_law_places" ["_law_word_here", "_law_letter"] s__law_places) (T : Tx K mg) : Glo P w K mg base CX0 1 "_law_places" ["_law_word_here", "_law_letter"] spPlaces := by
  refine D.ok 0 sc__law_places (fun vs H Q E h => ?_) (fun f cdv A outer s H vs Q E hr h => ?_)
  · obtain ⟨l, is, rfl, _⟩ := h
    rfl
  · obtain ⟨v, c, rfl, hl, q⟩ := h
    refine ⟨_, (pss_one (ps_ret (pe_lc (own := [("_law_t", 2)]) rfl sc__law_places.nd (pi_range1 (by rfl) T.n_range (pa_cons (pe_callB (lenK (K := K) rfl) (by rfl) T.n_len (by decide +kernel) (pa_cons (pv 0) pa_nil)) pa_nil)) (blkOk_by (N := N__law_places) (sc := defScope s__law_places) (by decide +kernel)) (fun _ _ _ _ _ => (pg_name (i := 2) sc__law_places.nd rfl (Or.inl rfl))) (fun _ _ _ _ _ => (pts_one (pt_cmpR op_eq (pe_ix ix_str (pv 0) (pv 2) (fun _ _ => rfl)) (pv 1) (nomark _)))) (fun _ _ _ _ _ => (pv 2))))), ?_⟩
    walk_at "zz"
    refine v_rng1 v.length (by rw [enc_len]) (by omega) ?_
    refine v_lcR (fun L i acc H2 => Same H H2 ∧ ∃ ns : List Nat, acc = ns.map (fun n : Nat => V.int n) ∧ ns.length = (v.take i).count c ∧ ∀ n ∈ ns, n < v.length) ?_ ?_ ?_
    · intro L H1 n1 s1 e1
      exact ⟨s1, [], rfl, by simp, fun n hn => by cases hn⟩
    · rintro L i acc H2 hi nL eL ⟨s2, ns, rfl, hln, hall⟩
      have hb : v[i]? = some v[i] := List.getElem?_eq_getElem hi
      walk_at "zz"
      refine v_ixE hb hl ?_
      walk_at "zz"
      rw [sign_lt]
      refine v_if (fun h1 => ?_) (fun h1 => ?_)
      · walk_at "zz"
        refine v_acc eL ?_ fun H6 b6 e6 => ?_
        · have := List.count_le_length (a := c) (l := v.take i)
          rw [List.length_take] at this
          simp
          omega
        · refine ⟨same_but s2 nL b6, ns ++ [i], by simp, ?_, fun n hn => ?_⟩
          · rw [count_snoc hb, if_pos (by simpa using h1)]
            simp [hln]
          · rcases List.mem_append.mp hn with h | h
            · exact hall n h
            · rw [List.mem_singleton.mp h]
              exact hi
      · refine v_noacc eL ⟨s2, ns, rfl, ?_, hall⟩
        rw [count_snoc hb, if_neg (by simpa using h1)]
        simp [hln]
    · rintro L acc H2 nL eL ⟨s2, ns, rfl, hln, hall⟩
      rw [List.take_length] at hln
      exact q L ns H2 nL s2 eL hln hall
end
end Sk
namespace Sk
open PySem PySem.Spec PyProof.Rows L2
/-! step words: z one step, zz as far as it goes, at: what stands at an address -/
local macro_rules
  | `(tactic| walk_at "zz") => `(tactic| repeat first
    | (with_reducible refine z_seq ?_) | (with_reducible refine z_asg ?_) | (with_reducible refine z_gname ?_) | (with_reducible refine z_var (by with_unfolding_all rfl) ?_)
    | (with_reducible refine z_c ?_) | (with_reducible refine z_op ?_) | (with_reducible refine z_cons ?_) | (with_reducible refine z_nil ?_)
    | (with_reducible refine z_next ?_) | (with_reducible refine z_call ?_) | (with_reducible refine z_drop ?_) | (with_reducible refine z_ret ?_)
    | (with_reducible refine z_ifs ?_) | (with_reducible refine z_un ?_) | (with_reducible refine z_chain ?_) | (with_reducible refine z_rI0 ?_)
    | (with_reducible refine z_eqI ?_) | (with_reducible refine z_neI ?_) | (with_reducible refine z_eqS ?_) | (with_reducible refine z_neS ?_)
    | (with_reducible refine z_eqB ?_) | (with_reducible refine z_neB ?_) | (with_reducible refine z_test ?_) | (with_reducible refine z_tB ?_)
    | (with_reducible refine z_bl ?_) | (with_reducible refine z_and ?_) | (with_reducible refine z_or ?_) | (with_reducible refine z_not ?_)
    | (with_reducible refine z_andV ?_) | (with_reducible refine z_orV ?_) | (with_reducible refine z_notV ?_) | (with_reducible refine z_if ?_)
    | (with_reducible refine z_cb ?_) | (with_reducible refine z_part ?_) | (with_reducible refine z_noPart ?_) | (with_reducible refine z_int ?_)
    | (with_reducible refine z_sl ?_) | (with_reducible refine z_fld ?_) | (with_reducible refine z_tup ?_) | (with_reducible refine z_lst ?_)
    | (with_reducible refine z_bm ?_) | (with_reducible refine z_bm0 ?_) | (with_reducible refine z_fldS ?_) | (with_reducible refine z_rU ?_)
    | (with_reducible refine v_intI ?_) | (with_reducible refine v_intB ?_) | (with_reducible refine v_abs ?_) | (with_reducible refine v_isN ?_)
    | (with_reducible refine v_notN ?_) | (with_reducible refine v_cnt ?_) | (with_reducible refine z_make ?_) | (with_reducible refine z_tru ?_)
    | (with_reducible refine z_m1 ?_) | (with_reducible refine z_strI ?_) | (with_reducible refine z_zS ?_) | (with_reducible refine z_eS ?_)
    | (with_reducible refine v_isII ?_) | (with_reducible refine v_isIB ?_) | (with_reducible refine v_isBI ?_) | (with_reducible refine v_isBB ?_)
    | (with_reducible refine v_isNI ?_) | (with_reducible refine v_isIT ?_) | (with_reducible refine v_isST ?_) | (with_reducible refine v_isSS ?_)
    | (with_reducible refine v_isIS ?_) | (with_reducible refine z_sub ?_) | (with_reducible refine z_gcons ?_) | (with_reducible refine z_gnil ?_)
    | (with_reducible refine z_par ?_) | (with_reducible refine v_par ?_) | (with_reducible refine z_par3 ?_) | (with_reducible refine v_par3 ?_)
    | (with_reducible refine v_ipI ?_) | (with_reducible refine z_for ?_) | (with_reducible refine z_lc ?_) | (with_reducible refine z_yes ?_)
    | (with_reducible refine z_rng1 ?_) | (with_reducible refine z_rng2 ?_) | (with_reducible refine z_list ?_) | (with_reducible refine z_tupi ?_)
    | (with_reducible refine z_stri ?_) | (with_reducible refine v_istr ?_) | (with_reducible refine iteT ?_) | (with_reducible refine iteF ?_)
    | (with_reducible refine z_nT ?_) | (with_reducible refine z_nF ?_) | (with_reducible refine z_cont ?_) | (with_reducible refine z_brk ?_)
    | (with_reducible refine z_retN ?_) | (walk_at "zn"))
  | `(tactic| walk_at "zn") => `(tactic| first
    | ((with_reducible refine' v_ixL ?k1 ?k2 ?_); (case k1 => walk_at "sq"); (case k2 => rfl)) | ((with_reducible refine' v_ixT ?k1 ?k2 ?_); (case k1 => walk_at "st"); (case k2 => rfl)) | ((with_reducible refine' v_lenL ?k1 ?_); (case k1 => walk_at "sq")) | ((with_reducible refine' v_lenT ?k1 ?_); (case k1 => walk_at "st"))
    | ((with_reducible refine' v_slS ?k1 ?_); (case k1 => (rw [enc_len]; exact small (by omega)))) | ((with_reducible refine' v_lenS ?k1 ?_); (case k1 => (rw [enc_len]; exact small (by omega)))) | ((with_reducible refine' v_slL ?k1 ?_); (case k1 => walk_at "sq")) | ((with_reducible refine' z_tyL ?k1 ?_); (case k1 => walk_at "at"))
    | ((with_reducible refine' v_fld ?k1 ?k2 ?k3 ?k4 ?_); (case k1 => walk_at "at"); (case k2 => assumption); (case k3 => assumption); (case k4 => first | assumption | rfl)) | ((with_reducible refine' v_truL ?k1 ?_); (case k1 => walk_at "at")) | ((with_reducible refine' z_wipe ?k1 ?_); (case k1 => rfl)) | ((with_reducible refine' v_gtup ?k1 ?k2 ?_); (case k1 => walk_at "st"); (case k2 => rfl))
    | ((with_reducible refine' z_aug ?k1 ?_); (case k1 => rfl)) | ((with_reducible refine' v_ilist ?k1 ?_); (case k1 => walk_at "sq")) | ((with_reducible refine' v_itup ?k1 ?_); (case k1 => walk_at "st")) | ((with_reducible refine' z_rI ?k1 ?_); (case k1 => first | (show (_ : Int) ≠ _; omega) | exact .inl ⟨by decide, by decide⟩ | exact .inr ⟨by decide, by decide⟩ | exact ⟨by decide, by decide⟩ | exact .inl ⟨by omega, by omega⟩ | exact .inr ⟨by omega, by omega⟩))
    | ((with_reducible refine' z_var ?hv ?_); (case hv => rfl)))
  | `(tactic| walk_at "at") => `(tactic| first
    | assumption
    | ((with_reducible refine' same_at ?k1 ?k2); (case k1 => assumption); (case k2 => walk_at "at"))
    | ((with_reducible refine' but_at ?k1 ?k2 ?k3); (case k1 => assumption); (case k2 => first | assumption | (apply Ne.symm; assumption)); (case k3 => walk_at "at")))
  | `(tactic| walk_at "sq") => `(tactic| first
    | assumption
    | (refine' SqL.of ?k1; (case k1 => walk_at "at"))
    | ((with_reducible refine' Same.seq ?k1 ?k2); (case k1 => assumption); (case k2 => walk_at "sq")))
  | `(tactic| walk_at "st") => `(tactic| first
    | assumption
    | (refine' SqT.of ?k1; (case k1 => walk_at "at"))
    | ((with_reducible refine' same_tup ?k1 ?k2); (case k1 => assumption); (case k2 => walk_at "st")))
  | `(tactic| walk_at "sa") => `(tactic| first
    | assumption
    | exact Same.refl _
    | (refine' Same.trans ?k1 ?k2; (case k2 => assumption); (case k1 => walk_at "sa")))
/-! The law's helpers: rows. -/
abbrev s__law_row : Stmt := top 57
abbrev N__law_row : List Str := ["_law_bag_here", "_law_steps", "_law_mode", "_law_base", "_law_row_here", "_law_t"]
theorem sc__law_row : FnScope N__law_row ["_law_bag_here", "_law_steps"] (defScope s__law_row) := ⟨rfl, rfl, rfl, by decide +kernel, rfl, by decide +kernel, by decide +kernel⟩
abbrev s__law_tied : Stmt := top 58
abbrev N__law_tied : List Str := ["_law_root", "_law_a", "_law_b", "_law_one"]
theorem sc__law_tied : FnScope N__law_tied ["_law_root", "_law_a", "_law_b"] (defScope s__law_tied) := ⟨rfl, rfl, rfl, by decide +kernel, rfl, by decide +kernel, by decide +kernel⟩
abbrev s__law_fitted_row : Stmt := top 62
abbrev N__law_fitted_row : List Str := ["_law_bag_here", "_law_kind_here", "_law_one", "_law_other", "_law_t", "_law_root", "_law_letter", "_law_kinds", "_law_a", "_law_b", "_law_base", "_law_folded", "_law_place"]
theorem sc__law_fitted_row : FnScope N__law_fitted_row ["_law_bag_here", "_law_kind_here", "_law_one", "_law_other"] (defScope s__law_fitted_row) := ⟨rfl, rfl, rfl, by decide +kernel, rfl, by decide +kernel, by decide +kernel⟩
def spRow : Sp := fun vs H Q _ => ∃ (b : Addr) (n : Nat), vs = [.ref b, .int n] ∧ n ≤ 12 ∧ Bag H b ∧ ∀ p (is : List Int) H', H p = none → But b H H' → Bag H' b → H' p = some (.lst (iL is)) → is.length = n → Q (.ref p) H'
def spFitted : Sp := fun vs H Q _ => ∃ (b : Addr) (z : Str) (v u : List Bool) (L : Nat), vs = [.ref b, .str z, encV v, encV u] ∧ L ≤ 6 ∧ IsW L v ∧ IsW L u ∧ Bag H b ∧ ∀ p (is : List Int) H', H p = none → But b H H' → Bag H' b → H' p = some (.lst (iL is)) → is.length = 2 * L → Q (.ref p) H'
def spTied : Sp := fun vs H Q _ => ∃ (l : Addr) (ns : List Int) (x y : Nat), vs = [.ref l, .int x, .int y] ∧ H l = some (.lst (iL ns)) ∧ ns.length ≤ 1000 ∧ x < ns.length ∧ y < ns.length ∧ ∀ p (ms : List Int) H', H p = none → Same H H' → H' p = some (.lst (iL ms)) → ms.length = ns.length → Q (.ref p) H'
section
variable {P : Program} {w : World} {K : PySem.W.Frag} {mg : Str → Option Value} {base : Heap}
theorem ok__law_row (D : DefAt K mg "_law_row" ["_law_bag_here", "_law_steps"] s__law_row) (T : Tx K mg) (G__law_take : Glo P w K mg base CX0 1 "_law_take" ["_law_bag_here", "_law_many"] spTake) (G__law_ink : Glo P w K mg base CX0 3 "_law_ink" ["_law_bag_here"] spInk) :
    Glo P w K mg base CX0 4 "_law_row" ["_law_bag_here", "_law_steps"] spRow := by
  refine D.ok 3 sc__law_row (fun vs H Q E h => ?_) (fun f cdv A outer s H vs Q E hr h => ?_)
  · obtain ⟨l, is, rfl, _⟩ := h
    rfl
  · obtain ⟨b, n, rfl, hn, B, q⟩ := h
    refine ⟨_, (pss_cons (ps_par3 (i := 2) (j := 3) (l := 4) (by rfl) sc__law_row.nd rfl rfl rfl (by decide) (by decide) (by decide) rfl rfl rfl (pa_cons (pe_g G__law_take (hr.mono (by decide)) rfl pass0 (pa_cons (pv 0) (pa_cons pe_int pa_nil))) (pa_cons (pe_g G__law_ink (hr.mono (by decide)) rfl pass0 (pa_cons (pv 0) pa_nil)) (pa_cons (pe_lst pa_nil) pa_nil))) (by rfl))
      (pss_cons (ps_for PassesOwn.never rfl (pi_range1 (by rfl) T.n_range (pa_cons (pv 1) pa_nil)) (pg_name (i := 5) sc__law_row.nd rfl (Or.inl rfl))
        (pss_one (ps_if (pt_cmpR op_eq (pv 2) pe_int (nomark _)) (pss_one (ps_expr (pe_bm PySem.F.plainAttrs_list PySem.F.slot_list_append PySem.F.type_list_append mt_append (pv 4) (pa_cons (pe_op op_add (pv 3) (pe_g G__law_take (hr.mono (by decide)) rfl pass0 (pa_cons (pv 0) (pa_cons pe_int pa_nil)))) pa_nil)))) (pss_one (ps_if (PW.pt (pw_and (pt_cmpR op_eq (pv 2) pe_int (nomark _)) (pw_and (pt_tru (K := K) rfl (pv 4) (by intro _; rfl)) (pw_and1 (pt_cmpR op_gt (pe_g G__law_take (hr.mono (by decide)) rfl pass0 (pa_cons (pv 0) (pa_cons pe_int pa_nil))) pe_int (nomark _)))))) (pss_one (ps_expr (pe_bm PySem.F.plainAttrs_list PySem.F.slot_list_append PySem.F.type_list_append mt_append (pv 4) (pa_cons (pe_ix (ixL (K := K) rfl) (pv 4) (pe_un un_neg pe_int) (fun _ _ => rfl)) pa_nil)))) (pss_one (ps_if (pt_cmpR op_eq (pv 2) pe_int (nomark _)) (pss_one (ps_expr (pe_bm PySem.F.plainAttrs_list PySem.F.slot_list_append PySem.F.type_list_append mt_append (pv 4) (pa_cons (pe_op op_add (pv 3) (pe_op op_mul pe_int (pv 5))) pa_nil)))) (pss_one (ps_expr (pe_bm PySem.F.plainAttrs_list PySem.F.slot_list_append PySem.F.type_list_append mt_append (pv 4) (pa_cons (pe_g G__law_ink (hr.mono (by decide)) rfl pass0 (pa_cons (pv 0) pa_nil)) pa_nil)))))))))))
      (pss_one (ps_ret (pv 4))))), ?_⟩
    walk_at "zz"
    refine ⟨b, 4, rfl, by omega, by decide, B, fun m H1 m0 m1 b1 B1 => ?_⟩
    walk_at "zz"
    refine ⟨b, rfl, B1, fun ba H2 b2 B2 => ?_⟩
    walk_at "zz"
    refine v_lst fun r H3 n3 s3 e3 => ?_
    walk_at "zz"
    refine v_rng1 n rfl (by omega) ?_
    refine v_for0 (fun i σ H' => ∃ (is : List Int) (c : Option V), σ = [some (.ref b), some (.int n), some (.int m), some (.int ba), some (.ref r), c] ∧ H' r = some (.lst (iL is)) ∧ is.length = i ∧ But b H H' ∧ Bag H' b) ?_ ?_ ?_
    · exact ⟨[], none, rfl, e3, rfl, but_trans (but_trans b1 b2) (but_of s3), B2.same s3⟩
    · rintro i σ H4 hi ⟨is, c, rfl, e4, hl, b4, B4⟩
      have nr : H r = none := but_free (but_trans b1 b2) (fun e => by rw [e] at n3; exact B2.ne n3 rfl) n3
      have nb : r ≠ b := fun e => by rw [e] at n3; exact B2.ne n3 rfl
      have fin : ∀ (k : Int) H5, H5 r = some (.lst (iL is)) → But b H H5 → Bag H5 b → rAppend (.ref r) [.int k] H5 fun _ H' => ∃ (is : List Int) (c : Option V), [some (.ref b), some (.int n), some (.int m), some (.int ba), some (.ref r), some (.int (i : Nat))] = [some (.ref b), some (.int n), some (.int m), some (.int ba), some (.ref r), c] ∧ H' r = some (.lst (iL is)) ∧ is.length = i + 1 ∧ But b H H' ∧ Bag H' b := by
        intro k H5 e5 b5 B5
        refine v_app e5 ?_ fun H6 b6 e6 => ?_
        · simp [iL]
          omega
        · exact ⟨is ++ [k], _, rfl, by rw [e6]; simp [iL], by simp [hl], but_but b5 nr b6, B5.but nb.symm b6⟩
      walk_at "zz"
      refine v_if (fun h1 => ?_) (fun h1 => ?_)
      · walk_at "zz"
        refine ⟨b, 2, rfl, by omega, by decide, B4, fun u H5 u0 u1 b5 B5 => ?_⟩
        walk_at "zz"
        exact fin _ H5 (b5 _ _ nb e4) (but_trans b4 b5) B5
      · walk_at "zz"
        refine v_if (fun h2 => ?_) (fun h2 => ?_)
        · walk_at "zz"
          refine v_if (fun h3 => ?_) (fun h3 => ?_)
          · walk_at "zz"
            refine ⟨b, 3, rfl, by omega, by decide, B4, fun u H5 u0 u1 b5 B5 => ?_⟩
            have e5 := b5 _ _ nb e4
            replace b5 := but_trans b4 b5
            walk_at "zz"
            refine v_if (fun h4 => ?_) (fun h4 => ?_)
            · rcases List.eq_nil_or_concat is with rfl | ⟨js, k, rfl⟩
              · simp [iL] at h3
              · walk_at "zz"
                refine v_ixL (SqL.of e5) (v := .int k) ?_ ?_
                · rw [List.concat_eq_append]
                  unfold iL
                  rw [List.map_append]
                  exact atI_last _ _
                · walk_at "zz"
                  exact fin _ _ e5 b5 B5
            · skip
              walk_at "zz"
              refine v_if (fun h5 => ?_) (fun h5 => ?_)
              · walk_at "zz"
                exact fin _ _ e5 b5 B5
              · walk_at "zz"
                refine ⟨b, rfl, B5, fun k H6 b6 B6 => ?_⟩
                walk_at "zz"
                exact fin _ H6 (b6 _ _ nb e5) (but_trans b5 b6) B6
          · skip
            have e5 := e4
            have b5 := b4
            have B5 := B4
            walk_at "zz"
            refine v_if (fun h5 => ?_) (fun h5 => ?_)
            · walk_at "zz"
              exact fin _ _ e5 b5 B5
            · walk_at "zz"
              refine ⟨b, rfl, B5, fun k H6 b6 B6 => ?_⟩
              walk_at "zz"
              exact fin _ H6 (b6 _ _ nb e5) (but_trans b5 b6) B6
        · skip
          have e5 := e4
          have b5 := b4
          have B5 := B4
          walk_at "zz"
          refine v_if (fun h5 => ?_) (fun h5 => ?_)
          · walk_at "zz"
            exact fin _ _ e5 b5 B5
          · walk_at "zz"
            refine ⟨b, rfl, B5, fun k H6 b6 B6 => ?_⟩
            walk_at "zz"
            exact fin _ H6 (b6 _ _ nb e5) (but_trans b5 b6) B6
    · rintro σ H4 ⟨is, c, rfl, e4, hl, b4, B4⟩
      walk_at "zz"
      exact q r is H4 (but_free (but_trans b1 b2) (fun e => by rw [e] at n3; exact B2.ne n3 rfl) n3) b4 B4 e4 hl
theorem ok__law_tied (D : DefAt K mg "_law_tied" ["_law_root", "_law_a", "_law_b"] s__law_tied) (T : Tx K mg) :
    Glo P w K mg base CX0 1 "_law_tied" ["_law_root", "_law_a", "_law_b"] spTied := by
  refine D.ok 0 sc__law_tied (fun vs H Q E h => ?_) (fun f cdv A outer s H vs Q E hr h => ?_)
  · obtain ⟨l, ns, x, y, rfl, _⟩ := h
    rfl
  · obtain ⟨l, ns, x, y, rfl, hl, hz, hx, hy, q⟩ := h
    refine ⟨_, (pss_one (ps_ret (pe_lc (own := [("_law_one", 3)]) rfl sc__law_tied.nd (pi_list (pv 0)) (blkOk_by (N := N__law_tied) (sc := defScope s__law_tied) (by decide +kernel)) (fun _ _ _ _ _ => (pg_name (i := 3) sc__law_tied.nd rfl (Or.inl rfl))) (fun _ _ _ _ _ => pts_nil) (fun _ _ _ _ _ => (pe_ifExp (pt_cmpR op_eq (pv 3) (pe_ix (ixL (K := K) rfl) (pv 0) (pv 2) (fun _ _ => rfl)) (nomark _)) (pe_ix (ixL (K := K) rfl) (pv 0) (pv 1) (fun _ _ => rfl)) (pv 3)))))), ?_⟩
    walk_at "zz"
    refine v_lcL (xs := iL ns) (fun L i acc H2 => Same H H2 ∧ ∃ ms : List Int, acc = iL ms ∧ ms.length = i) ?_ ?_ ?_ ?_
    · intro L H1 n1 s1 e1
      exact ⟨s1, [], rfl, rfl⟩
    · rintro L i acc H2 n2 ⟨s2, _⟩
      exact SqL.of (s2 _ _ hl)
    · rintro L i v acc H2 hv n2 e2 ⟨s2, ms, rfl, hm⟩
      obtain ⟨k, rfl⟩ := iL_mem (List.mem_of_getElem? hv)
      have hi : i < ns.length := by
        have := (List.getElem?_eq_some_iff.mp hv).1
        simpa [iL] using this
      have fin : ∀ j : Int, nAcc (fun L i acc H2 => Same H H2 ∧ ∃ ms : List Int, acc = iL ms ∧ ms.length = i) L (i + 1) (.int j) H2 := fun j =>
        v_acc e2 (by simp [iL]; omega) fun H6 b6 e6 => ⟨same_but s2 n2 b6, ms ++ [j], by simp [iL], by simp [hm]⟩
      walk_at "zz"
      refine v_ixLn (SqL.of (s2 _ _ hl)) (iL_get hy) ?_
      walk_at "zz"
      refine v_if (fun h1 => ?_) (fun h1 => ?_)
      · walk_at "zz"
        refine v_ixLn (SqL.of (s2 _ _ hl)) (iL_get hx) ?_
        walk_at "zz"
        exact fin _
      · walk_at "zz"
        exact fin _
    · rintro L acc H2 n2 e2 ⟨s2, ms, rfl, hm⟩
      exact q L ms H2 n2 s2 e2 (by rw [hm]; exact iL_len ns)
theorem ok__law_fitted_row (D : DefAt K mg "_law_fitted_row" ["_law_bag_here", "_law_kind_here", "_law_one", "_law_other"] s__law_fitted_row) (T : Tx K mg) (G__law_row : Glo P w K mg base CX0 4 "_law_row" ["_law_bag_here", "_law_steps"] spRow)
    (G__law_tied : Glo P w K mg base CX0 1 "_law_tied" ["_law_root", "_law_a", "_law_b"] spTied) (G__law_places : Glo P w K mg base CX0 1 "_law_places" ["_law_word_here", "_law_letter"] spPlaces)
    (G__law_downs : Glo P w K mg base CX0 1 "_law_downs" ["_law_word_here", "_law_boundary"] spDowns) (G__law_ink : Glo P w K mg base CX0 3 "_law_ink" ["_law_bag_here"] spInk) (G__law_pick : Glo P w K mg base CX0 2 "_law_pick" ["_law_bag_here", "_law_some"] spPick) :
    Glo P w K mg base CX0 5 "_law_fitted_row" ["_law_bag_here", "_law_kind_here", "_law_one", "_law_other"] spFitted := by
  refine D.ok 4 sc__law_fitted_row (fun vs H Q E h => ?_) (fun f cdv A outer s H vs Q E hr h => ?_)
  · obtain ⟨b, z, v, u, L, rfl, _⟩ := h
    rfl
  · obtain ⟨b, z, v, u, L, rfl, hL, hv, hu, B, q⟩ := h
    have lv := hv.len
    have lu := hu.len
    refine ⟨_, (pss_cons (ps_if (pt_cmpR op_eq (pv 1) pe_str (nomark _)) (pss_one (ps_ret (pe_g G__law_row (hr.mono (by decide)) rfl pass0 (pa_cons (pv 0) (pa_cons (pe_callB (lenK (K := K) rfl) (by rfl) T.n_len (by decide +kernel) (pa_cons (pv 2) pa_nil)) pa_nil))))) pss_nil)
      (pss_cons (ps_setLc (i := 5) (own := [("_law_t", 4)]) rfl sc__law_fitted_row.nd rfl rfl (sw_true rfl rfl rfl (by decide +kernel)) (pi_range1 (by rfl) T.n_range (pa_cons (pe_callB (lenK (K := K) rfl) (by rfl) T.n_len (by decide +kernel) (pa_cons (pv 2) pa_nil)) pa_nil)) (blkOk_by (N := N__law_fitted_row) (sc := defScope s__law_fitted_row) (by decide +kernel)) (fun _ _ _ _ _ => (pg_name (i := 4) sc__law_fitted_row.nd rfl (Or.inl rfl))) (fun _ _ _ _ _ => pts_nil) (fun _ _ _ _ _ => (pv 4)))
      (pss_cons (ps_for PassesOwn.never rfl (pi_tup (pe_tup (pa_cons (pe_tup (pa_cons pe_str (pa_cons (pe_tup (pa_cons pe_str (pa_cons pe_str pa_nil))) pa_nil))) (pa_cons (pe_tup (pa_cons pe_str (pa_cons (pe_tup (pa_cons pe_str (pa_cons pe_str pa_nil))) pa_nil))) pa_nil)))) (pg_tupK (K := K) 2 rfl rfl (pgs_cons (pg_name (i := 6) sc__law_fitted_row.nd rfl (Or.inl rfl)) (pgs_cons (pg_name (i := 7) sc__law_fitted_row.nd rfl (Or.inl rfl)) pgs_nil)))
        (pss_one (ps_if (pt_cmpR op_in_seq (pv 1) (pv 7) (by with_unfolding_all rfl)) (pss_one (ps_for PassesOwn.never rfl (pi_zipS (by rfl) T.n_zip (pa_cons (pe_g G__law_places (hr.mono (by decide)) rfl pass0 (pa_cons (pv 2) (pa_cons (pv 6) pa_nil))) (pa_cons (pe_g G__law_places (hr.mono (by decide)) rfl pass0 (pa_cons (pv 3) (pa_cons (pv 6) pa_nil))) pa_nil))) (pg_tupK (K := K) 2 rfl rfl (pgs_cons (pg_name (i := 8) sc__law_fitted_row.nd rfl (Or.inl rfl)) (pgs_cons (pg_name (i := 9) sc__law_fitted_row.nd rfl (Or.inl rfl)) pgs_nil)))
            (pss_one (ps_set (i := 5) sc__law_fitted_row.nd rfl (Or.inl rfl) (pe_g G__law_tied (hr.mono (by decide)) rfl pass0 (pa_cons (pv 5) (pa_cons (pv 8) (pa_cons (pv 9) pa_nil)))))))) pss_nil)))
      (pss_cons (ps_if (pt_cmpR op_eq (pv 1) pe_str (nomark _)) (pss_one (ps_for PassesOwn.never rfl (pi_range2 (by rfl) T.n_range (pa_cons pe_int (pa_cons (pe_callB (lenK (K := K) rfl) (by rfl) T.n_len (by decide +kernel) (pa_cons (pv 2) pa_nil)) pa_nil))) (pg_name (i := 4) sc__law_fitted_row.nd rfl (Or.inl rfl))
          (pss_one (ps_if (pt_cmpR op_ne (pe_g G__law_downs (hr.mono (by decide)) rfl pass0 (pa_cons (pv 2) (pa_cons (pv 4) pa_nil))) (pe_g G__law_downs (hr.mono (by decide)) rfl pass0 (pa_cons (pv 3) (pa_cons (pv 4) pa_nil))) (nomark _)) (pss_one (ps_set (i := 5) sc__law_fitted_row.nd rfl (Or.inl rfl) (pe_g G__law_tied (hr.mono (by decide)) rfl pass0 (pa_cons (pv 5) (pa_cons (pe_op op_sub (pv 4) pe_int) (pa_cons (pv 4) pa_nil)))))) pss_nil)))) pss_nil)
      (pss_cons (ps_asg (pe_tup (pa_cons (pe_g G__law_ink (hr.mono (by decide)) rfl pass0 (pa_cons (pv 0) pa_nil)) (pa_cons (pe_g G__law_pick (hr.mono (by decide)) rfl pass0 (pa_cons (pv 0) (pa_cons (pe_lst (pa_cons pe_int (pa_cons pe_int (pa_cons pe_int (pa_cons pe_int (pa_cons pe_int pa_nil)))))) pa_nil))) pa_nil))) (pg_tupK (K := K) 2 rfl rfl (pgs_cons (pg_name (i := 10) sc__law_fitted_row.nd rfl (Or.inr rfl)) (pgs_cons (pg_name (i := 11) sc__law_fitted_row.nd rfl (Or.inr rfl)) pgs_nil))))
      (pss_one (ps_ret (pe_lc (own := [("_law_place", 12)]) rfl sc__law_fitted_row.nd (pi_list (pv 5)) (blkOk_by (N := N__law_fitted_row) (sc := defScope s__law_fitted_row) (by decide +kernel)) (fun _ _ _ _ _ => (pg_name (i := 12) sc__law_fitted_row.nd rfl (Or.inl rfl))) (fun _ _ _ _ _ => pts_nil) (fun _ _ _ _ _ => (pe_op op_add (pv 10) (pe_op op_modN (pv 12) (pv 11)))))))))))), ?_⟩
    walk_at "zz"
    refine v_if (fun h1 => ?_) (fun h1 => ?_)
    · walk_at "zz"
      refine ⟨b, v.length, by rw [enc_len], by omega, B, fun p is H1 n1 b1 B1 e1 hl => ?_⟩
      walk_at "zz"
      exact q p is H1 n1 b1 B1 e1 (by omega)
    · walk_at "zz"
      refine v_rng1 v.length (by rw [enc_len]) (by omega) ?_
      refine v_lcR (fun M i acc H2 => Same H H2 ∧ ∃ ms : List Int, acc = iL ms ∧ ms.length = i) ?_ ?_ ?_
      · intro M H1 n1 s1 e1
        exact ⟨s1, [], rfl, rfl⟩
      · rintro M i acc H2 hi n2 e2 ⟨s2, ms, rfl, hm⟩
        walk_at "zz"
        exact v_acc e2 (by rw [iL_len]; omega) fun H6 b6 e6 => ⟨same_but s2 n2 b6, ms ++ [(i : Int)], by simp [iL], by simp [hm]⟩
      · rintro M acc H2 n2 e2 ⟨s2, ms, rfl, hm⟩
        walk_at "zz"
        refine v_tup fun k1 H3 n3 s3 e3 => ?_
        walk_at "zz"
        refine v_tup fun p1 H4 n4 s4 e4 => ?_
        walk_at "zz"
        refine v_tup fun k2 H5 n5 s5 e5 => ?_
        walk_at "zz"
        refine v_tup fun p2 H6 n6 s6 e6 => ?_
        walk_at "zz"
        refine v_tup fun pp H7 n7 s7 e7 => ?_
        walk_at "zz"
        have S7 : Same H H7 := s2.trans (s3.trans (s4.trans (s5.trans (s6.trans s7))))
        have e2' := s7 _ _ (s6 _ _ (s5 _ _ (s4 _ _ (s3 _ _ e2))))
        have e3' := s7 _ _ (s6 _ _ (s5 _ _ (s4 _ _ e3)))
        have e4' := s7 _ _ (s6 _ _ (s5 _ _ e4))
        have e5' := s7 _ _ (s6 _ _ e5)
        have e6' := s7 _ _ e6
        refine v_forT (xs := [.ref p1, .ref p2]) (fun i σ H' => ∃ (M : Addr) (ms : List Int) (c4 c6 c7 c8 c9 : Option V), σ = [some (.ref b), some (.str z), some (encV v), some (encV u), c4, some (.ref M), c6, c7, c8, c9, none, none, none] ∧ Same H7 H' ∧ H' M = some (.lst (iL ms)) ∧ ms.length = 2 * L ∧ H M = none) ?_ ?_ ?_ ?_
        · exact ⟨M, ms, none, none, none, none, none, rfl, Same.refl _, e2', by omega, n2⟩
        · rintro i σ H8 ⟨M, ms, c4, c6, c7, c8, c9, rfl, s8, e8, hm8, nM⟩
          exact SqT.of (s8 _ _ e7)
        · rintro i x σ H8 hx ⟨M, ms, c4, c6, c7, c8, c9, rfl, s8, e8, hm8, nM⟩
          obtain ⟨px, kx, c, z1, z2, rfl, hpx, hkx⟩ : ∃ (px kx : Addr) (c : Bool) (z1 z2 : Str), x = .ref px ∧ H7 px = some (.tup [.str (lt c), .ref kx]) ∧ H7 kx = some (.tup [.str z1, .str z2]) := by
            match i, hx with
            | 0, hx => cases hx; exact ⟨_, _, true, _, _, rfl, e4', e3'⟩
            | 1, hx => cases hx; exact ⟨_, _, false, _, _, rfl, e6', e5'⟩
            | i + 2, hx => cases hx
          walk_at "zz"
          refine ⟨kx, _, rfl, .inr (SqT.of (s8 _ _ hkx)), rfl, rfl, ?_⟩
          walk_at "zz"
          refine v_if (fun h2 => ?_) (fun h2 => ?_)
          · walk_at "zz"
            refine ⟨v, c, rfl, by omega, fun q1 ns1 H9 n9 s9 e9 l9 a9 => ?_⟩
            walk_at "zz"
            refine ⟨u, c, rfl, by omega, fun q2 ns2 H10 n10 s10 e10 l10 a10 => ?_⟩
            walk_at "zz"
            have lL1 : ns1.length = L := l9.trans (hv.cn c)
            have lL2 : ns2.length = L := l10.trans (hu.cn c)
            refine v_zip (.lst q1 _) (.lst q2 _) (s10 _ _ e9) e10 ?_
            refine v_forZ (by show List.length _ = List.length _; simp [lL1, lL2]) (fun i σ H' => ∃ (M : Addr) (ms : List Int) (c8 c9 : Option V), σ = [some (.ref b), some (.str z), some (encV v), some (encV u), c4, some (.ref M), some (.str (lt c)), some (.ref kx), c8, c9, none, none, none] ∧ Same H10 H' ∧ H' M = some (.lst (iL ms)) ∧ ms.length = 2 * L ∧ H M = none) ?_ ?_ ?_ ?_
            · exact ⟨M, ms, _, _, rfl, Same.refl _, s10 _ _ (s9 _ _ e8), hm8, nM⟩
            · rintro j σ H11 ⟨M, ms, c8, c9, rfl, s11, _⟩
              exact ⟨s11 _ _ (s10 _ _ e9), s11 _ _ e10⟩
            · rintro j x y TT σ H11 H12 hx hy hj ⟨M, ms, c8, c9, rfl, s11, e11, hm11, nM⟩ n12 s12 e12
              obtain ⟨x1, hx1, rfl⟩ := List.mem_map.mp (List.mem_of_getElem? hx)
              obtain ⟨y1, hy1, rfl⟩ := List.mem_map.mp (List.mem_of_getElem? hy)
              have bx := a9 x1 hx1
              have bY := a10 y1 hy1
              walk_at "zz"
              refine ⟨M, ms, x1, y1, rfl, s12 _ _ e11, by omega, by omega, by omega, fun M2 ms2 H13 n13 s13 e13 hm13 => ?_⟩
              walk_at "zz"
              exact ⟨M2, ms2, _, _, rfl, s11.trans (s12.trans s13), e13, by omega, Same.free (S7.trans (s8.trans (s9.trans (s10.trans (s11.trans s12))))) n13⟩
            · rintro σ H11 ⟨M, ms, c8, c9, rfl, s11, e11, hm11, nM⟩
              walk_at "zz"
              exact ⟨M, ms, _, _, _, _, _, rfl, s8.trans (s9.trans (s10.trans s11)), e11, hm11, nM⟩
          · walk_at "zz"
            exact ⟨M, ms, _, _, _, _, _, rfl, s8, e8, hm8, nM⟩
        · rintro σ H8 ⟨M, ms, c4, c6, c7, c8, c9, rfl, s8, e8, hm8, nM⟩
          have S8 := S7.trans s8
          walk_at "zz"
          refine v_if (fun h2 => ?_) (fun h2 => ?_)
          · walk_at "zz"
            refine v_rng2 1 v.length rfl (by rw [enc_len]) (by omega) (by omega) ?_
            refine v_forR (fun i σ H' => ∃ (M : Addr) (ms : List Int) (c4 : Option V), σ = [some (.ref b), some (.str z), some (encV v), some (encV u), c4, some (.ref M), c6, c7, c8, c9, none, none, none] ∧ Same H8 H' ∧ H' M = some (.lst (iL ms)) ∧ ms.length = 2 * L ∧ H M = none) ?_ ?_ ?_
            · exact ⟨M, ms, _, rfl, Same.refl _, e8, hm8, nM⟩
            · rintro i σ H9 hi ⟨M, ms, c4, rfl, s9, e9, hm9, nM⟩
              walk_at "zz"
              refine ⟨v, 1 + i, rfl, by omega, ?_⟩
              walk_at "zz"
              refine ⟨u, 1 + i, rfl, by omega, ?_⟩
              walk_at "zz"
              refine v_if (fun h3 => ?_) (fun h3 => ?_)
              · walk_at "zz"
                have e1 : ((1 + i : Nat) : Int) - 1 = (i : Nat) := by omega
                rw [e1]
                refine ⟨M, ms, i, 1 + i, rfl, e9, by omega, by omega, by omega, fun M2 ms2 H13 n13 s13 e13 hm13 => ?_⟩
                walk_at "zz"
                exact ⟨M2, ms2, _, rfl, s9.trans s13, e13, by omega, Same.free (S8.trans s9) n13⟩
              · walk_at "zz"
                exact ⟨M, ms, _, rfl, s9, e9, hm9, nM⟩
            · rintro σ H9 ⟨M, ms, c4, rfl, s9, e9, hm9, nM⟩
              have S9 := S8.trans s9
              walk_at "zz"
              refine ⟨b, rfl, B.same S9, fun ba H10 b10 B10 => ?_⟩
              walk_at "zz"
              refine v_lst fun l H11 n11 s11 e11 => ?_
              walk_at "zz"
              refine ⟨b, l, _, rfl, e11, B10.ne n11, by decide, by decide, B10.same s11, fun x H12 hx b12 B12 => ?_⟩
              have hx' : ∃ k : Int, x = .int k ∧ 0 < k ∧ k ≤ 10 ^ 30 := by
                simp only [List.mem_cons, List.mem_nil_iff, or_false] at hx
                rcases hx with h | h | h | h | h <;> exact ⟨_, h, by decide, by decide⟩
              obtain ⟨k, rfl, k0, k1⟩ := hx'
              walk_at "zz"
              refine v_tup fun tp H13 n13 s13 e13 => ?_
              walk_at "zz"
              have neM : M ≠ b := fun e => by
                obtain ⟨x, y, w', hb⟩ := B
                rw [e, hb] at nM
                cases nM
              have e13M : H13 M = some (.lst (iL ms)) := s13 _ _ (b12 _ _ neM (s11 _ _ (b10 _ _ neM e9)))
              have b13 : But b H H13 := but_trans (but_of S9) (but_trans b10 (but_trans (but_of s11) (but_trans b12 (but_of s13))))
              have B13 := B12.same s13
              walk_at "zz"
              refine v_lcL (xs := iL ms) (fun N i acc H2 => Same H13 H2 ∧ ∃ ks : List Int, acc = iL ks ∧ ks.length = i) ?_ ?_ ?_ ?_
              · intro N H1 n1 s1 e1
                exact ⟨s1, [], rfl, rfl⟩
              · rintro N i acc H2 n2 ⟨s2, _⟩
                exact SqL.of (s2 _ _ e13M)
              · rintro N i y acc H2 hy n2 e2 ⟨s2, ks, rfl, hks⟩
                obtain ⟨j, rfl⟩ := iL_mem (List.mem_of_getElem? hy)
                have hi : i < ms.length := by
                  have := (List.getElem?_eq_some_iff.mp hy).1
                  rwa [iL_len] at this
                walk_at "zz"
                exact v_acc e2 (by rw [iL_len]; omega) fun H6 b6 e6 => ⟨same_but s2 n2 b6, ks ++ [ba + j.fmod k], by simp [iL], by simp [hks]⟩
              · rintro N acc H2 n2 e2 ⟨s2, ks, rfl, hks⟩
                rw [iL_len] at hks
                have nN : N ≠ b := B13.ne n2 |>.symm
                exact q N ks H2 (but_free b13 nN n2) (but_trans b13 (but_of s2)) (B13.same s2) e2 (by omega)
          · skip
            have S9 := S8
            have e9 := e8
            have hm9 := hm8
            walk_at "zz"
            refine ⟨b, rfl, B.same S9, fun ba H10 b10 B10 => ?_⟩
            walk_at "zz"
            refine v_lst fun l H11 n11 s11 e11 => ?_
            walk_at "zz"
            refine ⟨b, l, _, rfl, e11, B10.ne n11, by decide, by decide, B10.same s11, fun x H12 hx b12 B12 => ?_⟩
            have hx' : ∃ k : Int, x = .int k ∧ 0 < k ∧ k ≤ 10 ^ 30 := by
              simp only [List.mem_cons, List.mem_nil_iff, or_false] at hx
              rcases hx with h | h | h | h | h <;> exact ⟨_, h, by decide, by decide⟩
            obtain ⟨k, rfl, k0, k1⟩ := hx'
            walk_at "zz"
            refine v_tup fun tp H13 n13 s13 e13 => ?_
            walk_at "zz"
            have neM : M ≠ b := fun e => by
              obtain ⟨x, y, w', hb⟩ := B
              rw [e, hb] at nM
              cases nM
            have e13M : H13 M = some (.lst (iL ms)) := s13 _ _ (b12 _ _ neM (s11 _ _ (b10 _ _ neM e9)))
            have b13 : But b H H13 := but_trans (but_of S9) (but_trans b10 (but_trans (but_of s11) (but_trans b12 (but_of s13))))
            have B13 := B12.same s13
            walk_at "zz"
            refine v_lcL (xs := iL ms) (fun N i acc H2 => Same H13 H2 ∧ ∃ ks : List Int, acc = iL ks ∧ ks.length = i) ?_ ?_ ?_ ?_
            · intro N H1 n1 s1 e1
              exact ⟨s1, [], rfl, rfl⟩
            · rintro N i acc H2 n2 ⟨s2, _⟩
              exact SqL.of (s2 _ _ e13M)
            · rintro N i y acc H2 hy n2 e2 ⟨s2, ks, rfl, hks⟩
              obtain ⟨j, rfl⟩ := iL_mem (List.mem_of_getElem? hy)
              have hi : i < ms.length := by
                have := (List.getElem?_eq_some_iff.mp hy).1
                rwa [iL_len] at this
              walk_at "zz"
              exact v_acc e2 (by rw [iL_len]; omega) fun H6 b6 e6 => ⟨same_but s2 n2 b6, ks ++ [ba + j.fmod k], by simp [iL], by simp [hks]⟩
            · rintro N acc H2 n2 e2 ⟨s2, ks, rfl, hks⟩
              rw [iL_len] at hks
              have nN : N ≠ b := B13.ne n2 |>.symm
              exact q N ks H2 (but_free b13 nN n2) (but_trans b13 (but_of s2)) (B13.same s2) e2 (by omega)
end
end Sk
namespace Sk
open PySem PySem.Spec PyProof.Rows L2
/-! step words: z one step, zz as far as it goes, at: what stands at an address -/
local macro_rules
  | `(tactic| walk_at "zz") => `(tactic| repeat first
    | (with_reducible refine z_seq ?_) | (with_reducible refine z_asg ?_) | (with_reducible refine z_gname ?_) | (with_reducible refine z_var (by with_unfolding_all rfl) ?_)
    | (with_reducible refine z_c ?_) | (with_reducible refine z_op ?_) | (with_reducible refine z_cons ?_) | (with_reducible refine z_nil ?_)
    | (with_reducible refine z_next ?_) | (with_reducible refine z_call ?_) | (with_reducible refine z_drop ?_) | (with_reducible refine z_ret ?_)
    | (with_reducible refine z_ifs ?_) | (with_reducible refine z_un ?_) | (with_reducible refine z_chain ?_) | (with_reducible refine z_rI0 ?_)
    | (with_reducible refine z_eqI ?_) | (with_reducible refine z_neI ?_) | (with_reducible refine z_eqS ?_) | (with_reducible refine z_neS ?_)
    | (with_reducible refine z_eqB ?_) | (with_reducible refine z_neB ?_) | (with_reducible refine z_test ?_) | (with_reducible refine z_tB ?_)
    | (with_reducible refine z_bl ?_) | (with_reducible refine z_and ?_) | (with_reducible refine z_or ?_) | (with_reducible refine z_not ?_)
    | (with_reducible refine z_andV ?_) | (with_reducible refine z_orV ?_) | (with_reducible refine z_notV ?_) | (with_reducible refine z_if ?_)
    | (with_reducible refine z_cb ?_) | (with_reducible refine z_part ?_) | (with_reducible refine z_noPart ?_) | (with_reducible refine z_int ?_)
    | (with_reducible refine z_sl ?_) | (with_reducible refine z_fld ?_) | (with_reducible refine z_tup ?_) | (with_reducible refine z_lst ?_)
    | (with_reducible refine z_bm ?_) | (with_reducible refine z_bm0 ?_) | (with_reducible refine z_fldS ?_) | (with_reducible refine z_rU ?_)
    | (with_reducible refine v_intI ?_) | (with_reducible refine v_intB ?_) | (with_reducible refine v_abs ?_) | (with_reducible refine v_isN ?_)
    | (with_reducible refine v_notN ?_) | (with_reducible refine v_cnt ?_) | (with_reducible refine z_make ?_) | (with_reducible refine z_tru ?_)
    | (with_reducible refine z_m1 ?_) | (with_reducible refine z_strI ?_) | (with_reducible refine z_zS ?_) | (with_reducible refine z_eS ?_)
    | (with_reducible refine v_isII ?_) | (with_reducible refine v_isIB ?_) | (with_reducible refine v_isBI ?_) | (with_reducible refine v_isBB ?_)
    | (with_reducible refine v_isNI ?_) | (with_reducible refine v_isIT ?_) | (with_reducible refine v_isST ?_) | (with_reducible refine v_isSS ?_)
    | (with_reducible refine v_isIS ?_) | (with_reducible refine z_sub ?_) | (with_reducible refine z_gcons ?_) | (with_reducible refine z_gnil ?_)
    | (with_reducible refine z_par ?_) | (with_reducible refine v_par ?_) | (with_reducible refine z_par3 ?_) | (with_reducible refine v_par3 ?_)
    | (with_reducible refine v_ipI ?_) | (with_reducible refine z_for ?_) | (with_reducible refine z_lc ?_) | (with_reducible refine z_yes ?_)
    | (with_reducible refine z_rng1 ?_) | (with_reducible refine z_rng2 ?_) | (with_reducible refine z_list ?_) | (with_reducible refine z_tupi ?_)
    | (with_reducible refine z_stri ?_) | (with_reducible refine v_istr ?_) | (with_reducible refine iteT ?_) | (with_reducible refine iteF ?_)
    | (with_reducible refine z_nT ?_) | (with_reducible refine z_nF ?_) | (with_reducible refine z_cont ?_) | (with_reducible refine z_brk ?_)
    | (with_reducible refine z_retN ?_) | (walk_at "zn"))
  | `(tactic| walk_at "zn") => `(tactic| first
    | ((with_reducible refine' v_ixL ?k1 ?k2 ?_); (case k1 => walk_at "sq"); (case k2 => rfl)) | ((with_reducible refine' v_ixT ?k1 ?k2 ?_); (case k1 => walk_at "st"); (case k2 => rfl)) | ((with_reducible refine' v_lenL ?k1 ?_); (case k1 => walk_at "sq")) | ((with_reducible refine' v_lenT ?k1 ?_); (case k1 => walk_at "st"))
    | ((with_reducible refine' v_slS ?k1 ?_); (case k1 => (rw [enc_len]; exact small (by omega)))) | ((with_reducible refine' v_lenS ?k1 ?_); (case k1 => (rw [enc_len]; exact small (by omega)))) | ((with_reducible refine' v_slL ?k1 ?_); (case k1 => walk_at "sq")) | ((with_reducible refine' z_tyL ?k1 ?_); (case k1 => walk_at "at"))
    | ((with_reducible refine' v_fld ?k1 ?k2 ?k3 ?k4 ?_); (case k1 => walk_at "at"); (case k2 => assumption); (case k3 => assumption); (case k4 => first | assumption | rfl)) | ((with_reducible refine' v_truL ?k1 ?_); (case k1 => walk_at "at")) | ((with_reducible refine' z_wipe ?k1 ?_); (case k1 => rfl)) | ((with_reducible refine' v_gtup ?k1 ?k2 ?_); (case k1 => walk_at "st"); (case k2 => rfl))
    | ((with_reducible refine' z_aug ?k1 ?_); (case k1 => rfl)) | ((with_reducible refine' v_ilist ?k1 ?_); (case k1 => walk_at "sq")) | ((with_reducible refine' v_itup ?k1 ?_); (case k1 => walk_at "st")) | ((with_reducible refine' z_rI ?k1 ?_); (case k1 => first | (show (_ : Int) ≠ _; omega) | exact .inl ⟨by decide, by decide⟩ | exact .inr ⟨by decide, by decide⟩ | exact ⟨by decide, by decide⟩ | exact .inl ⟨by omega, by omega⟩ | exact .inr ⟨by omega, by omega⟩))
    | ((with_reducible refine' z_var ?hv ?_); (case hv => rfl)))
  | `(tactic| walk_at "at") => `(tactic| first
    | assumption
    | ((with_reducible refine' same_at ?k1 ?k2); (case k1 => assumption); (case k2 => walk_at "at"))
    | ((with_reducible refine' but_at ?k1 ?k2 ?k3); (case k1 => assumption); (case k2 => first | assumption | (apply Ne.symm; assumption)); (case k3 => walk_at "at")))
  | `(tactic| walk_at "sq") => `(tactic| first
    | assumption
    | (refine' SqL.of ?k1; (case k1 => walk_at "at"))
    | ((with_reducible refine' Same.seq ?k1 ?k2); (case k1 => assumption); (case k2 => walk_at "sq")))
  | `(tactic| walk_at "st") => `(tactic| first
    | assumption
    | (refine' SqT.of ?k1; (case k1 => walk_at "at"))
    | ((with_reducible refine' same_tup ?k1 ?k2); (case k1 => assumption); (case k2 => walk_at "st")))
  | `(tactic| walk_at "sa") => `(tactic| first
    | assumption
    | exact Same.refl _
    | (refine' Same.trans ?k1 ?k2; (case k2 => assumption); (case k1 => walk_at "sa")))
/-! The law's helpers: words, marks, what is due. -/
abbrev s__law_inks_seen : Stmt := top 65
abbrev N__law_inks_seen : List Str := ["_law_word_here", "_law_row_here", "_law_p", "_law_q", "_law_found", "_law_t"]
theorem sc__law_inks_seen : FnScope N__law_inks_seen ["_law_word_here", "_law_row_here", "_law_p", "_law_q"] (defScope s__law_inks_seen) := ⟨rfl, rfl, rfl, by decide +kernel, rfl, by decide +kernel, by decide +kernel⟩
abbrev s__law_first_spot : Stmt := top 66
abbrev N__law_first_spot : List Str := ["_law_words", "_law_others", "_law_rows", "_law_p", "_law_q", "_law_c", "_law_mine", "_law_theirs", "_law_spot"]
theorem sc__law_first_spot : FnScope N__law_first_spot ["_law_words", "_law_others", "_law_rows", "_law_p", "_law_q"] (defScope s__law_first_spot) := ⟨rfl, rfl, rfl, by decide +kernel, rfl, by decide +kernel, by decide +kernel⟩
abbrev s__law_first_cell : Stmt := top 67
abbrev N__law_first_cell : List Str := ["_law_words", "_law_others", "_law_c", "_law_t"]
theorem sc__law_first_cell : FnScope N__law_first_cell ["_law_words", "_law_others"] (defScope s__law_first_cell) := ⟨rfl, rfl, rfl, by decide +kernel, rfl, by decide +kernel, by decide +kernel⟩
abbrev s__law_heights_agree : Stmt := top 68
abbrev N__law_heights_agree : List Str := ["_law_words", "_law_others", "_law_rows", "_law_c", "_law_t"]
theorem sc__law_heights_agree : FnScope N__law_heights_agree ["_law_words", "_law_others", "_law_rows"] (defScope s__law_heights_agree) := ⟨rfl, rfl, rfl, by decide +kernel, rfl, by decide +kernel, by decide +kernel⟩
def spSeen : Sp := fun vs H Q _ => ∃ (w : List Bool) (l : Addr) (r : List Int) (p q : Nat), vs = [encV w, .ref l, .int p, .int q] ∧ H l = some (.lst (iL r)) ∧ w.length = r.length ∧ w.length ≤ 12 ∧ p ≤ 100 ∧ q ≤ 100 ∧ ∀ m H', H m = none → Same H H' → H' m = some (.lst (iL (seen p q w r))) → Q (.ref m) H'
/-- the words, the others and the rows that belong together -/
structure Fit (L n : Nat) (ws us : Ws) : Prop where
  n1 : 1 ≤ n
  n12 : n ≤ 12
  l1 : 1 ≤ L
  l6 : L ≤ 6
  w : ws.length = n
  u : us.length = n
  ww : ∀ w ∈ ws, IsW L w
  uu : ∀ w ∈ us, IsW L w
structure FitR (L n : Nat) (rs : Rs) : Prop where
  r : rs.length = n
  rr : ∀ r ∈ rs, r.length = 2 * L
theorem Fit.swap {L n : Nat} {ws us : Ws} (F : Fit L n ws us) : Fit L n us ws := ⟨F.n1, F.n12, F.l1, F.l6, F.u, F.w, F.uu, F.ww⟩
theorem Fit.self {L n : Nat} {ws us : Ws} (F : Fit L n ws us) : Fit L n ws ws := ⟨F.n1, F.n12, F.l1, F.l6, F.w, F.w, F.ww, F.ww⟩
theorem Fit.gw {L n : Nat} {ws us : Ws} (F : Fit L n ws us) {c : Nat} (h : c < n) : ws[c]? = some (wAt ws c) ∧ IsW L (wAt ws c) := by
  have e : ws[c]? = some (ws[c]'(by rw [F.w]; exact h)) := List.getElem?_eq_getElem _
  rw [wAt_some e]
  exact ⟨e, F.ww _ (List.mem_of_getElem? e)⟩
theorem FitR.gr {L n : Nat} {rs : Rs} (F : FitR L n rs) {c : Nat} (h : c < n) : rs[c]? = some (rAt rs c) ∧ (rAt rs c).length = 2 * L := by
  have e : rs[c]? = some (rs[c]'(by rw [F.r]; exact h)) := List.getElem?_eq_getElem _
  rw [rAt_some e]
  exact ⟨e, F.rr _ (List.mem_of_getElem? e)⟩
def spSpot : Sp := fun vs H Q _ => ∃ (a b l : Addr) (xs : List V) (L n : Nat) (ws us : Ws) (rs : Rs) (p q : Nat), vs = [.ref a, .ref b, .ref l, .int p, .int q] ∧ Fit L n ws us ∧ FitR L n rs ∧ p ≤ 100 ∧ q ≤ 100 ∧ H a = some (.lst (wL ws)) ∧ H b = some (.lst (wL us)) ∧ H l = some (.lst xs) ∧ Lsts H xs rs ∧
  ∀ x H', Same H H' → OptP H' x (spot ws us rs p q) → Q x H'
def spCell : Sp := fun vs H Q _ => ∃ (a b : Addr) (L n : Nat) (ws us : Ws), vs = [.ref a, .ref b] ∧ Fit L n ws us ∧ H a = some (.lst (wL ws)) ∧ H b = some (.lst (wL us)) ∧ ∀ x H', Same H H' → OptP H' x (cell ws us) → Q x H'
def spHts : Sp := fun vs H Q _ => ∃ (a b l : Addr) (xs : List V) (L n : Nat) (ws us : Ws) (rs : Rs), vs = [.ref a, .ref b, .ref l] ∧ Fit L n ws us ∧ FitR L n rs ∧ H a = some (.lst (wL ws)) ∧ H b = some (.lst (wL us)) ∧ H l = some (.lst xs) ∧ Lsts H xs rs ∧
  ∀ b : Bool, (b = true ↔ Agree ws us rs) → Q (.bl b) H
section
variable {P : Program} {w : World} {K : PySem.W.Frag} {mg : Str → Option Value} {base : Heap}
theorem ok__law_inks_seen (D : DefAt K mg "_law_inks_seen" ["_law_word_here", "_law_row_here", "_law_p", "_law_q"] s__law_inks_seen) (T : Tx K mg) : Glo P w K mg base CX0 1 "_law_inks_seen" ["_law_word_here", "_law_row_here", "_law_p", "_law_q"] spSeen := by
  refine D.ok 0 sc__law_inks_seen (fun vs H Q E h => ?_) (fun f cdv A outer s H vs Q E hr h => ?_)
  · obtain ⟨w, l, r, p, q, rfl, _⟩ := h
    rfl
  · obtain ⟨w, l, r, p, q, rfl, hl, hw, h12, hp, hq, k⟩ := h
    refine ⟨_, (pss_cons (ps_set (i := 4) sc__law_inks_seen.nd rfl (Or.inl rfl) (pe_lst pa_nil))
      (pss_cons (ps_for PassesOwn.never rfl (pi_range1 (by rfl) T.n_range (pa_cons (pe_callB (lenK (K := K) rfl) (by rfl) T.n_len (by decide +kernel) (pa_cons (pv 0) pa_nil)) pa_nil)) (pg_name (i := 5) sc__law_inks_seen.nd rfl (Or.inl rfl))
        (pss_one (ps_set (i := 4) sc__law_inks_seen.nd rfl (Or.inl rfl) (pe_op op_cat (pv 4) (pe_op op_rep (pe_lst (pa_cons (pe_ix (ixL (K := K) rfl) (pv 1) (pv 5) (fun _ _ => rfl)) pa_nil)) (pe_ifExp (pt_cmpR op_eq (pe_ix ix_str (pv 0) (pv 5) (fun _ _ => rfl)) pe_str (nomark _)) (pv 2) (pv 3)))))))
      (pss_one (ps_ret (pv 4))))), ?_⟩
    walk_at "zz"
    refine v_lst fun m H1 n1 s1 e1 => ?_
    walk_at "zz"
    refine v_rng1 w.length (by rw [enc_len]) (by omega) ?_
    refine v_for0 (fun i σ H' => ∃ (m : Addr) (c : Option V), σ = [some (encV w), some (.ref l), some (.int p), some (.int q), some (.ref m), c] ∧ Same H H' ∧ H' m = some (.lst (iL (seen p q (w.take i) (r.take i)))) ∧ H m = none) ?_ ?_ ?_
    · exact ⟨m, none, rfl, s1, by simpa [seen, iL] using e1, n1⟩
    · rintro i σ H2 hi ⟨m, c, rfl, s2, e2, nm⟩
      have hi2 : i < r.length := by omega
      have wi : w[i]? = some w[i] := List.getElem?_eq_getElem hi
      have ri : r[i]? = some r[i] := List.getElem?_eq_getElem hi2
      walk_at "zz"
      refine v_ixLn (SqL.of (s2 _ _ hl)) (x := .int r[i]) (by unfold iL; rw [List.getElem?_map, ri]; rfl) ?_
      walk_at "zz"
      refine v_lst fun m2 H3 n3 s3 e3 => ?_
      walk_at "zz"
      refine v_ixE wi (by omega) ?_
      walk_at "zz"
      rw [sign_d]
      have small := seen_small (w := w.take i) (r := r.take i) hp hq (by rw [List.length_take]; omega) (by rw [List.length_take, List.length_take]; omega)
      refine v_if (fun hb => ?_) (fun hb => ?_)
      · skip
        walk_at "zz"
        refine v_rep e3 (by omega) (by omega) (by simp) fun m3 H4 n4 s4 e4 => ?_
        walk_at "zz"
        refine v_cat (s4 _ _ (s3 _ _ e2)) e4 ?_ fun m4 H5 n5 s5 e5 => ?_
        · rw [rep_flat]
          simp only [iL, List.length_map, List.length_replicate]
          omega
        · walk_at "zz"
          refine ⟨m4, _, rfl, s2.trans (s3.trans (s4.trans s5)), ?_, Same.free (s2.trans (s3.trans s4)) n5⟩
          rw [e5, seen_snoc wi ri, hb, rep_flat]
          simp [iL]
      · skip
        walk_at "zz"
        refine v_rep e3 (by omega) (by omega) (by simp) fun m3 H4 n4 s4 e4 => ?_
        walk_at "zz"
        refine v_cat (s4 _ _ (s3 _ _ e2)) e4 ?_ fun m4 H5 n5 s5 e5 => ?_
        · rw [rep_flat]
          simp only [iL, List.length_map, List.length_replicate]
          omega
        · walk_at "zz"
          refine ⟨m4, _, rfl, s2.trans (s3.trans (s4.trans s5)), ?_, Same.free (s2.trans (s3.trans s4)) n5⟩
          rw [e5, seen_snoc wi ri, hb, rep_flat]
          simp [iL]
    · rintro σ H2 ⟨m, c, rfl, s2, e2, nm⟩
      walk_at "zz"
      rw [List.take_length, hw, List.take_length] at e2
      exact k m H2 nm s2 e2
theorem ok__law_first_spot (D : DefAt K mg "_law_first_spot" ["_law_words", "_law_others", "_law_rows", "_law_p", "_law_q"] s__law_first_spot) (T : Tx K mg) (G__law_inks_seen : Glo P w K mg base CX0 1 "_law_inks_seen" ["_law_word_here", "_law_row_here", "_law_p", "_law_q"] spSeen) :
    Glo P w K mg base CX0 2 "_law_first_spot" ["_law_words", "_law_others", "_law_rows", "_law_p", "_law_q"] spSpot := by
  refine D.ok 1 sc__law_first_spot (fun vs H Q E h => ?_) (fun f cdv A outer s H vs Q E hr h => ?_)
  · obtain ⟨a, b, l, xs, L, n, ws, us, rs, p, q, rfl, _⟩ := h
    rfl
  · obtain ⟨a, b, l, xs, L, n, ws, us, rs, p, q, rfl, F, FR, hp, hq, ha, hb, hl, ht, k⟩ := h
    have f1 := F.n1
    have f2 := F.n12
    have f3 := F.l6
    have f4 := F.w
    refine ⟨_, (pss_cons (ps_for PassesOwn.never rfl (pi_range1 (by rfl) T.n_range (pa_cons (pe_callB (lenK (K := K) rfl) (by rfl) T.n_len (by decide +kernel) (pa_cons (pv 0) pa_nil)) pa_nil)) (pg_name (i := 5) sc__law_first_spot.nd rfl (Or.inl rfl))
        (pss_cons (ps_par (i := 6) (j := 7) (by rfl) sc__law_first_spot.nd rfl rfl (by decide) rfl rfl (pa_cons (pe_g G__law_inks_seen (hr.mono (by decide)) rfl pass0 (pa_cons (pe_ix (ixL (K := K) rfl) (pv 0) (pv 5) (fun _ _ => rfl)) (pa_cons (pe_ix (ixL (K := K) rfl) (pv 2) (pv 5) (fun _ _ => rfl)) (pa_cons (pv 3) (pa_cons (pv 4) pa_nil))))) (pa_cons (pe_g G__law_inks_seen (hr.mono (by decide)) rfl pass0 (pa_cons (pe_ix (ixL (K := K) rfl) (pv 1) (pv 5) (fun _ _ => rfl)) (pa_cons (pe_ix (ixL (K := K) rfl) (pv 2) (pv 5) (fun _ _ => rfl)) (pa_cons (pv 3) (pa_cons (pv 4) pa_nil))))) pa_nil)) (by rfl))
        (pss_one (ps_for PassesOwn.never rfl (pi_range1 (by rfl) T.n_range (pa_cons (pe_callB (lenK (K := K) rfl) (by rfl) T.n_len (by decide +kernel) (pa_cons (pv 6) pa_nil)) pa_nil)) (pg_name (i := 8) sc__law_first_spot.nd rfl (Or.inl rfl))
          (pss_one (ps_if (pt_cmpR op_ne (pe_ix (ixL (K := K) rfl) (pv 6) (pv 8) (fun _ _ => rfl)) (pe_ix (ixL (K := K) rfl) (pv 7) (pv 8) (fun _ _ => rfl)) (nomark _)) (pss_one (ps_ret (pe_tup (pa_cons (pv 5) (pa_cons (pv 8) pa_nil))))) pss_nil))))))
      (pss_one (ps_ret pe_non))), ?_⟩
    walk_at "zz"
    refine v_rng1 n (by rw [wL_len, F.w]) (by omega) ?_
    refine v_for0 (fun i σ H' => ∃ (c1 c2 c3 c4 : Option V), σ = [some (.ref a), some (.ref b), some (.ref l), some (.int p), some (.int q), c1, c2, c3, c4] ∧ Same H H' ∧ ∀ c, c < i → fd (seen p q (wAt ws c) (rAt rs c)) (seen p q (wAt us c) (rAt rs c)) = none) ?_ ?_ ?_
    · exact ⟨_, _, _, _, rfl, Same.refl _, fun c hc => absurd hc (Nat.not_lt_zero _)⟩
    · rintro i σ H2 hi ⟨c1, c2, c3, c4, rfl, s2, hn⟩
      obtain ⟨g1, w1⟩ := F.gw hi
      obtain ⟨g2, w2⟩ := F.swap.gw hi
      obtain ⟨g3, l3⟩ := FR.gr hi
      obtain ⟨pr, g4, e4⟩ := ht.get2 g3
      have len1 := w1.len
      have len2 := w2.len
      walk_at "zz"
      refine v_ixLn (SqL.of (s2 _ _ ha)) (wL_get g1) ?_
      walk_at "zz"
      refine v_ixLn (SqL.of (s2 _ _ hl)) g4 ?_
      walk_at "zz"
      refine ⟨_, pr, _, p, q, rfl, s2 _ _ e4, by omega, by omega, hp, hq, fun m1 H3 n3 s3 e3 => ?_⟩
      walk_at "zz"
      refine v_ixLn (SqL.of (s3 _ _ (s2 _ _ hb))) (wL_get g2) ?_
      walk_at "zz"
      refine v_ixLn (SqL.of (s3 _ _ (s2 _ _ hl))) g4 ?_
      walk_at "zz"
      refine ⟨_, pr, _, p, q, rfl, s3 _ _ (s2 _ _ e4), by omega, by omega, hp, hq, fun m2 H4 n4 s4 e5 => ?_⟩
      have e3' := s4 _ _ e3
      have lens : (seen p q (wAt ws i) (rAt rs i)).length = (seen p q (wAt us i) (rAt rs i)).length := by
        rw [seen_len (by omega), seen_len (by omega), w1.cn, w2.cn, w1.cn, w2.cn]
      have sm := seen_small (w := wAt ws i) (r := rAt rs i) hp hq (by omega) (by omega)
      generalize hx : seen p q (wAt ws i) (rAt rs i) = X at *
      generalize hy : seen p q (wAt us i) (rAt rs i) = Y at *
      walk_at "zz"
      refine v_rng1 X.length (by simp [iL]) (by omega) ?_
      refine v_for0 (fun j σ H' => ∃ (c4 : Option V), σ = [some (.ref a), some (.ref b), some (.ref l), some (.int p), some (.int q), some (.int (i : Nat)), some (.ref m1), some (.ref m2), c4] ∧ H' = H4 ∧ ∀ t, t < j → decide (X[t]? ≠ Y[t]?) = false) ?_ ?_ ?_
      · exact ⟨_, rfl, rfl, fun c hc => absurd hc (Nat.not_lt_zero _)⟩
      · rintro j σ H5 hj ⟨c4, rfl, rfl, hm⟩
        have gx : X[j]? = some X[j] := List.getElem?_eq_getElem hj
        have gy : Y[j]? = some (Y[j]'(by omega)) := List.getElem?_eq_getElem _
        walk_at "zz"
        refine v_ixLn (SqL.of e3') (x := .int X[j]) (by unfold iL; rw [List.getElem?_map, gx]; rfl) ?_
        walk_at "zz"
        refine v_ixLn (SqL.of e5) (x := .int (Y[j]'(by omega))) (by unfold iL; rw [List.getElem?_map, gy]; rfl) ?_
        walk_at "zz"
        refine v_if (fun h1 => ?_) (fun h1 => ?_)
        · walk_at "zz"
          refine v_tup fun t1 H6 n6 s6 e6 => ?_
          refine k (.ref t1) H6 (s2.trans (s3.trans (s4.trans s6))) ?_
          have e : spot ws us rs p q = some ((i : Int), (j : Int)) := by
            refine first2_some (by rw [F.w]; exact hi) hn ?_
            rw [hx, hy]
            refine first_some hj hm ?_
            rw [gx, gy]
            simpa using h1
          rw [e]
          exact ⟨t1, rfl, e6⟩
        · walk_at "zz"
          refine ⟨_, rfl, rfl, fun t ht => ?_⟩
          by_cases e : t = j
          · subst e
            rw [gx, gy]
            simpa using h1
          · exact hm t (by omega)
      · rintro σ H5 ⟨c4, rfl, rfl, hm⟩
        walk_at "zz"
        refine ⟨_, _, _, _, rfl, s2.trans (s3.trans s4), fun c hc => ?_⟩
        by_cases e : c = i
        · subst e
          rw [hx, hy]
          exact first_none hm
        · exact hn c (by omega)
    · rintro σ H2 ⟨c1, c2, c3, c4, rfl, s2, hn⟩
      walk_at "zz"
      refine k .non H2 s2 ?_
      rw [show spot ws us rs p q = none from first2_none (by rw [F.w]; exact hn)]
      rfl
theorem ok__law_first_cell (D : DefAt K mg "_law_first_cell" ["_law_words", "_law_others"] s__law_first_cell) (T : Tx K mg) : Glo P w K mg base CX0 1 "_law_first_cell" ["_law_words", "_law_others"] spCell := by
  refine D.ok 0 sc__law_first_cell (fun vs H Q E h => ?_) (fun f cdv A outer s H vs Q E hr h => ?_)
  · obtain ⟨a, b, L, n, ws, us, rfl, _⟩ := h
    rfl
  · obtain ⟨a, b, L, n, ws, us, rfl, F, ha, hb, k⟩ := h
    have f1 := F.n1
    have f2 := F.n12
    have f3 := F.l6
    have f4 := F.w
    refine ⟨_, (pss_cons (ps_for PassesOwn.never rfl (pi_range1 (by rfl) T.n_range (pa_cons (pe_callB (lenK (K := K) rfl) (by rfl) T.n_len (by decide +kernel) (pa_cons (pv 0) pa_nil)) pa_nil)) (pg_name (i := 2) sc__law_first_cell.nd rfl (Or.inl rfl))
        (pss_one (ps_for PassesOwn.never rfl (pi_range1 (by rfl) T.n_range (pa_cons (pe_callB (lenK (K := K) rfl) (by rfl) T.n_len (by decide +kernel) (pa_cons (pe_ix (ixL (K := K) rfl) (pv 0) (pv 2) (fun _ _ => rfl)) pa_nil)) pa_nil)) (pg_name (i := 3) sc__law_first_cell.nd rfl (Or.inl rfl))
          (pss_one (ps_if (pt_cmpR op_ne (pe_ix ix_str (pe_ix (ixL (K := K) rfl) (pv 0) (pv 2) (fun _ _ => rfl)) (pv 3) (fun _ _ => rfl)) (pe_ix ix_str (pe_ix (ixL (K := K) rfl) (pv 1) (pv 2) (fun _ _ => rfl)) (pv 3) (fun _ _ => rfl)) (nomark _)) (pss_one (ps_ret (pe_tup (pa_cons (pv 2) (pa_cons (pv 3) pa_nil))))) pss_nil)))))
      (pss_one (ps_ret pe_non))), ?_⟩
    walk_at "zz"
    refine v_rng1 n (by rw [wL_len, F.w]) (by omega) ?_
    refine v_for0 (fun i σ H' => ∃ (c1 c2 : Option V), σ = [some (.ref a), some (.ref b), c1, c2] ∧ H' = H ∧ ∀ c, c < i → fd (wAt ws c) (wAt us c) = none) ?_ ?_ ?_
    · exact ⟨_, _, rfl, rfl, fun c hc => absurd hc (Nat.not_lt_zero _)⟩
    · rintro i σ H2 hi ⟨c1, c2, rfl, rfl, hn⟩
      obtain ⟨g1, w1⟩ := F.gw hi
      obtain ⟨g2, w2⟩ := F.swap.gw hi
      have len1 := w1.len
      have len2 := w2.len
      have l3 : (wAt ws i).length ≤ 1000 := by omega
      have l4 : (wAt us i).length ≤ 1000 := by omega
      generalize hx : wAt ws i = X at *
      generalize hy : wAt us i = Y at *
      walk_at "zz"
      refine v_ixLn (SqL.of ha) (wL_get g1) ?_
      walk_at "zz"
      refine v_rng1 X.length (by rw [enc_len]) (by omega) ?_
      refine v_for0 (fun j σ H' => ∃ (c2 : Option V), σ = [some (.ref a), some (.ref b), some (.int (i : Nat)), c2] ∧ H' = H2 ∧ ∀ t, t < j → decide (X[t]? ≠ Y[t]?) = false) ?_ ?_ ?_
      · exact ⟨_, rfl, rfl, fun c hc => absurd hc (Nat.not_lt_zero _)⟩
      · rintro j σ H5 hj ⟨c4, rfl, rfl, hm⟩
        have gx : X[j]? = some X[j] := List.getElem?_eq_getElem hj
        have gy : Y[j]? = some (Y[j]'(by omega)) := List.getElem?_eq_getElem _
        walk_at "zz"
        refine v_ixLn (SqL.of ha) (wL_get g1) ?_
        walk_at "zz"
        refine v_ixE gx l3 ?_
        walk_at "zz"
        refine v_ixLn (SqL.of hb) (wL_get g2) ?_
        walk_at "zz"
        refine v_ixE gy l4 ?_
        walk_at "zz"
        rw [sign_eq]
        refine v_if (fun h1 => ?_) (fun h1 => ?_)
        · walk_at "zz"
          refine v_tup fun t1 H6 n6 s6 e6 => ?_
          refine k (.ref t1) H6 s6 ?_
          have e : cell ws us = some ((i : Int), (j : Int)) := by
            refine first2_some (by rw [F.w]; exact hi) hn ?_
            rw [hx, hy]
            refine first_some hj hm ?_
            rw [gx, gy]
            simpa using h1
          rw [e]
          exact ⟨t1, rfl, e6⟩
        · walk_at "zz"
          refine ⟨_, rfl, rfl, fun t ht => ?_⟩
          by_cases e : t = j
          · subst e
            rw [gx, gy]
            simpa using h1
          · exact hm t (by omega)
      · rintro σ H5 ⟨c4, rfl, rfl, hm⟩
        walk_at "zz"
        refine ⟨_, _, rfl, rfl, fun c hc => ?_⟩
        by_cases e : c = i
        · subst e
          rw [hx, hy]
          exact first_none hm
        · exact hn c (by omega)
    · rintro σ H2 ⟨c1, c2, rfl, rfl, hn⟩
      walk_at "zz"
      refine k .non H2 (Same.refl _) ?_
      rw [show cell ws us = none from first2_none (by rw [F.w]; exact hn)]
      rfl
theorem ok__law_heights_agree (D : DefAt K mg "_law_heights_agree" ["_law_words", "_law_others", "_law_rows"] s__law_heights_agree) (T : Tx K mg) (G__law_downs : Glo P w K mg base CX0 1 "_law_downs" ["_law_word_here", "_law_boundary"] spDowns) :
    Glo P w K mg base CX0 2 "_law_heights_agree" ["_law_words", "_law_others", "_law_rows"] spHts := by
  refine D.ok 1 sc__law_heights_agree (fun vs H Q E h => ?_) (fun f cdv A outer s H vs Q E hr h => ?_)
  · obtain ⟨a, b, l, xs, L, n, ws, us, rs, rfl, _⟩ := h
    rfl
  · obtain ⟨a, b, l, xs, L, n, ws, us, rs, rfl, F, FR, ha, hb, hl, ht, k⟩ := h
    have f1 := F.n1
    have f2 := F.n12
    have f3 := F.l6
    have f4 := F.w
    refine ⟨_, (pss_cons (ps_for PassesOwn.never rfl (pi_range1 (by rfl) T.n_range (pa_cons (pe_callB (lenK (K := K) rfl) (by rfl) T.n_len (by decide +kernel) (pa_cons (pv 0) pa_nil)) pa_nil)) (pg_name (i := 3) sc__law_heights_agree.nd rfl (Or.inl rfl))
        (pss_one (ps_for PassesOwn.never rfl (pi_range2 (by rfl) T.n_range (pa_cons pe_int (pa_cons (pe_callB (lenK (K := K) rfl) (by rfl) T.n_len (by decide +kernel) (pa_cons (pe_ix (ixL (K := K) rfl) (pv 0) (pv 3) (fun _ _ => rfl)) pa_nil)) pa_nil))) (pg_name (i := 4) sc__law_heights_agree.nd rfl (Or.inl rfl))
          (pss_one (ps_if (PW.pt (pw_and (pt_cmpR op_ne (pe_ix (ixL (K := K) rfl) (pe_ix (ixL (K := K) rfl) (pv 2) (pv 3) (fun _ _ => rfl)) (pe_op op_sub (pv 4) pe_int) (fun _ _ => rfl)) (pe_ix (ixL (K := K) rfl) (pe_ix (ixL (K := K) rfl) (pv 2) (pv 3) (fun _ _ => rfl)) (pv 4) (fun _ _ => rfl)) (nomark _)) (pw_and1 (pt_cmpR op_ne (pe_g G__law_downs (hr.mono (by decide)) rfl pass0 (pa_cons (pe_ix (ixL (K := K) rfl) (pv 0) (pv 3) (fun _ _ => rfl)) (pa_cons (pv 4) pa_nil))) (pe_g G__law_downs (hr.mono (by decide)) rfl pass0 (pa_cons (pe_ix (ixL (K := K) rfl) (pv 1) (pv 3) (fun _ _ => rfl)) (pa_cons (pv 4) pa_nil))) (nomark _))))) (pss_one (ps_ret pe_bl)) pss_nil)))))
      (pss_one (ps_ret pe_bl))), ?_⟩
    walk_at "zz"
    refine v_rng1 n (by rw [wL_len, F.w]) (by omega) ?_
    refine v_for0 (fun i σ H' => ∃ (c1 c2 : Option V), σ = [some (.ref a), some (.ref b), some (.ref l), c1, c2] ∧ H' = H ∧ ∀ c, c < i → ∀ t, 1 ≤ t → t < (wAt ws c).length → (rAt rs c)[t - 1]? ≠ (rAt rs c)[t]? → ((wAt ws c).take t).count true = ((wAt us c).take t).count true) ?_ ?_ ?_
    · exact ⟨_, _, rfl, rfl, fun c hc => absurd hc (Nat.not_lt_zero _)⟩
    · rintro i σ H2 hi ⟨c1, c2, rfl, rfl, hn⟩
      obtain ⟨g1, w1⟩ := F.gw hi
      obtain ⟨g2, w2⟩ := F.swap.gw hi
      obtain ⟨g3, l3⟩ := FR.gr hi
      obtain ⟨pr, g4, e4⟩ := ht.get2 g3
      have len1 := w1.len
      have len2 := w2.len
      have kk := k
      unfold Agree at kk
      generalize hx : wAt ws i = X at *
      generalize hy : wAt us i = Y at *
      generalize hz : rAt rs i = Z at *
      walk_at "zz"
      refine v_ixLn (SqL.of ha) (wL_get g1) ?_
      walk_at "zz"
      refine v_rng2 1 X.length rfl (by rw [enc_len]) (by omega) (by omega) ?_
      refine v_forR (fun j σ H' => ∃ (c2 : Option V), σ = [some (.ref a), some (.ref b), some (.ref l), some (.int (i : Nat)), c2] ∧ H' = H2 ∧ ∀ t, 1 ≤ t → t < 1 + j → Z[t - 1]? ≠ Z[t]? → (X.take t).count true = (Y.take t).count true) ?_ ?_ ?_
      · exact ⟨_, rfl, rfl, fun t h1 h2 => by omega⟩
      · rintro j σ H5 hj ⟨c4, rfl, rfl, hm⟩
        have gx : Z[j]? = some (Z[j]'(by omega)) := List.getElem?_eq_getElem _
        have gy : Z[1 + j]? = some (Z[1 + j]'(by omega)) := List.getElem?_eq_getElem _
        have next : (Z[j]'(by omega) ≠ Z[1 + j]'(by omega) → (X.take (1 + j)).count true = (Y.take (1 + j)).count true) → ∃ (c2 : Option V), [some (V.ref a), some (.ref b), some (.ref l), some (.int (i : Nat)), some (.int ((1 + j : Nat) : Int))] = [some (.ref a), some (.ref b), some (.ref l), some (.int (i : Nat)), c2] ∧ H5 = H5 ∧ ∀ t, 1 ≤ t → t < 1 + (j + 1) → Z[t - 1]? ≠ Z[t]? → (X.take t).count true = (Y.take t).count true := fun h => by
          refine ⟨_, rfl, rfl, fun t h1 h2 h3 => ?_⟩
          by_cases e : t = 1 + j
          · subst e
            rw [show 1 + j - 1 = j by omega, gx, gy] at h3
            exact h (by simpa using h3)
          · exact hm t h1 (by omega) h3
        walk_at "zz"
        refine v_ixLn (SqL.of hl) g4 ?_
        walk_at "zz"
        have e1 : ((1 + j : Nat) : Int) - 1 = (j : Nat) := by omega
        rw [e1]
        refine v_ixLn (SqL.of e4) (x := .int (Z[j]'(by omega))) (by unfold iL; rw [List.getElem?_map, gx]; rfl) ?_
        walk_at "zz"
        refine v_ixLn (SqL.of hl) g4 ?_
        walk_at "zz"
        refine v_ixLn (SqL.of e4) (x := .int (Z[1 + j]'(by omega))) (by unfold iL; rw [List.getElem?_map, gy]; rfl) ?_
        walk_at "zz"
        refine v_if (fun h1 => ?_) (fun h1 => ?_)
        · walk_at "zz"
          refine v_ixLn (SqL.of ha) (wL_get g1) ?_
          walk_at "zz"
          refine ⟨X, 1 + j, rfl, by omega, ?_⟩
          walk_at "zz"
          refine v_ixLn (SqL.of hb) (wL_get g2) ?_
          walk_at "zz"
          refine ⟨Y, 1 + j, rfl, by omega, ?_⟩
          walk_at "zz"
          refine v_if (fun h2 => ?_) (fun h2 => ?_)
          · walk_at "zz"
            refine k false ⟨fun e => (by cases e), fun e => ?_⟩
            have := e i (by omega) (1 + j) (by omega) (by rw [hx]; omega) (by rw [hz, show 1 + j - 1 = j by omega, gx, gy]; simpa using h1)
            rw [hx, hy] at this
            simp [this] at h2
          · walk_at "zz"
            exact next fun _ => Int.ofNat.inj (by simpa using h2)
        · walk_at "zz"
          exact next fun e => absurd e (by simpa using h1)
      · rintro σ H5 ⟨c4, rfl, rfl, hm⟩
        walk_at "zz"
        refine ⟨_, _, rfl, rfl, fun c hc => ?_⟩
        by_cases e : c = i
        · subst e
          rw [hx, hy, hz]
          exact fun t h1 h2 h3 => hm t h1 (by omega) h3
        · exact hn c (by omega)
    · rintro σ H2 ⟨c1, c2, rfl, rfl, hn⟩
      walk_at "zz"
      exact k true ⟨fun _ c hc => hn c (by omega), fun _ => rfl⟩
end
end Sk
namespace Sk
open PySem PySem.Spec PyProof.Rows L2
/-! step words: z one step, zz as far as it goes, at: what stands at an address -/
local macro_rules
  | `(tactic| walk_at "zz") => `(tactic| repeat first
    | (with_reducible refine z_seq ?_) | (with_reducible refine z_asg ?_) | (with_reducible refine z_gname ?_) | (with_reducible refine z_var (by with_unfolding_all rfl) ?_)
    | (with_reducible refine z_c ?_) | (with_reducible refine z_op ?_) | (with_reducible refine z_cons ?_) | (with_reducible refine z_nil ?_)
    | (with_reducible refine z_next ?_) | (with_reducible refine z_call ?_) | (with_reducible refine z_drop ?_) | (with_reducible refine z_ret ?_)
    | (with_reducible refine z_ifs ?_) | (with_reducible refine z_un ?_) | (with_reducible refine z_chain ?_) | (with_reducible refine z_rI0 ?_)
    | (with_reducible refine z_eqI ?_) | (with_reducible refine z_neI ?_) | (with_reducible refine z_eqS ?_) | (with_reducible refine z_neS ?_)
    | (with_reducible refine z_eqB ?_) | (with_reducible refine z_neB ?_) | (with_reducible refine z_test ?_) | (with_reducible refine z_tB ?_)
    | (with_reducible refine z_bl ?_) | (with_reducible refine z_and ?_) | (with_reducible refine z_or ?_) | (with_reducible refine z_not ?_)
    | (with_reducible refine z_andV ?_) | (with_reducible refine z_orV ?_) | (with_reducible refine z_notV ?_) | (with_reducible refine z_if ?_)
    | (with_reducible refine z_cb ?_) | (with_reducible refine z_part ?_) | (with_reducible refine z_noPart ?_) | (with_reducible refine z_int ?_)
    | (with_reducible refine z_sl ?_) | (with_reducible refine z_fld ?_) | (with_reducible refine z_tup ?_) | (with_reducible refine z_lst ?_)
    | (with_reducible refine z_bm ?_) | (with_reducible refine z_bm0 ?_) | (with_reducible refine z_fldS ?_) | (with_reducible refine z_rU ?_)
    | (with_reducible refine v_intI ?_) | (with_reducible refine v_intB ?_) | (with_reducible refine v_abs ?_) | (with_reducible refine v_isN ?_)
    | (with_reducible refine v_notN ?_) | (with_reducible refine v_cnt ?_) | (with_reducible refine z_make ?_) | (with_reducible refine z_tru ?_)
    | (with_reducible refine z_m1 ?_) | (with_reducible refine z_strI ?_) | (with_reducible refine z_zS ?_) | (with_reducible refine z_eS ?_)
    | (with_reducible refine v_isII ?_) | (with_reducible refine v_isIB ?_) | (with_reducible refine v_isBI ?_) | (with_reducible refine v_isBB ?_)
    | (with_reducible refine v_isNI ?_) | (with_reducible refine v_isIT ?_) | (with_reducible refine v_isST ?_) | (with_reducible refine v_isSS ?_)
    | (with_reducible refine v_isIS ?_) | (with_reducible refine z_sub ?_) | (with_reducible refine z_gcons ?_) | (with_reducible refine z_gnil ?_)
    | (with_reducible refine z_par ?_) | (with_reducible refine v_par ?_) | (with_reducible refine z_par3 ?_) | (with_reducible refine v_par3 ?_)
    | (with_reducible refine v_ipI ?_) | (with_reducible refine z_for ?_) | (with_reducible refine z_lc ?_) | (with_reducible refine z_yes ?_)
    | (with_reducible refine z_rng1 ?_) | (with_reducible refine z_rng2 ?_) | (with_reducible refine z_list ?_) | (with_reducible refine z_tupi ?_)
    | (with_reducible refine z_stri ?_) | (with_reducible refine v_istr ?_) | (with_reducible refine iteT ?_) | (with_reducible refine iteF ?_)
    | (with_reducible refine z_nT ?_) | (with_reducible refine z_nF ?_) | (with_reducible refine z_cont ?_) | (with_reducible refine z_brk ?_)
    | (with_reducible refine z_retN ?_) | (walk_at "zn"))
  | `(tactic| walk_at "zn") => `(tactic| first
    | ((with_reducible refine' v_ixL ?k1 ?k2 ?_); (case k1 => walk_at "sq"); (case k2 => rfl)) | ((with_reducible refine' v_ixT ?k1 ?k2 ?_); (case k1 => walk_at "st"); (case k2 => rfl)) | ((with_reducible refine' v_lenL ?k1 ?_); (case k1 => walk_at "sq")) | ((with_reducible refine' v_lenT ?k1 ?_); (case k1 => walk_at "st"))
    | ((with_reducible refine' v_slS ?k1 ?_); (case k1 => (rw [enc_len]; exact small (by omega)))) | ((with_reducible refine' v_lenS ?k1 ?_); (case k1 => (rw [enc_len]; exact small (by omega)))) | ((with_reducible refine' v_slL ?k1 ?_); (case k1 => walk_at "sq")) | ((with_reducible refine' z_tyL ?k1 ?_); (case k1 => walk_at "at"))
    | ((with_reducible refine' v_fld ?k1 ?k2 ?k3 ?k4 ?_); (case k1 => walk_at "at"); (case k2 => assumption); (case k3 => assumption); (case k4 => first | assumption | rfl)) | ((with_reducible refine' v_truL ?k1 ?_); (case k1 => walk_at "at")) | ((with_reducible refine' z_wipe ?k1 ?_); (case k1 => rfl)) | ((with_reducible refine' v_gtup ?k1 ?k2 ?_); (case k1 => walk_at "st"); (case k2 => rfl))
    | ((with_reducible refine' z_aug ?k1 ?_); (case k1 => rfl)) | ((with_reducible refine' v_ilist ?k1 ?_); (case k1 => walk_at "sq")) | ((with_reducible refine' v_itup ?k1 ?_); (case k1 => walk_at "st")) | ((with_reducible refine' z_rI ?k1 ?_); (case k1 => first | (show (_ : Int) ≠ _; omega) | exact .inl ⟨by decide, by decide⟩ | exact .inr ⟨by decide, by decide⟩ | exact ⟨by decide, by decide⟩ | exact .inl ⟨by omega, by omega⟩ | exact .inr ⟨by omega, by omega⟩))
    | ((with_reducible refine' z_var ?hv ?_); (case hv => rfl)))
  | `(tactic| walk_at "at") => `(tactic| first
    | assumption
    | ((with_reducible refine' same_at ?k1 ?k2); (case k1 => assumption); (case k2 => walk_at "at"))
    | ((with_reducible refine' but_at ?k1 ?k2 ?k3); (case k1 => assumption); (case k2 => first | assumption | (apply Ne.symm; assumption)); (case k3 => walk_at "at")))
  | `(tactic| walk_at "sq") => `(tactic| first
    | assumption
    | (refine' SqL.of ?k1; (case k1 => walk_at "at"))
    | ((with_reducible refine' Same.seq ?k1 ?k2); (case k1 => assumption); (case k2 => walk_at "sq")))
  | `(tactic| walk_at "st") => `(tactic| first
    | assumption
    | (refine' SqT.of ?k1; (case k1 => walk_at "at"))
    | ((with_reducible refine' same_tup ?k1 ?k2); (case k1 => assumption); (case k2 => walk_at "st")))
  | `(tactic| walk_at "sa") => `(tactic| first
    | assumption
    | exact Same.refl _
    | (refine' Same.trans ?k1 ?k2; (case k2 => assumption); (case k1 => walk_at "sa")))
/-! The law's helpers: other words, marks, plain, same. -/
abbrev s__law_other_words : Stmt := top 52
abbrev N__law_other_words : List Str := ["_law_bag_here", "_law_words", "_law_found", "_law_word_here", "_law_how", "_law_t", "_law_odd"]
theorem sc__law_other_words : FnScope N__law_other_words ["_law_bag_here", "_law_words"] (defScope s__law_other_words) := ⟨rfl, rfl, rfl, by decide +kernel, rfl, by decide +kernel, by decide +kernel⟩
abbrev s__law_marks : Stmt := top 54
abbrev N__law_marks : List Str := ["_law_bag_here", "_law_size", "_law_width", "_law_marks_here", "_law_k", "_law_mark"]
theorem sc__law_marks : FnScope N__law_marks ["_law_bag_here", "_law_size", "_law_width"] (defScope s__law_marks) := ⟨rfl, rfl, rfl, by decide +kernel, rfl, by decide +kernel, by decide +kernel⟩
abbrev s__law_plain : Stmt := top 63
abbrev N__law_plain : List Str := ["_law_thing", "_law_part"]
theorem sc__law_plain : FnScope N__law_plain ["_law_thing"] (defScope s__law_plain) := ⟨rfl, rfl, rfl, by decide +kernel, rfl, by decide +kernel, by decide +kernel⟩
abbrev s__law_same : Stmt := top 64
abbrev N__law_same : List Str := ["_law_told", "_law_due"]
theorem sc__law_same : FnScope N__law_same ["_law_told", "_law_due"] (defScope s__law_same) := ⟨rfl, rfl, rfl, by decide +kernel, rfl, by decide +kernel, by decide +kernel⟩
def spOther : Sp := fun vs H Q _ => ∃ (b l : Addr) (ws : Ws) (L : Nat), vs = [.ref b, .ref l] ∧ 1 ≤ L ∧ L ≤ 6 ∧ H l = some (.lst (wL ws)) ∧ ws.length ≤ 12 ∧ (∀ w ∈ ws, IsW L w) ∧ Bag H b ∧ b ≠ l ∧ ∀ p (us : Ws) H', H p = none → But b H H' → Bag H' b → H' p = some (.lst (wL us)) → us.length = ws.length → (∀ w ∈ us, IsW L w) → Q (.ref p) H'
def spMarks : Sp := fun vs H Q _ => ∃ (b : Addr) (L n : Nat), vs = [.ref b, .int L, .int n] ∧ 1 ≤ L ∧ L ≤ 6 ∧ 1 ≤ n ∧ n ≤ 12 ∧ Bag H b ∧ ∀ p (rs : List V) (ms : List (List Int)) H', H p = none → But b H H' → Bag H' b → H' p = some (.lst rs) → Tups H' rs ms → ms.length ≤ 3 → ms.Nodup →
  (∀ m ∈ ms, ∃ x y : Nat, m = [(x : Int), (y : Int)] ∧ x + 2 ≤ n ∧ 1 ≤ y ∧ y + 2 ≤ 2 * L) → Q (.ref p) H'
def Flat (x : V) : Prop := (∃ i, x = .int i) ∨ ∃ z, x = .str z
def spFlat : Sp := fun vs H Q _ => ∃ x, vs = [x] ∧ Flat x ∧ Q (.bl true) H
def spPlain : Sp := fun vs H Q _ => ∃ (p : Addr) (xs : List V), vs = [.ref p] ∧ H p = some (.tup xs) ∧ (∀ x ∈ xs, Flat x) ∧ Q (.bl true) H
def spSame (K : PySem.W.Frag) : Sp := fun vs H Q _ => ∃ (p : Addr) (xs : List V) (y : V) (d e : PyData), vs = [.ref p, y] ∧ H p = some (.tup xs) ∧ (∀ x ∈ xs, Flat x) ∧ Dp K H (.ref p) d ∧ Dp K H y e ∧ SeqAt.shaped d = true ∧ SeqAt.shaped e = true ∧ Q (.bl (PyData.eqv d e)) H
theorem swap_ok {L : Nat} {w : List Bool} {j : Nat} {x y : Bool} (h : IsW L w) (h1 : w[j]? = some x) (h2 : w[j + 1]? = some y) : (w.take j ++ [y] ++ [x] ++ w.drop (j + 2)).length = 2 * L ∧ (w.take j ++ [y] ++ [x] ++ w.drop (j + 2)).count true = L := by
  obtain ⟨q1, e1⟩ := List.getElem?_eq_some_iff.mp h1
  obtain ⟨q2, e2⟩ := List.getElem?_eq_some_iff.mp h2
  have e : w = w.take j ++ [x] ++ [y] ++ w.drop (j + 2) := by
    have a1 : w.take (j + 1) = w.take j ++ [x] := by rw [List.take_add_one, h1]; rfl
    have a2 : w.take (j + 1 + 1) = w.take (j + 1) ++ [y] := by rw [List.take_add_one, h2]; rfl
    rw [← a1, ← a2, List.take_append_drop]
  have c1 := congrArg List.length e
  have c2 := congrArg (List.count true) e
  rw [h.len] at c1
  rw [h.cnt] at c2
  simp only [List.length_append, List.count_append, List.length_cons, List.length_nil] at c1 c2 ⊢
  constructor <;> omega
section
variable {P : Program} {w : World} {K : PySem.W.Frag} {mg : Str → Option Value} {base : Heap}
theorem plain0 (D : DefAt K mg "_law_plain" ["_law_thing"] s__law_plain) : Glo P w K mg base CX0 0 "_law_plain" ["_law_thing"] (fun _ _ _ _ => False) := by
  obtain ⟨f, fd, F, m, b⟩ := D.ex
  exact ⟨f, fd, ⟨fun _ _ _ _ h => h.elim, fun _ _ _ _ _ _ _ _ _ _ _ _ _ h => h.elim⟩, m, F.kp, b⟩
theorem plain1 (D : DefAt K mg "_law_plain" ["_law_thing"] s__law_plain) (T : Tx K mg) : Glo P w K mg base CX0 1 "_law_plain" ["_law_thing"] spFlat := by
  have GS := plain0 (P := P) (w := w) (base := base) D
  refine D.ok 0 sc__law_plain (fun vs H Q E h => ?_) (fun f cdv A outer s H vs Q E hr h => ?_)
  · obtain ⟨x, rfl, _⟩ := h
    rfl
  · obtain ⟨x, rfl, hx, q⟩ := h
    refine ⟨_, (pss_cons (ps_if (pt_val (pe_callB call_isi (by rfl) T.n_isinstance (by decide +kernel) (pa_cons (pv 0) (pa_cons (pe_bltn (v := .ty "tuple") (by rfl) T.n_tuple (by decide +kernel) rfl) pa_nil)))) (pss_cons (ps_for PassesOwn.never rfl (pi_tup (pv 0)) (pg_name (i := 1) sc__law_plain.nd rfl (Or.inl rfl))
          (pss_one (ps_if (pt_not (pt_val (pe_g GS (hr.mono (by omega)) rfl pass0 (pa_cons (pv 1) pa_nil)))) (pss_one (ps_ret pe_bl)) pss_nil)))
        (pss_one (ps_ret pe_bl))) pss_nil)
      (pss_one (ps_ret (pe_or (pe_callB call_isi (by rfl) T.n_isinstance (by decide +kernel) (pa_cons (pv 0) (pa_cons (pe_bltn (v := .ty "str") (by rfl) T.n_str (by decide +kernel) rfl) pa_nil))) (pe_one (pe_and (pe_callB call_isi (by rfl) T.n_isinstance (by decide +kernel) (pa_cons (pv 0) (pa_cons (pe_bltn (v := .ty "int") (by rfl) T.n_int (by decide +kernel) rfl) pa_nil))) (pe_one (pe_not (pe_callB call_isi (by rfl) T.n_isinstance (by decide +kernel) (pa_cons (pv 0) (pa_cons (pe_bltn (v := .ty "bool") (by rfl) T.n_bool (by decide +kernel) rfl) pa_nil))))))))))), ?_⟩
    rcases hx with ⟨i, rfl⟩ | ⟨z, rfl⟩
    · walk_at "zz"
      exact q
    · walk_at "zz"
      exact q
theorem ok__law_plain (D : DefAt K mg "_law_plain" ["_law_thing"] s__law_plain) (T : Tx K mg) : Glo P w K mg base CX0 2 "_law_plain" ["_law_thing"] spPlain := by
  have GS := plain1 (P := P) (w := w) (base := base) D T
  refine D.ok 1 sc__law_plain (fun vs H Q E h => ?_) (fun f cdv A outer s H vs Q E hr h => ?_)
  · obtain ⟨x, xs, rfl, _⟩ := h
    rfl
  · obtain ⟨p, xs, rfl, hp, hx, q⟩ := h
    refine ⟨_, (pss_cons (ps_if (pt_val (pe_callB call_isi (by rfl) T.n_isinstance (by decide +kernel) (pa_cons (pv 0) (pa_cons (pe_bltn (v := .ty "tuple") (by rfl) T.n_tuple (by decide +kernel) rfl) pa_nil)))) (pss_cons (ps_for PassesOwn.never rfl (pi_tup (pv 0)) (pg_name (i := 1) sc__law_plain.nd rfl (Or.inl rfl))
          (pss_one (ps_if (pt_not (pt_val (pe_g GS (hr.mono (by omega)) rfl pass0 (pa_cons (pv 1) pa_nil)))) (pss_one (ps_ret pe_bl)) pss_nil)))
        (pss_one (ps_ret pe_bl))) pss_nil)
      (pss_one (ps_ret (pe_or (pe_callB call_isi (by rfl) T.n_isinstance (by decide +kernel) (pa_cons (pv 0) (pa_cons (pe_bltn (v := .ty "str") (by rfl) T.n_str (by decide +kernel) rfl) pa_nil))) (pe_one (pe_and (pe_callB call_isi (by rfl) T.n_isinstance (by decide +kernel) (pa_cons (pv 0) (pa_cons (pe_bltn (v := .ty "int") (by rfl) T.n_int (by decide +kernel) rfl) pa_nil))) (pe_one (pe_not (pe_callB call_isi (by rfl) T.n_isinstance (by decide +kernel) (pa_cons (pv 0) (pa_cons (pe_bltn (v := .ty "bool") (by rfl) T.n_bool (by decide +kernel) rfl) pa_nil))))))))))), ?_⟩
    walk_at "zz"
    refine v_isTT hp ?_
    walk_at "zz"
    refine v_forT (xs := xs) (fun i σ H' => ∃ c, σ = [some (.ref p), c] ∧ H' = H) ?_ ?_ ?_ ?_
    · exact ⟨_, rfl, rfl⟩
    · rintro i σ H' ⟨c, rfl, rfl⟩
      exact SqT.of hp
    · rintro i x σ H' e ⟨c, rfl, rfl⟩
      walk_at "zz"
      refine ⟨x, rfl, hx x (List.mem_of_getElem? e), ?_⟩
      walk_at "zz"
      exact ⟨_, rfl, rfl⟩
    · rintro σ H' ⟨c, rfl, rfl⟩
      walk_at "zz"
      exact q
theorem ok__law_same (D : DefAt K mg "_law_same" ["_law_told", "_law_due"] s__law_same) (T : Tx K mg) (G__law_plain : Glo P w K mg base CX0 2 "_law_plain" ["_law_thing"] spPlain) : Glo P w K mg base CX0 3 "_law_same" ["_law_told", "_law_due"] (spSame K) := by
  refine D.ok 2 sc__law_same (fun vs H Q E h => ?_) (fun f cdv A outer s H vs Q E hr h => ?_)
  · obtain ⟨p, xs, y, d, e, rfl, _⟩ := h
    rfl
  · obtain ⟨p, xs, y, d, e, rfl, hp, hx, hd, he, s1, s2, q⟩ := h
    refine ⟨_, (pss_one (ps_ret (pe_and (pe_g G__law_plain (hr.mono (by decide)) rfl pass0 (pa_cons (pv 0) pa_nil)) (pe_one (pe_cmpR (op_eqD (hu64 hr)) (pv 0) (pv 1) (nomark _)))))), ?_⟩
    walk_at "zz"
    refine ⟨p, xs, rfl, hp, hx, ?_⟩
    walk_at "zz"
    refine ⟨d, e, hd, he, s1, s2, ?_⟩
    walk_at "zz"
    exact q
theorem ok__law_marks (D : DefAt K mg "_law_marks" ["_law_bag_here", "_law_size", "_law_width"] s__law_marks) (T : Tx K mg) (G__law_take : Glo P w K mg base CX0 1 "_law_take" ["_law_bag_here", "_law_many"] spTake) (G__law_pick : Glo P w K mg base CX0 2 "_law_pick" ["_law_bag_here", "_law_some"] spPick) :
    Glo P w K mg base CX0 3 "_law_marks" ["_law_bag_here", "_law_size", "_law_width"] spMarks := by
  refine D.ok 2 sc__law_marks (fun vs H Q E h => ?_) (fun f cdv A outer s H vs Q E hr h => ?_)
  · obtain ⟨b, L, n, rfl, _⟩ := h
    rfl
  · obtain ⟨b, L, n, rfl, l1, l6, n1, n12, B, q⟩ := h
    refine ⟨_, (pss_cons (ps_set (i := 3) sc__law_marks.nd rfl (Or.inl rfl) (pe_lst pa_nil))
      (pss_cons (ps_if (PW.pt (pw_and (pt_cmpR op_gt (pv 1) pe_int (nomark _)) (pw_and1 (pt_cmpR op_gt (pv 2) pe_int (nomark _))))) (pss_one (ps_for PassesOwn.never rfl (pi_range1 (by rfl) T.n_range (pa_cons (pe_g G__law_pick (hr.mono (by decide)) rfl pass0 (pa_cons (pv 0) (pa_cons (pe_lst (pa_cons pe_int (pa_cons pe_int (pa_cons pe_int (pa_cons pe_int pa_nil))))) pa_nil))) pa_nil)) (pg_name (i := 4) sc__law_marks.nd rfl (Or.inl rfl))
          (pss_cons (ps_set (i := 5) sc__law_marks.nd rfl (Or.inl rfl) (pe_tup (pa_cons (pe_g G__law_take (hr.mono (by decide)) rfl pass0 (pa_cons (pv 0) (pa_cons (pe_op op_sub (pv 2) pe_int) pa_nil))) (pa_cons (pe_op op_add pe_int (pe_g G__law_take (hr.mono (by decide)) rfl pass0 (pa_cons (pv 0) (pa_cons (pe_op op_sub (pe_op op_mul pe_int (pv 1)) pe_int) pa_nil)))) pa_nil))))
          (pss_one (ps_if (pt_cmpR (op_notInD (hu65 hr)) (pv 5) (pv 3) (by with_unfolding_all rfl)) (pss_one (ps_expr (pe_bm PySem.F.plainAttrs_list PySem.F.slot_list_append PySem.F.type_list_append mt_append (pv 3) (pa_cons (pv 5) pa_nil)))) pss_nil))))) pss_nil)
      (pss_one (ps_ret (pv 3))))), ?_⟩
    walk_at "zz"
    refine v_lst fun ml H1 nm s1 e1 => ?_
    have nb : ml ≠ b := fun e => by rw [e] at nm; exact B.ne nm rfl
    have none_ : Q (.ref ml) H1 := q ml [] [] H1 nm (but_of s1) (B.same s1) e1 .nil (by simp) (by simp) (fun m hm => by cases hm)
    walk_at "zz"
    refine v_if (fun h1 => ?_) (fun h1 => ?_)
    · walk_at "zz"
      refine v_if (fun h2 => ?_) (fun h2 => ?_)
      · have hL : 2 ≤ L := by
          have : (1 : Int) < (L : Int) := by simpa using h1
          omega
        have hn : 2 ≤ n := by
          have : (1 : Int) < (n : Int) := by simpa using h2
          omega
        walk_at "zz"
        refine v_lst fun l H2 n2 s2 e2 => ?_
        walk_at "zz"
        refine ⟨b, l, _, rfl, e2, (B.same s1).ne n2, by decide, by decide, (B.same s1).same s2, fun v H3 hv b3 B3 => ?_⟩
        have hv' : ∃ k : Nat, v = .int k ∧ k ≤ 3 := by
          simp only [List.mem_cons, List.mem_nil_iff, or_false] at hv
          rcases hv with h | h | h | h
          · exact ⟨0, h, by omega⟩
          · exact ⟨0, h, by omega⟩
          · exact ⟨1, h, by omega⟩
          · exact ⟨3, h, by omega⟩
        obtain ⟨k, rfl, hk⟩ := hv'
        walk_at "zz"
        refine v_rng1 k rfl (by omega) ?_
        refine v_for0 (fun i σ H' => ∃ (rs : List V) (ms : List (List Int)) (c1 c2 : Option V), σ = [some (.ref b), some (.int L), some (.int n), some (.ref ml), c1, c2] ∧ But b H H' ∧ Bag H' b ∧ H' ml = some (.lst rs) ∧ Tups H' rs ms ∧ ms.length ≤ i ∧ ms.Nodup ∧
          ∀ m ∈ ms, ∃ x y : Nat, m = [(x : Int), (y : Int)] ∧ x + 2 ≤ n ∧ 1 ≤ y ∧ y + 2 ≤ 2 * L) ?_ ?_ ?_
        · exact ⟨[], [], _, _, rfl, but_trans (but_trans (but_of s1) (but_of s2)) b3, B3, b3 _ _ nb (s2 _ _ e1), .nil, by simp, by simp, fun m hm => by cases hm⟩
        · rintro i σ H4 hi ⟨rs, ms, c1, c2, rfl, b4, B4, e4, t4, l4, d4, a4⟩
          obtain ⟨bx, by_, bz, hbb⟩ := id B4
          walk_at "zz"
          refine ⟨b, _, rfl, by omega, by have : (12 : Int) ≤ 10 ^ 30 := by decide
                                          omega, B4, fun u H5 u0 u1 b5 B5 => ?_⟩
          walk_at "zz"
          refine ⟨b, _, rfl, by omega, by have : (12 : Int) ≤ 10 ^ 30 := by decide
                                          omega, B5, fun u' H6 u2 u3 b6 B6 => ?_⟩
          walk_at "zz"
          refine v_tup fun tp H7 n7 s7 e7 => ?_
          obtain ⟨x, rfl⟩ := Int.eq_ofNat_of_zero_le u0
          obtain ⟨y, rfl⟩ := Int.eq_ofNat_of_zero_le u2
          have e7' : H7 tp = some (.tup ([(x : Int), ((1 + y : Nat) : Int)].map .int)) := by
            rw [e7]
            simp
          have e5 := s7 _ _ (b6 _ _ nb (b5 _ _ nb e4))
          have ht : ∀ H5 H5', But b H5 H5' → Bag H5 b → Tups H5 rs ms → Tups H5' rs ms := fun H5 H5' bb ⟨z1, z2, z3, hz⟩ t => t.but bb hz
          have t7 : Tups H7 rs ms := (ht _ _ b6 B5 (ht _ _ b5 B4 t4)).same s7
          have b7 : But b H H7 := but_trans b4 (but_trans b5 (but_trans b6 (but_of s7)))
          walk_at "zz"
          refine v_notInT e7' e5 t7 ?_
          walk_at "zz"
          refine v_if (fun h5 => ?_) (fun h5 => ?_)
          · walk_at "zz"
            refine v_app e5 (by rw [t7.len]; omega) fun H8 b8 e8 => ?_
            have h5' : [(x : Int), ((1 + y : Nat) : Int)] ∉ ms := by simpa using h5
            refine ⟨_, _, _, _, rfl, but_but b7 nm b8, (B6.same s7).but nb.symm b8, e8, (t7.snoc e7').but b8 e5, by simp; omega, ?_, fun m hm => ?_⟩
            · rw [List.nodup_append]
              exact ⟨d4, by simp, fun a ha c hc e => by rw [List.mem_singleton.mp hc] at e; exact h5' (e ▸ ha)⟩
            · rcases List.mem_append.mp hm with h | h
              · exact a4 m h
              · exact ⟨x, 1 + y, List.mem_singleton.mp h, by omega, by omega, by omega⟩
          · walk_at "zz"
            exact ⟨_, _, _, _, rfl, b7, B6.same s7, e5, t7, by omega, d4, a4⟩
        · rintro σ H4 ⟨rs, ms, c1, c2, rfl, b4, B4, e4, t4, l4, d4, a4⟩
          walk_at "zz"
          exact q ml rs ms H4 nm b4 B4 e4 t4 (by omega) d4 a4
      · walk_at "zz"
        exact none_
    · walk_at "zz"
      exact none_
theorem ok__law_other_words (D : DefAt K mg "_law_other_words" ["_law_bag_here", "_law_words"] s__law_other_words) (T : Tx K mg) (G__law_take : Glo P w K mg base CX0 1 "_law_take" ["_law_bag_here", "_law_many"] spTake)
    (G__law_word : Glo P w K mg base CX0 2 "_law_word" ["_law_bag_here", "_law_size"] spWord) (G__law_is_word : Glo P w K mg base CX0 1 "_law_is_word" ["_law_word_here"] spIsWord) :
    Glo P w K mg base CX0 3 "_law_other_words" ["_law_bag_here", "_law_words"] spOther := by
  refine D.ok 2 sc__law_other_words (fun vs H Q E h => ?_) (fun f cdv A outer s H vs Q E hr h => ?_)
  · obtain ⟨b, l, ws, L, rfl, _⟩ := h
    rfl
  · obtain ⟨b, l, ws, L, rfl, l1, l6, hl, h12, hw, B, nbl, q⟩ := h
    refine ⟨_, (pss_cons (ps_set (i := 2) sc__law_other_words.nd rfl (Or.inl rfl) (pe_lst pa_nil))
      (pss_cons (ps_for PassesOwn.never rfl (pi_list (pv 1)) (pg_name (i := 3) sc__law_other_words.nd rfl (Or.inl rfl))
        (pss_cons (ps_set (i := 4) sc__law_other_words.nd rfl (Or.inl rfl) (pe_g G__law_take (hr.mono (by decide)) rfl pass0 (pa_cons (pv 0) (pa_cons pe_int pa_nil))))
        (pss_one (ps_if (pt_cmpR op_lt (pv 4) pe_int (nomark _)) (pss_one (ps_expr (pe_bm PySem.F.plainAttrs_list PySem.F.slot_list_append PySem.F.type_list_append mt_append (pv 2) (pa_cons (pe_g G__law_word (hr.mono (by decide)) rfl pass0 (pa_cons (pv 0) (pa_cons (pe_op op_fdivW (pe_callB (lenK (K := K) rfl) (by rfl) T.n_len (by decide +kernel) (pa_cons (pv 3) pa_nil)) pe_int) pa_nil))) pa_nil)))) (pss_one (ps_if (pt_cmpR op_eq (pv 4) pe_int (nomark _)) (pss_cons (ps_set (i := 5) sc__law_other_words.nd rfl (Or.inl rfl) (pe_op op_add pe_int (pe_g G__law_take (hr.mono (by decide)) rfl pass0 (pa_cons (pv 0) (pa_cons (pe_op op_sub (pe_callB (lenK (K := K) rfl) (by rfl) T.n_len (by decide +kernel) (pa_cons (pv 3) pa_nil)) pe_int) pa_nil)))))
            (pss_cons (ps_set (i := 6) sc__law_other_words.nd rfl (Or.inl rfl) (pe_op op_addS (pe_op op_addS (pe_op op_addS (pe_slice sl_str (pv 3) po_none (po_some (pe_op op_sub (pv 5) pe_int))) (pe_ix ix_str (pv 3) (pv 5) (fun _ _ => rfl))) (pe_ix ix_str (pv 3) (pe_op op_sub (pv 5) pe_int) (fun _ _ => rfl))) (pe_slice sl_str (pv 3) (po_some (pe_op op_add (pv 5) pe_int)) po_none)))
            (pss_one (ps_expr (pe_bm PySem.F.plainAttrs_list PySem.F.slot_list_append PySem.F.type_list_append mt_append (pv 2) (pa_cons (pe_ifExp (pt_val (pe_g G__law_is_word (hr.mono (by decide)) rfl pass0 (pa_cons (pv 6) pa_nil))) (pv 6) (pv 3)) pa_nil)))))) (pss_one (ps_expr (pe_bm PySem.F.plainAttrs_list PySem.F.slot_list_append PySem.F.type_list_append mt_append (pv 2) (pa_cons (pv 3) pa_nil))))))))))
      (pss_one (ps_ret (pv 2))))), ?_⟩
    walk_at "zz"
    refine v_lst fun m H1 nm s1 e1 => ?_
    have nb : m ≠ b := fun e => by rw [e] at nm; exact B.ne nm rfl
    walk_at "zz"
    refine v_forL (xs := wL ws) (fun i σ H' => ∃ (us : Ws) (c1 c2 c3 c4 : Option V), σ = [some (.ref b), some (.ref l), some (.ref m), c1, c2, c3, c4] ∧ But b H H' ∧ Bag H' b ∧ H' m = some (.lst (wL us)) ∧ us.length = i ∧ ∀ u ∈ us, IsW L u) ?_ ?_ ?_ ?_
    · exact ⟨[], _, _, _, _, rfl, but_of s1, B.same s1, e1, rfl, fun u hu => by cases hu⟩
    · rintro i σ H2 ⟨us, c1, c2, c3, c4, rfl, b2, B2, e2, _⟩
      exact SqL.of (b2 _ _ nbl.symm hl)
    · rintro i x σ H2 hx ⟨us, c1, c2, c3, c4, rfl, b2, B2, e2, hlen, hall⟩
      obtain ⟨v, hv, rfl⟩ := wL_of hx
      have Wv := hw v (List.mem_of_getElem? hv)
      have lv := Wv.len
      have hi : i < ws.length := (List.getElem?_eq_some_iff.mp hv).1
      have fin : ∀ (u : List Bool) H5 (c2 c3 c4 : Option V), IsW L u → H5 m = some (.lst (wL us)) → But b H H5 → Bag H5 b → rAppend (.ref m) [encV u] H5 fun _ H' => ∃ (us : Ws) (d1 d2 d3 d4 : Option V), [some (V.ref b), some (.ref l), some (.ref m), some (encV v), c2, c3, c4] = [some (.ref b), some (.ref l), some (.ref m), d1, d2, d3, d4] ∧ But b H H' ∧ Bag H' b ∧ H' m = some (.lst (wL us)) ∧ us.length = i + 1 ∧ ∀ u ∈ us, IsW L u := by
        intro u H5 c2 c3 c4 hu e5 b5 B5
        refine v_app e5 (by rw [wL_len]; omega) fun H6 b6 e6 => ⟨us ++ [u], _, _, _, _, rfl, but_but b5 nm b6, B5.but nb.symm b6, by rw [e6]; simp [wL], by simp [hlen], fun u' hu' => ?_⟩
        rcases List.mem_append.mp hu' with h | h
        · exact hall u' h
        · rw [List.mem_singleton.mp h]
          exact hu
      walk_at "zz"
      refine ⟨b, 5, rfl, by omega, by decide, B2, fun k H3 k0 k1 b3 B3 => ?_⟩
      have e3 := b3 _ _ nb e2
      have b3' := but_trans b2 b3
      walk_at "zz"
      refine v_if (fun h1 => ?_) (fun h1 => ?_)
      · walk_at "zz"
        refine ⟨b, L, ?_, l1, l6, B3, fun u H4 hu b4 B4 => ?_⟩
        · rw [enc_len, lv]
          simp
        walk_at "zz"
        exact fin u H4 _ _ _ hu (b4 _ _ nb e3) (but_trans b3' b4) B4
      · walk_at "zz"
        refine v_if (fun h2 => ?_) (fun h2 => ?_)
        · walk_at "zz"
          refine ⟨b, _, rfl, by rw [enc_len]; omega, by rw [enc_len]; have : (12 : Int) ≤ 10 ^ 30 := by decide
                                                        omega, B3, fun k2 H4 k3 k4 b4 B4 => ?_⟩
          rw [enc_len] at k4
          obtain ⟨j, rfl⟩ := Int.eq_ofNat_of_zero_le k3
          have e4 := b4 _ _ nb e3
          have b4' := but_trans b3' b4
          have hj1 : v[j]? = some (v[j]'(by omega)) := List.getElem?_eq_getElem _
          have hj2 : v[j + 1]? = some (v[j + 1]'(by omega)) := List.getElem?_eq_getElem _
          have i1 : (1 : Int) + (j : Int) = ((j + 1 : Nat) : Int) := by omega
          have i2 : ((j + 1 : Nat) : Int) - 1 = (j : Nat) := by omega
          have i3 : ((j + 1 : Nat) : Int) + 1 = ((j + 2 : Nat) : Int) := by omega
          have t1 : ∀ u' : List Bool, (enc u').length = u'.length := enc_len
          walk_at "zz"
          rw [i1, i2, cut_take]
          refine v_ixE hj2 (by omega) ?_
          refine v_addS (by rw [enc_one, enc_len, enc_len, List.length_take]; simp; omega) ?_
          rw [enc_one, enc_app]
          walk_at "zz"
          rw [i2]
          refine v_ixE hj1 (by omega) ?_
          walk_at "zz"
          refine v_addS (by rw [enc_one, enc_len, enc_len]; simp; omega) ?_
          rw [enc_one, enc_app]
          walk_at "zz"
          rw [i3, cut_drop]
          refine v_addS (by rw [enc_len, enc_len]; simp; omega) ?_
          rw [enc_app]
          obtain ⟨g1, g2⟩ := swap_ok Wv hj1 hj2
          generalize hod : v.take j ++ [v[j + 1]'(by omega)] ++ [v[j]'(by omega)] ++ v.drop (j + 2) = od at *
          walk_at "zz"
          refine ⟨od, rfl, by omega, fun bb hbb => ?_⟩
          walk_at "zz"
          refine v_if (fun h6 => ?_) (fun h6 => ?_)
          · walk_at "zz"
            exact fin od H4 _ _ _ ⟨g1, g2, hbb.mp h6⟩ e4 b4' B4
          · walk_at "zz"
            exact fin v H4 _ _ _ Wv e4 b4' B4
        · walk_at "zz"
          exact fin v H3 _ _ _ Wv e3 b3' B3
    · rintro σ H2 ⟨us, c1, c2, c3, c4, rfl, b2, B2, e2, hlen, hall⟩
      walk_at "zz"
      rw [wL_len] at hlen
      exact q m us H2 nm b2 B2 e2 hlen hall
end
end Sk
namespace Sk
open PySem PySem.Spec PyProof.Rows L2
/-! step words: z one step, zz as far as it goes, at: what stands at an address -/
local macro_rules
  | `(tactic| walk_at "zz") => `(tactic| repeat first
    | (with_reducible refine z_seq ?_) | (with_reducible refine z_asg ?_) | (with_reducible refine z_gname ?_) | (with_reducible refine z_var (by with_unfolding_all rfl) ?_)
    | (with_reducible refine z_c ?_) | (with_reducible refine z_op ?_) | (with_reducible refine z_cons ?_) | (with_reducible refine z_nil ?_)
    | (with_reducible refine z_next ?_) | (with_reducible refine z_call ?_) | (with_reducible refine z_drop ?_) | (with_reducible refine z_ret ?_)
    | (with_reducible refine z_ifs ?_) | (with_reducible refine z_un ?_) | (with_reducible refine z_chain ?_) | (with_reducible refine z_rI0 ?_)
    | (with_reducible refine z_eqI ?_) | (with_reducible refine z_neI ?_) | (with_reducible refine z_eqS ?_) | (with_reducible refine z_neS ?_)
    | (with_reducible refine z_eqB ?_) | (with_reducible refine z_neB ?_) | (with_reducible refine z_test ?_) | (with_reducible refine z_tB ?_)
    | (with_reducible refine z_bl ?_) | (with_reducible refine z_and ?_) | (with_reducible refine z_or ?_) | (with_reducible refine z_not ?_)
    | (with_reducible refine z_andV ?_) | (with_reducible refine z_orV ?_) | (with_reducible refine z_notV ?_) | (with_reducible refine z_if ?_)
    | (with_reducible refine z_cb ?_) | (with_reducible refine z_part ?_) | (with_reducible refine z_noPart ?_) | (with_reducible refine z_int ?_)
    | (with_reducible refine z_sl ?_) | (with_reducible refine z_fld ?_) | (with_reducible refine z_tup ?_) | (with_reducible refine z_lst ?_)
    | (with_reducible refine z_bm ?_) | (with_reducible refine z_bm0 ?_) | (with_reducible refine z_fldS ?_) | (with_reducible refine z_rU ?_)
    | (with_reducible refine v_intI ?_) | (with_reducible refine v_intB ?_) | (with_reducible refine v_abs ?_) | (with_reducible refine v_isN ?_)
    | (with_reducible refine v_notN ?_) | (with_reducible refine v_cnt ?_) | (with_reducible refine z_make ?_) | (with_reducible refine z_tru ?_)
    | (with_reducible refine z_m1 ?_) | (with_reducible refine z_strI ?_) | (with_reducible refine z_zS ?_) | (with_reducible refine z_eS ?_)
    | (with_reducible refine v_isII ?_) | (with_reducible refine v_isIB ?_) | (with_reducible refine v_isBI ?_) | (with_reducible refine v_isBB ?_)
    | (with_reducible refine v_isNI ?_) | (with_reducible refine v_isIT ?_) | (with_reducible refine v_isST ?_) | (with_reducible refine v_isSS ?_)
    | (with_reducible refine v_isIS ?_) | (with_reducible refine z_sub ?_) | (with_reducible refine z_gcons ?_) | (with_reducible refine z_gnil ?_)
    | (with_reducible refine z_par ?_) | (with_reducible refine v_par ?_) | (with_reducible refine z_par3 ?_) | (with_reducible refine v_par3 ?_)
    | (with_reducible refine v_ipI ?_) | (with_reducible refine z_for ?_) | (with_reducible refine z_lc ?_) | (with_reducible refine z_yes ?_)
    | (with_reducible refine z_rng1 ?_) | (with_reducible refine z_rng2 ?_) | (with_reducible refine z_list ?_) | (with_reducible refine z_tupi ?_)
    | (with_reducible refine z_stri ?_) | (with_reducible refine v_istr ?_) | (with_reducible refine iteT ?_) | (with_reducible refine iteF ?_)
    | (with_reducible refine z_nT ?_) | (with_reducible refine z_nF ?_) | (with_reducible refine z_cont ?_) | (with_reducible refine z_brk ?_)
    | (with_reducible refine z_retN ?_) | (walk_at "zn"))
  | `(tactic| walk_at "zn") => `(tactic| first
    | ((with_reducible refine' v_ixL ?k1 ?k2 ?_); (case k1 => walk_at "sq"); (case k2 => rfl)) | ((with_reducible refine' v_ixT ?k1 ?k2 ?_); (case k1 => walk_at "st"); (case k2 => rfl)) | ((with_reducible refine' v_lenL ?k1 ?_); (case k1 => walk_at "sq")) | ((with_reducible refine' v_lenT ?k1 ?_); (case k1 => walk_at "st"))
    | ((with_reducible refine' v_slS ?k1 ?_); (case k1 => (rw [enc_len]; exact small (by omega)))) | ((with_reducible refine' v_lenS ?k1 ?_); (case k1 => (rw [enc_len]; exact small (by omega)))) | ((with_reducible refine' v_slL ?k1 ?_); (case k1 => walk_at "sq")) | ((with_reducible refine' z_tyL ?k1 ?_); (case k1 => walk_at "at"))
    | ((with_reducible refine' v_fld ?k1 ?k2 ?k3 ?k4 ?_); (case k1 => walk_at "at"); (case k2 => assumption); (case k3 => assumption); (case k4 => first | assumption | rfl)) | ((with_reducible refine' v_truL ?k1 ?_); (case k1 => walk_at "at")) | ((with_reducible refine' z_wipe ?k1 ?_); (case k1 => rfl)) | ((with_reducible refine' v_gtup ?k1 ?k2 ?_); (case k1 => walk_at "st"); (case k2 => rfl))
    | ((with_reducible refine' z_aug ?k1 ?_); (case k1 => rfl)) | ((with_reducible refine' v_ilist ?k1 ?_); (case k1 => walk_at "sq")) | ((with_reducible refine' v_itup ?k1 ?_); (case k1 => walk_at "st")) | ((with_reducible refine' z_rI ?k1 ?_); (case k1 => first | (show (_ : Int) ≠ _; omega) | exact .inl ⟨by decide, by decide⟩ | exact .inr ⟨by decide, by decide⟩ | exact ⟨by decide, by decide⟩ | exact .inl ⟨by omega, by omega⟩ | exact .inr ⟨by omega, by omega⟩))
    | ((with_reducible refine' z_var ?hv ?_); (case hv => rfl)))
  | `(tactic| walk_at "at") => `(tactic| first
    | assumption
    | ((with_reducible refine' same_at ?k1 ?k2); (case k1 => assumption); (case k2 => walk_at "at"))
    | ((with_reducible refine' but_at ?k1 ?k2 ?k3); (case k1 => assumption); (case k2 => first | assumption | (apply Ne.symm; assumption)); (case k3 => walk_at "at")))
  | `(tactic| walk_at "sq") => `(tactic| first
    | assumption
    | (refine' SqL.of ?k1; (case k1 => walk_at "at"))
    | ((with_reducible refine' Same.seq ?k1 ?k2); (case k1 => assumption); (case k2 => walk_at "sq")))
  | `(tactic| walk_at "st") => `(tactic| first
    | assumption
    | (refine' SqT.of ?k1; (case k1 => walk_at "at"))
    | ((with_reducible refine' same_tup ?k1 ?k2); (case k1 => assumption); (case k2 => walk_at "st")))
  | `(tactic| walk_at "sa") => `(tactic| first
    | assumption
    | exact Same.refl _
    | (refine' Same.trans ?k1 ?k2; (case k2 => assumption); (case k1 => walk_at "sa")))
/-! The program's helpers, without cards. -/
abbrev s_is_whole : Stmt := top 13
abbrev N_is_whole : List Str := ["thing", "low", "high"]
theorem sc_is_whole : FnScope N_is_whole ["thing", "low", "high"] (defScope s_is_whole) := ⟨rfl, rfl, rfl, by decide +kernel, rfl, by decide +kernel, by decide +kernel⟩
abbrev s_word_fault : Stmt := top 14
abbrev N_word_fault : List Str := ["thing", "letter", "above"]
theorem sc_word_fault : FnScope N_word_fault ["thing"] (defScope s_word_fault) := ⟨rfl, rfl, rfl, by decide +kernel, rfl, by decide +kernel, by decide +kernel⟩
abbrev s_is_ink : Stmt := top 23
abbrev N_is_ink : List Str := ["thing"]
theorem sc_is_ink : FnScope N_is_ink ["thing"] (defScope s_is_ink) := ⟨rfl, rfl, rfl, by decide +kernel, rfl, by decide +kernel, by decide +kernel⟩
abbrev s_is_mark : Stmt := top 19
abbrev N_is_mark : List Str := ["thing", "width", "size"]
theorem sc_is_mark : FnScope N_is_mark ["thing", "width", "size"] (defScope s_is_mark) := ⟨rfl, rfl, rfl, by decide +kernel, rfl, by decide +kernel, by decide +kernel⟩
abbrev s_row_fault : Stmt := top 24
abbrev N_row_fault : List Str := ["row", "steps", "ink"]
theorem sc_row_fault : FnScope N_row_fault ["row", "steps"] (defScope s_row_fault) := ⟨rfl, rfl, rfl, by decide +kernel, rfl, by decide +kernel, by decide +kernel⟩
abbrev s_spot_of : Stmt := top 37
abbrev N_spot_of : List Str := ["word", "boundary", "p", "q", "downs"]
theorem sc_spot_of : FnScope N_spot_of ["word", "boundary", "p", "q"] (defScope s_spot_of) := ⟨rfl, rfl, rfl, by decide +kernel, rfl, by decide +kernel, by decide +kernel⟩
def spWhole : Sp := fun vs H Q _ => ∃ (x : V) (lo hi : Int), vs = [x, .int lo, .int hi] ∧ ((∃ i, x = .int i ∧ Q (.bl (decide (lo ≤ i) && decide (i ≤ hi))) H) ∨ (((∃ b, x = .bl b) ∨ x = .non) ∧ Q (.bl false) H))
def spFault : Sp := fun vs H Q _ => ∃ (w : List Bool) (L : Nat), vs = [encV w] ∧ 1 ≤ L ∧ L ≤ 6 ∧ IsW L w ∧ ∀ H', Same H H' → Q .non H'
def spIsInk : Sp := fun vs H Q _ => ∃ i : Int, vs = [.int i] ∧ Q (.bl true) H
def spIsMark : Sp := fun vs H Q _ => ∃ (p : Addr) (x y L n : Nat), vs = [.ref p, .int n, .int L] ∧ H p = some (.tup [.int x, .int y]) ∧ x + 2 ≤ n ∧ 1 ≤ y ∧ y + 2 ≤ 2 * L ∧ ∀ H', Same H H' → Q (.bl true) H'
def spRowF : Sp := fun vs H Q _ => ∃ (p : Addr) (is : List Int) (s L : Nat), vs = [.ref p, .int s] ∧ Sq H p is ∧ is.length = 2 * L ∧ 1 ≤ L ∧ L ≤ 6 ∧ (s = 0 ∨ s = 2 * L) ∧ ∀ H', Same H H' → Q .non H'
def spSpotOf : Sp := fun vs H Q _ => ∃ (w : List Bool) (t p q : Nat), vs = [encV w, .int t, .int p, .int q] ∧ w.length ≤ 1000 ∧ t ≤ w.length ∧ p ≤ 100 ∧ q ≤ 100 ∧ Q (.int ((p * (w.take t).count true + q * (t - (w.take t).count true) : Nat))) H
section
variable {P : Program} {w : World} {K : PySem.W.Frag} {mg : Str → Option Value} {base : Heap}
theorem ok_is_whole (D : DefAt K mg "is_whole" ["thing", "low", "high"] s_is_whole) (T : Tx K mg) : Glo P w K mg base CX0 1 "is_whole" ["thing", "low", "high"] spWhole := by
  refine D.ok 0 sc_is_whole (fun vs H Q E h => ?_) (fun f cdv A outer s H vs Q E hr h => ?_)
  · obtain ⟨x, lo, hi, rfl, _⟩ := h
    rfl
  · obtain ⟨x, lo, hi, rfl, h⟩ := h
    refine ⟨_, (pss_one (ps_ret (pe_and (pe_callB call_isi (by rfl) T.n_isinstance (by decide +kernel) (pa_cons (pv 0) (pa_cons (pe_bltn (v := .ty "int") (by rfl) T.n_int (by decide +kernel) rfl) pa_nil))) (pe_and (pe_not (pe_callB call_isi (by rfl) T.n_isinstance (by decide +kernel) (pa_cons (pv 0) (pa_cons (pe_bltn (v := .ty "bool") (by rfl) T.n_bool (by decide +kernel) rfl) pa_nil)))) (pe_one (pe_chain op_le op_le (pv 1) (pv 0) (pv 2))))))), ?_⟩
    rcases h with ⟨i, rfl, q⟩ | ⟨h, q⟩
    · walk_at "zz"
      refine v_if (fun h1 => ?_) (fun h1 => ?_)
      · walk_at "zz"
        rw [h1, Bool.true_and] at q
        exact q
      · rw [h1, Bool.false_and] at q
        exact q
    · rcases h with ⟨b, rfl⟩ | rfl
      · walk_at "zz"
        exact q
      · walk_at "zz"
        exact q
theorem ok_is_ink (D : DefAt K mg "is_ink" ["thing"] s_is_ink) (T : Tx K mg) : Glo P w K mg base CX0 1 "is_ink" ["thing"] spIsInk := by
  refine D.ok 0 sc_is_ink (fun vs H Q E h => ?_) (fun f cdv A outer s H vs Q E hr h => ?_)
  · obtain ⟨i, rfl, _⟩ := h
    rfl
  · obtain ⟨i, rfl, q⟩ := h
    refine ⟨_, (pss_one (ps_ret (pe_and (pe_callB call_isi (by rfl) T.n_isinstance (by decide +kernel) (pa_cons (pv 0) (pa_cons (pe_bltn (v := .ty "int") (by rfl) T.n_int (by decide +kernel) rfl) pa_nil))) (pe_one (pe_not (pe_callB call_isi (by rfl) T.n_isinstance (by decide +kernel) (pa_cons (pv 0) (pa_cons (pe_bltn (v := .ty "bool") (by rfl) T.n_bool (by decide +kernel) rfl) pa_nil)))))))), ?_⟩
    walk_at "zz"
    exact q
theorem ok_spot_of (D : DefAt K mg "spot_of" ["word", "boundary", "p", "q"] s_spot_of) (T : Tx K mg) : Glo P w K mg base CX0 1 "spot_of" ["word", "boundary", "p", "q"] spSpotOf := by
  refine D.ok 0 sc_spot_of (fun vs H Q E h => ?_) (fun f cdv A outer s H vs Q E hr h => ?_)
  · obtain ⟨w, t, p, q, rfl, _⟩ := h
    rfl
  · obtain ⟨v, t, p, q, rfl, hl, ht, hp, hq, k⟩ := h
    refine ⟨_, (pss_cons (ps_set (i := 4) sc_spot_of.nd rfl (Or.inl rfl) (pe_m1 PySem.F.slot_str_count PySem.F.type_str_count mt_cnt (pe_slice sl_str (pv 0) po_none (po_some (pv 1))) pe_str))
      (pss_one (ps_ret (pe_op op_add (pe_op op_mul (pv 2) (pv 4)) (pe_op op_mul (pv 3) (pe_op op_sub (pv 1) (pv 4))))))), ?_⟩
    walk_at "zz"
    rw [cut_take, count_d]
    walk_at "zz"
    have hc := List.count_le_length (a := true) (l := v.take t)
    rw [List.length_take] at hc
    have e : (p : Int) * ((v.take t).count true : Nat) + (q : Int) * ((t : Int) - ((v.take t).count true : Nat)) = ((p * (v.take t).count true + q * (t - (v.take t).count true) : Nat) : Int) := by
      have e1 : (t : Int) - ((v.take t).count true : Nat) = ((t - (v.take t).count true : Nat) : Int) := by omega
      rw [e1]
      simp
    rw [e]
    exact k
theorem ok_is_mark (D : DefAt K mg "is_mark" ["thing", "width", "size"] s_is_mark) (T : Tx K mg) (G_is_whole : Glo P w K mg base CX0 1 "is_whole" ["thing", "low", "high"] spWhole) : Glo P w K mg base CX0 2 "is_mark" ["thing", "width", "size"] spIsMark := by
  refine D.ok 1 sc_is_mark (fun vs H Q E h => ?_) (fun f cdv A outer s H vs Q E hr h => ?_)
  · obtain ⟨p, x, y, L, n, rfl, _⟩ := h
    rfl
  · obtain ⟨p, x, y, L, n, rfl, hp, h1, h2, h3, q⟩ := h
    refine ⟨_, (pss_cons (ps_if (PW.pt (pw_or (pt_not (pt_val (pe_callB call_isiT (by rfl) T.n_isinstance (by decide +kernel) (pa_cons (pv 0) (pa_cons (pe_tup (pa_cons (pe_bltn (v := .ty "list") (by rfl) T.n_list (by decide +kernel) rfl) (pa_cons (pe_bltn (v := .ty "tuple") (by rfl) T.n_tuple (by decide +kernel) rfl) pa_nil))) pa_nil))))) (pw_or1 (pt_cmpR op_ne (pe_callB (lenK (K := K) rfl) (by rfl) T.n_len (by decide +kernel) (pa_cons (pv 0) pa_nil)) pe_int (nomark _))))) (pss_one (ps_ret pe_bl)) pss_nil)
      (pss_one (ps_ret (pe_and (pe_g G_is_whole (hr.mono (by decide)) rfl pass0 (pa_cons (pe_ix (ixT (K := K) rfl) (pv 0) pe_int (fun _ _ => rfl)) (pa_cons pe_int (pa_cons (pe_op op_sub (pv 1) pe_int) pa_nil)))) (pe_one (pe_g G_is_whole (hr.mono (by decide)) rfl pass0 (pa_cons (pe_ix (ixT (K := K) rfl) (pv 0) pe_int (fun _ _ => rfl)) (pa_cons pe_int (pa_cons (pe_op op_sub (pe_op op_mul pe_int (pv 2)) pe_int) pa_nil))))))))), ?_⟩
    walk_at "zz"
    refine v_tup fun tp H1 n1 s1 e1 => ?_
    have hp1 := s1 _ _ hp
    walk_at "zz"
    refine v_isLT (.inr hp1) e1 ?_
    walk_at "zz"
    refine v_ifF (by simp) ?_
    walk_at "zz"
    refine ⟨_, _, _, rfl, .inl ⟨x, rfl, ?_⟩⟩
    rw [decide_eq_true (show (0 : Int) ≤ x by omega), decide_eq_true (show (x : Int) ≤ (n : Int) - 2 by omega), Bool.and_true]
    walk_at "zz"
    refine ⟨_, _, _, rfl, .inl ⟨y, rfl, ?_⟩⟩
    rw [decide_eq_true (show (1 : Int) ≤ y by omega), decide_eq_true (show (y : Int) ≤ 2 * (L : Int) - 2 by omega), Bool.and_true]
    exact q H1 s1
theorem ok_row_fault (D : DefAt K mg "row_fault" ["row", "steps"] s_row_fault) (T : Tx K mg) (G_is_ink : Glo P w K mg base CX0 1 "is_ink" ["thing"] spIsInk) : Glo P w K mg base CX0 2 "row_fault" ["row", "steps"] spRowF := by
  refine D.ok 1 sc_row_fault (fun vs H Q E h => ?_) (fun f cdv A outer s H vs Q E hr h => ?_)
  · obtain ⟨p, is, s, L, rfl, _⟩ := h
    rfl
  · obtain ⟨p, is, s, L, rfl, hp, hl, l1, l6, hs, q⟩ := h
    rcases hp with hp | hp
    · refine ⟨_, (pss_cons (ps_if (pt_not (pt_val (pe_callB call_isiT (by rfl) T.n_isinstance (by decide +kernel) (pa_cons (pv 0) (pa_cons (pe_tup (pa_cons (pe_bltn (v := .ty "list") (by rfl) T.n_list (by decide +kernel) rfl) (pa_cons (pe_bltn (v := .ty "tuple") (by rfl) T.n_tuple (by decide +kernel) rfl) pa_nil))) pa_nil))))) (pss_one (ps_ret pe_str)) pss_nil)
      (pss_cons (ps_if (PW.pt (pw_or (pt_cmpR op_ne (pe_op op_modN (pe_callB (lenK (K := K) rfl) (by rfl) T.n_len (by decide +kernel) (pa_cons (pv 0) pa_nil)) pe_int) pe_int (nomark _)) (pw_or1 (pt_not (pt_chain op_le op_le pe_int (pe_callB (lenK (K := K) rfl) (by rfl) T.n_len (by decide +kernel) (pa_cons (pv 0) pa_nil)) (pe_op op_mul pe_int (pe_glob (v := .int 6) rfl T.v_MOST_SIZE.choose_spec ⟨_, rfl⟩))))))) (pss_one (ps_ret pe_str)) pss_nil)
      (pss_cons (ps_if (PW.pt (pw_and (pt_cmpR op_gt (pv 1) pe_int (nomark _)) (pw_and1 (pt_cmpR op_ne (pe_callB (lenK (K := K) rfl) (by rfl) T.n_len (by decide +kernel) (pa_cons (pv 0) pa_nil)) (pv 1) (nomark _))))) (pss_one (ps_ret pe_str)) pss_nil)
      (pss_cons (ps_for PassesOwn.never rfl (pi_list (pv 0)) (pg_name (i := 2) sc_row_fault.nd rfl (Or.inl rfl))
        (pss_one (ps_if (pt_not (pt_val (pe_g G_is_ink (hr.mono (by decide)) rfl pass0 (pa_cons (pv 2) pa_nil)))) (pss_one (ps_ret pe_str)) pss_nil)))
      (pss_one (ps_ret pe_non)))))), ?_⟩
      walk_at "zz"
      refine v_tup fun tp H1 n1 s1 e1 => ?_
      have hp1 := s1 _ _ hp
      walk_at "zz"
      refine v_isLT (.inl hp1) e1 ?_
      walk_at "zz"
      have hil : (is.map V.int).length = 2 * L := by rw [List.length_map]; exact hl
      have fm : ((2 * L : Nat) : Int).fmod 2 = 0 := by
        rw [Int.fmod_eq_emod_of_nonneg _ (by decide)]
        omega
      rw [hil, fm]
      refine v_ifF (by simp) ?_
      walk_at "zz"
      rw [hil]
      refine v_ifT (by simp; omega) ?_
      walk_at "zz"
      refine v_ifF (by simp; omega) ?_
      walk_at "zz"
      refine v_if (fun h1 => ?_) (fun h1 => ?_)
      · walk_at "zz"
        rw [hil]
        have h1' : (0 : Int) < s := by simpa using h1
        refine v_ifF (by simp; omega) ?_
        walk_at "zz"
        refine v_forL (xs := is.map V.int) (fun i σ H' => ∃ c, σ = [some (.ref p), some (.int s), c] ∧ H' = H1) ?_ ?_ ?_ ?_
        · exact ⟨_, rfl, rfl⟩
        · rintro i σ H' ⟨c, rfl, rfl⟩
          exact SqL.of hp1
        · rintro i x σ H' e ⟨c, rfl, rfl⟩
          obtain ⟨k, rfl⟩ := iL_mem (List.mem_of_getElem? e)
          walk_at "zz"
          refine ⟨k, rfl, ?_⟩
          walk_at "zz"
          exact ⟨_, rfl, rfl⟩
        · rintro σ H' ⟨c, rfl, rfl⟩
          walk_at "zz"
          exact q _ s1
      · walk_at "zz"
        refine v_forL (xs := is.map V.int) (fun i σ H' => ∃ c, σ = [some (.ref p), some (.int s), c] ∧ H' = H1) ?_ ?_ ?_ ?_
        · exact ⟨_, rfl, rfl⟩
        · rintro i σ H' ⟨c, rfl, rfl⟩
          exact SqL.of hp1
        · rintro i x σ H' e ⟨c, rfl, rfl⟩
          obtain ⟨k, rfl⟩ := iL_mem (List.mem_of_getElem? e)
          walk_at "zz"
          refine ⟨k, rfl, ?_⟩
          walk_at "zz"
          exact ⟨_, rfl, rfl⟩
        · rintro σ H' ⟨c, rfl, rfl⟩
          walk_at "zz"
          exact q _ s1
    · refine ⟨_, (pss_cons (ps_if (pt_not (pt_val (pe_callB call_isiT (by rfl) T.n_isinstance (by decide +kernel) (pa_cons (pv 0) (pa_cons (pe_tup (pa_cons (pe_bltn (v := .ty "list") (by rfl) T.n_list (by decide +kernel) rfl) (pa_cons (pe_bltn (v := .ty "tuple") (by rfl) T.n_tuple (by decide +kernel) rfl) pa_nil))) pa_nil))))) (pss_one (ps_ret pe_str)) pss_nil)
      (pss_cons (ps_if (PW.pt (pw_or (pt_cmpR op_ne (pe_op op_modN (pe_callB (lenK (K := K) rfl) (by rfl) T.n_len (by decide +kernel) (pa_cons (pv 0) pa_nil)) pe_int) pe_int (nomark _)) (pw_or1 (pt_not (pt_chain op_le op_le pe_int (pe_callB (lenK (K := K) rfl) (by rfl) T.n_len (by decide +kernel) (pa_cons (pv 0) pa_nil)) (pe_op op_mul pe_int (pe_glob (v := .int 6) rfl T.v_MOST_SIZE.choose_spec ⟨_, rfl⟩))))))) (pss_one (ps_ret pe_str)) pss_nil)
      (pss_cons (ps_if (PW.pt (pw_and (pt_cmpR op_gt (pv 1) pe_int (nomark _)) (pw_and1 (pt_cmpR op_ne (pe_callB (lenK (K := K) rfl) (by rfl) T.n_len (by decide +kernel) (pa_cons (pv 0) pa_nil)) (pv 1) (nomark _))))) (pss_one (ps_ret pe_str)) pss_nil)
      (pss_cons (ps_for PassesOwn.never rfl (pi_tup (pv 0)) (pg_name (i := 2) sc_row_fault.nd rfl (Or.inl rfl))
        (pss_one (ps_if (pt_not (pt_val (pe_g G_is_ink (hr.mono (by decide)) rfl pass0 (pa_cons (pv 2) pa_nil)))) (pss_one (ps_ret pe_str)) pss_nil)))
      (pss_one (ps_ret pe_non)))))), ?_⟩
      walk_at "zz"
      refine v_tup fun tp H1 n1 s1 e1 => ?_
      have hp1 := s1 _ _ hp
      walk_at "zz"
      refine v_isLT (.inr hp1) e1 ?_
      walk_at "zz"
      have hil : (is.map V.int).length = 2 * L := by rw [List.length_map]; exact hl
      have fm : ((2 * L : Nat) : Int).fmod 2 = 0 := by
        rw [Int.fmod_eq_emod_of_nonneg _ (by decide)]
        omega
      rw [hil, fm]
      refine v_ifF (by simp) ?_
      walk_at "zz"
      rw [hil]
      refine v_ifT (by simp; omega) ?_
      walk_at "zz"
      refine v_ifF (by simp; omega) ?_
      walk_at "zz"
      refine v_if (fun h1 => ?_) (fun h1 => ?_)
      · walk_at "zz"
        rw [hil]
        have h1' : (0 : Int) < s := by simpa using h1
        refine v_ifF (by simp; omega) ?_
        walk_at "zz"
        refine v_forT (xs := is.map V.int) (fun i σ H' => ∃ c, σ = [some (.ref p), some (.int s), c] ∧ H' = H1) ?_ ?_ ?_ ?_
        · exact ⟨_, rfl, rfl⟩
        · rintro i σ H' ⟨c, rfl, rfl⟩
          exact SqT.of hp1
        · rintro i x σ H' e ⟨c, rfl, rfl⟩
          obtain ⟨k, rfl⟩ := iL_mem (List.mem_of_getElem? e)
          walk_at "zz"
          refine ⟨k, rfl, ?_⟩
          walk_at "zz"
          exact ⟨_, rfl, rfl⟩
        · rintro σ H' ⟨c, rfl, rfl⟩
          walk_at "zz"
          exact q _ s1
      · walk_at "zz"
        refine v_forT (xs := is.map V.int) (fun i σ H' => ∃ c, σ = [some (.ref p), some (.int s), c] ∧ H' = H1) ?_ ?_ ?_ ?_
        · exact ⟨_, rfl, rfl⟩
        · rintro i σ H' ⟨c, rfl, rfl⟩
          exact SqT.of hp1
        · rintro i x σ H' e ⟨c, rfl, rfl⟩
          obtain ⟨k, rfl⟩ := iL_mem (List.mem_of_getElem? e)
          walk_at "zz"
          refine ⟨k, rfl, ?_⟩
          walk_at "zz"
          exact ⟨_, rfl, rfl⟩
        · rintro σ H' ⟨c, rfl, rfl⟩
          walk_at "zz"
          exact q _ s1
theorem ok_word_fault (D : DefAt K mg "word_fault" ["thing"] s_word_fault) (T : Tx K mg) : Glo P w K mg base CX0 1 "word_fault" ["thing"] spFault := by
  refine D.ok 0 sc_word_fault (fun vs H Q E h => ?_) (fun f cdv A outer s H vs Q E hr h => ?_)
  · obtain ⟨w, L, rfl, _⟩ := h
    rfl
  · obtain ⟨v, L, rfl, l1, l6, W, q⟩ := h
    have lv := W.len
    refine ⟨_, (pss_cons (ps_if (PW.pt (pw_or (pt_not (pt_val (pe_callB call_isi (by rfl) T.n_isinstance (by decide +kernel) (pa_cons (pv 0) (pa_cons (pe_bltn (v := .ty "str") (by rfl) T.n_str (by decide +kernel) rfl) pa_nil))))) (pw_or1 (pt_not (pt_chain op_le op_le pe_int (pe_callB (lenK (K := K) rfl) (by rfl) T.n_len (by decide +kernel) (pa_cons (pv 0) pa_nil)) (pe_op op_mul pe_int (pe_glob (v := .int 6) rfl T.v_MOST_SIZE.choose_spec ⟨_, rfl⟩))))))) (pss_one (ps_ret pe_str)) pss_nil)
      (pss_cons (ps_if (pt_tru (K := K) rfl (pe_lc (own := [("letter", 1)]) rfl sc_word_fault.nd (pi_str (pv 0)) (blkOk_by (N := N_word_fault) (sc := defScope s_word_fault) (by decide +kernel)) (fun _ _ _ _ _ => (pg_name (i := 1) sc_word_fault.nd rfl (Or.inl rfl))) (fun _ _ _ _ _ => (pts_one (PW.pt (pw_and (pt_cmpR op_ne (pv 1) pe_str (nomark _)) (pw_and1 (pt_cmpR op_ne (pv 1) pe_str (nomark _))))))) (fun _ _ _ _ _ => (pv 1))) (by intro _; rfl)) (pss_one (ps_ret pe_str)) pss_nil)
      (pss_cons (ps_if (pt_cmpR op_ne (pe_m1 PySem.F.slot_str_count PySem.F.type_str_count mt_cnt (pv 0) pe_str) (pe_m1 PySem.F.slot_str_count PySem.F.type_str_count mt_cnt (pv 0) pe_str) (nomark _)) (pss_one (ps_ret pe_str)) pss_nil)
      (pss_cons (ps_set (i := 2) sc_word_fault.nd rfl (Or.inl rfl) pe_int)
      (pss_cons (ps_for PassesOwn.never rfl (pi_str (pv 0)) (pg_name (i := 1) sc_word_fault.nd rfl (Or.inl rfl))
        (pss_cons (ps_aug (i := 2) sc_word_fault.nd rfl (Or.inl rfl) (pe_ifExp (pt_cmpR op_eq (pv 1) pe_str (nomark _)) pe_int (pe_un un_neg pe_int)) ip_add)
        (pss_one (ps_if (pt_cmpR op_lt (pv 2) pe_int (nomark _)) (pss_one (ps_ret pe_str)) pss_nil))))
      (pss_one (ps_ret pe_non))))))), ?_⟩
    walk_at "zz"
    refine v_ifT (by rw [enc_len]; simp; omega) ?_
    walk_at "zz"
    refine v_ifF (by rw [enc_len]; simp; omega) ?_
    walk_at "zz"
    refine v_lcS (fun M i acc H2 => Same H H2 ∧ acc = []) ?_ ?_ ?_
    · intro M H1 n1 s1 e1
      exact ⟨s1, rfl⟩
    · rintro M i b acc H2 hb n2 e2 ⟨s2, rfl⟩
      walk_at "zz"
      rw [sign_d]
      cases b with
      | true =>
        walk_at "zz"
        refine v_noacc e2 ?_
        exact ⟨s2, rfl⟩
      | false =>
        walk_at "zz"
        rw [sign_o]
        refine v_ifF rfl ?_
        refine v_noacc e2 ?_
        exact ⟨s2, rfl⟩
    · rintro M acc H2 n2 e2 ⟨s2, rfl⟩
      walk_at "zz"
      refine v_ifF rfl ?_
      walk_at "zz"
      rw [count_d, count_o]
      refine v_ifF (by rw [W.cn, W.cn]; simp) ?_
      walk_at "zz"
      refine v_forS (fun i σ H' => ∃ (c : Option V), σ = [some (encV v), c, some (.int (2 * ((v.take i).count true : Nat) - (i : Int)))] ∧ H' = H2) ?_ ?_ ?_
      · exact ⟨_, rfl, rfl⟩
      · rintro i b σ H' hb ⟨c, rfl, rfl⟩
        have hi : i < v.length := (List.getElem?_eq_some_iff.mp hb).1
        have pre := W.pre (i + 1) hi
        have e : (v.take (i + 1)).count true = (v.take i).count true + if b = true then 1 else 0 := by
          rw [List.take_add_one, hb, List.count_append]
          cases b <;> rfl
        rw [e] at pre
        walk_at "zz"
        rw [sign_d]
        have fin : ∀ k : Int, k = 2 * ((v.take (i + 1)).count true : Nat) - ((i + 1 : Nat) : Int) → ∃ (c : Option V), [some (encV v), some (.str ⟨#[cd b]⟩), some (.int k)] = [some (encV v), c, some (.int (2 * ((v.take (i + 1)).count true : Nat) - ((i + 1 : Nat) : Int)))] ∧ H' = H' := by
          rintro k rfl
          exact ⟨_, rfl, rfl⟩
        cases b with
        | true =>
          rw [if_pos rfl] at pre e
          walk_at "zz"
          refine v_ifF (by simp; omega) ?_
          walk_at "zz"
          exact fin _ (by rw [e]; omega)
        | false =>
          rw [if_neg (by simp)] at pre e
          walk_at "zz"
          refine v_ifF (by simp; omega) ?_
          walk_at "zz"
          exact fin _ (by rw [e]; omega)
      · rintro σ H' ⟨c, rfl, rfl⟩
        walk_at "zz"
        exact q _ s2
end
end Sk
namespace Sk
open PySem PySem.Spec PyProof.Rows L2
/-! step words: z one step, zz as far as it goes, at: what stands at an address -/
local macro_rules
  | `(tactic| walk_at "zz") => `(tactic| repeat first
    | (with_reducible refine z_seq ?_) | (with_reducible refine z_asg ?_) | (with_reducible refine z_gname ?_) | (with_reducible refine z_var (by with_unfolding_all rfl) ?_)
    | (with_reducible refine z_c ?_) | (with_reducible refine z_op ?_) | (with_reducible refine z_cons ?_) | (with_reducible refine z_nil ?_)
    | (with_reducible refine z_next ?_) | (with_reducible refine z_call ?_) | (with_reducible refine z_drop ?_) | (with_reducible refine z_ret ?_)
    | (with_reducible refine z_ifs ?_) | (with_reducible refine z_un ?_) | (with_reducible refine z_chain ?_) | (with_reducible refine z_rI0 ?_)
    | (with_reducible refine z_eqI ?_) | (with_reducible refine z_neI ?_) | (with_reducible refine z_eqS ?_) | (with_reducible refine z_neS ?_)
    | (with_reducible refine z_eqB ?_) | (with_reducible refine z_neB ?_) | (with_reducible refine z_test ?_) | (with_reducible refine z_tB ?_)
    | (with_reducible refine z_bl ?_) | (with_reducible refine z_and ?_) | (with_reducible refine z_or ?_) | (with_reducible refine z_not ?_)
    | (with_reducible refine z_andV ?_) | (with_reducible refine z_orV ?_) | (with_reducible refine z_notV ?_) | (with_reducible refine z_if ?_)
    | (with_reducible refine z_cb ?_) | (with_reducible refine z_part ?_) | (with_reducible refine z_noPart ?_) | (with_reducible refine z_int ?_)
    | (with_reducible refine z_sl ?_) | (with_reducible refine z_fld ?_) | (with_reducible refine z_tup ?_) | (with_reducible refine z_lst ?_)
    | (with_reducible refine z_bm ?_) | (with_reducible refine z_bm0 ?_) | (with_reducible refine z_fldS ?_) | (with_reducible refine z_rU ?_)
    | (with_reducible refine v_intI ?_) | (with_reducible refine v_intB ?_) | (with_reducible refine v_abs ?_) | (with_reducible refine v_isN ?_)
    | (with_reducible refine v_notN ?_) | (with_reducible refine v_cnt ?_) | (with_reducible refine z_make ?_) | (with_reducible refine z_tru ?_)
    | (with_reducible refine z_m1 ?_) | (with_reducible refine z_strI ?_) | (with_reducible refine z_zS ?_) | (with_reducible refine z_eS ?_)
    | (with_reducible refine v_isII ?_) | (with_reducible refine v_isIB ?_) | (with_reducible refine v_isBI ?_) | (with_reducible refine v_isBB ?_)
    | (with_reducible refine v_isNI ?_) | (with_reducible refine v_isIT ?_) | (with_reducible refine v_isST ?_) | (with_reducible refine v_isSS ?_)
    | (with_reducible refine v_isIS ?_) | (with_reducible refine z_sub ?_) | (with_reducible refine z_gcons ?_) | (with_reducible refine z_gnil ?_)
    | (with_reducible refine z_par ?_) | (with_reducible refine v_par ?_) | (with_reducible refine z_par3 ?_) | (with_reducible refine v_par3 ?_)
    | (with_reducible refine v_ipI ?_) | (with_reducible refine z_for ?_) | (with_reducible refine z_lc ?_) | (with_reducible refine z_yes ?_)
    | (with_reducible refine z_rng1 ?_) | (with_reducible refine z_rng2 ?_) | (with_reducible refine z_list ?_) | (with_reducible refine z_tupi ?_)
    | (with_reducible refine z_stri ?_) | (with_reducible refine v_istr ?_) | (with_reducible refine iteT ?_) | (with_reducible refine iteF ?_)
    | (with_reducible refine z_nT ?_) | (with_reducible refine z_nF ?_) | (with_reducible refine z_cont ?_) | (with_reducible refine z_brk ?_)
    | (with_reducible refine z_retN ?_) | (walk_at "zn"))
  | `(tactic| walk_at "zn") => `(tactic| first
    | ((with_reducible refine' v_ixL ?k1 ?k2 ?_); (case k1 => walk_at "sq"); (case k2 => rfl)) | ((with_reducible refine' v_ixT ?k1 ?k2 ?_); (case k1 => walk_at "st"); (case k2 => rfl)) | ((with_reducible refine' v_lenL ?k1 ?_); (case k1 => walk_at "sq")) | ((with_reducible refine' v_lenT ?k1 ?_); (case k1 => walk_at "st"))
    | ((with_reducible refine' v_slS ?k1 ?_); (case k1 => (rw [enc_len]; exact small (by omega)))) | ((with_reducible refine' v_lenS ?k1 ?_); (case k1 => (rw [enc_len]; exact small (by omega)))) | ((with_reducible refine' v_slL ?k1 ?_); (case k1 => walk_at "sq")) | ((with_reducible refine' z_tyL ?k1 ?_); (case k1 => walk_at "at"))
    | ((with_reducible refine' v_fld ?k1 ?k2 ?k3 ?k4 ?_); (case k1 => walk_at "at"); (case k2 => assumption); (case k3 => assumption); (case k4 => first | assumption | rfl)) | ((with_reducible refine' v_truL ?k1 ?_); (case k1 => walk_at "at")) | ((with_reducible refine' z_wipe ?k1 ?_); (case k1 => rfl)) | ((with_reducible refine' v_gtup ?k1 ?k2 ?_); (case k1 => walk_at "st"); (case k2 => rfl))
    | ((with_reducible refine' z_aug ?k1 ?_); (case k1 => rfl)) | ((with_reducible refine' v_ilist ?k1 ?_); (case k1 => walk_at "sq")) | ((with_reducible refine' v_itup ?k1 ?_); (case k1 => walk_at "st")) | ((with_reducible refine' z_rI ?k1 ?_); (case k1 => first | (show (_ : Int) ≠ _; omega) | exact .inl ⟨by decide, by decide⟩ | exact .inr ⟨by decide, by decide⟩ | exact ⟨by decide, by decide⟩ | exact .inl ⟨by omega, by omega⟩ | exact .inr ⟨by omega, by omega⟩))
    | ((with_reducible refine' z_var ?hv ?_); (case hv => rfl)))
  | `(tactic| walk_at "at") => `(tactic| first
    | assumption
    | ((with_reducible refine' same_at ?k1 ?k2); (case k1 => assumption); (case k2 => walk_at "at"))
    | ((with_reducible refine' but_at ?k1 ?k2 ?k3); (case k1 => assumption); (case k2 => first | assumption | (apply Ne.symm; assumption)); (case k3 => walk_at "at")))
  | `(tactic| walk_at "sq") => `(tactic| first
    | assumption
    | (refine' SqL.of ?k1; (case k1 => walk_at "at"))
    | ((with_reducible refine' Same.seq ?k1 ?k2); (case k1 => assumption); (case k2 => walk_at "sq")))
  | `(tactic| walk_at "st") => `(tactic| first
    | assumption
    | (refine' SqT.of ?k1; (case k1 => walk_at "at"))
    | ((with_reducible refine' same_tup ?k1 ?k2); (case k1 => assumption); (case k2 => walk_at "st")))
  | `(tactic| walk_at "sa") => `(tactic| first
    | assumption
    | exact Same.refl _
    | (refine' Same.trans ?k1 ?k2; (case k2 => assumption); (case k1 => walk_at "sa")))
/-! Columns and cards. -/
abbrev s_Column___init__ : Stmt := inClass (top 15) 0
abbrev N_Column___init__ : List Str := ["self", "word", "what"]
theorem sc_Column___init__ : FnScope N_Column___init__ ["self", "word"] (defScope s_Column___init__) := ⟨rfl, rfl, rfl, by decide +kernel, rfl, by decide +kernel, by decide +kernel⟩
abbrev s_check_columns : Stmt := top 18
abbrev N_check_columns : List Str := ["columns", "at", "column"]
theorem sc_check_columns : FnScope N_check_columns ["columns"] (defScope s_check_columns) := ⟨rfl, rfl, rfl, by decide +kernel, rfl, by decide +kernel, by decide +kernel⟩
abbrev s_checked_marks : Stmt := top 20
abbrev N_checked_marks : List Str := ["marks", "taken", "width", "size", "found", "at", "mark"]
theorem sc_checked_marks : FnScope N_checked_marks ["marks", "taken", "width", "size"] (defScope s_checked_marks) := ⟨rfl, rfl, rfl, by decide +kernel, rfl, by decide +kernel, by decide +kernel⟩
abbrev s_Card___init__ : Stmt := inClass (top 21) 0
abbrev N_Card___init__ : List Str := ["self", "columns", "marks", "found", "column"]
theorem sc_Card___init__ : FnScope N_Card___init__ ["self", "columns", "marks"] (defScope s_Card___init__) := ⟨rfl, rfl, rfl, by decide +kernel, rfl, by decide +kernel, by decide +kernel⟩
abbrev s__law_card : Stmt := top 55
abbrev N__law_card : List Str := ["_law_words", "_law_marks_here", "_law_word_here"]
theorem sc__law_card : FnScope N__law_card ["_law_words", "_law_marks_here"] (defScope s__law_card) := ⟨rfl, rfl, rfl, by decide +kernel, rfl, by decide +kernel, by decide +kernel⟩
def colF (w : List Bool) (L : Nat) : List (Str × V) := [("word", encV w), ("size", .int L)]
def ColAt (K : PySem.W.Frag) (H : Hp) (x : V) (w : List Bool) (L : Nat) : Prop := ∃ a dx, x = .ref a ∧ H a = some (.ins (He.ga K "Column") dx (colF w L))
theorem ColAt.same {K : PySem.W.Frag} {H H' : Hp} {x : V} {w : List Bool} {L : Nat} (c : ColAt K H x w L) (s : Same H H') : ColAt K H' x w L := by
  obtain ⟨a, dx, e, h⟩ := c
  exact ⟨a, dx, e, s _ _ h⟩
structure Cols (K : PySem.W.Frag) (H : Hp) (L : Nat) (cs : List V) (ws : Ws) : Prop where
  len : cs.length = ws.length
  get : ∀ (i : Nat) (x : V), cs[i]? = some x → ∃ w, ws[i]? = some w ∧ ColAt K H x w L
theorem Cols.same {K : PySem.W.Frag} {H H' : Hp} {L : Nat} {cs : List V} {ws : Ws} (c : Cols K H L cs ws) (s : Same H H') : Cols K H' L cs ws :=
  ⟨c.len, fun i x h => let ⟨w, e, k⟩ := c.get i x h; ⟨w, e, k.same s⟩⟩
def CardAt (K : PySem.W.Frag) (H : Hp) (a : Addr) (ws : Ws) (L n : Nat) : Prop := ∃ (dx : Addr) (fs : List (Str × V)) (p : Addr), H a = some (.ins (He.ga K "Card") dx fs) ∧ fs.lookup ("size" : Str) = some (.int L) ∧ fs.lookup ("width" : Str) = some (.int n) ∧ fs.lookup ("words" : Str) = some (.ref p) ∧ H p = some (.tup (wL ws))
theorem CardAt.same {K : PySem.W.Frag} {H H' : Hp} {a : Addr} {ws : Ws} {L n : Nat} (c : CardAt K H a ws L n) (s : Same H H') : CardAt K H' a ws L n := by
  obtain ⟨dx, fs, p, h1, h2, h3, h4, h5⟩ := c
  exact ⟨dx, fs, p, s _ _ h1, h2, h3, h4, s _ _ h5⟩
theorem CardAt.but {K : PySem.W.Frag} {H H' : Hp} {a l : Addr} {xs : List V} {ws : Ws} {L n : Nat} (c : CardAt K H a ws L n) (s : But l H H') (hl : H l = some (.lst xs)) : CardAt K H' a ws L n := by
  obtain ⟨dx, fs, p, h1, h2, h3, h4, h5⟩ := c
  exact ⟨dx, fs, p, s _ _ (fun e => by rw [e, hl] at h1; cases h1) h1, h2, h3, h4, s _ _ (fun e => by rw [e, hl] at h5; cases h5) h5⟩
/-- a word's bounds -/
structure WsOk (L n : Nat) (ws : Ws) : Prop where
  n1 : 1 ≤ n
  n12 : n ≤ 12
  l1 : 1 ≤ L
  l6 : L ≤ 6
  len : ws.length = n
  all : ∀ w ∈ ws, IsW L w
structure MsOk (L n : Nat) (ms : List (List Int)) : Prop where
  len : ms.length ≤ 3
  nd : ms.Nodup
  all : ∀ m ∈ ms, ∃ x y : Nat, m = [(x : Int), (y : Int)] ∧ x + 2 ≤ n ∧ 1 ≤ y ∧ y + 2 ≤ 2 * L
theorem Tups.take {H : Hp} {rs : List V} {ms : List (List Int)} (t : Tups H rs ms) : ∀ i, Tups H (rs.take i) (ms.take i) := by
  induction t with
  | nil => intro i; simp; exact .nil
  | cons h t ih =>
    intro i
    cases i with
    | zero => exact .nil
    | succ i => exact .cons h (ih i)
theorem not_before {α : Type} {ms : List α} {m : α} : ∀ {i : Nat}, ms.Nodup → ms[i]? = some m → m ∉ ms.take i := by
  induction ms with
  | nil => intro i _ h; cases h
  | cons a ms ih =>
    intro i nd h
    cases i with
    | zero => simp
    | succ i =>
      have h' : ms[i]? = some m := h
      rw [List.nodup_cons] at nd
      rw [List.take_succ_cons, List.mem_cons]
      rintro (e | e)
      · exact nd.1 (e ▸ List.mem_of_getElem? h')
      · exact ih nd.2 h' e
def spColI (K : PySem.W.Frag) : Sp := fun vs H Q _ => ∃ (a dx : Addr) (w : List Bool) (L : Nat), vs = [.ref a, encV w] ∧ 1 ≤ L ∧ L ≤ 6 ∧ IsW L w ∧ H a = some (.ins (He.ga K "Column") dx []) ∧ ∀ H', But a H H' → H' a = some (.ins (He.ga K "Column") dx (colF w L)) → Q .non H'
def spChkCols (K : PySem.W.Frag) : Sp := fun vs H Q _ => ∃ (l : Addr) (cs : List V) (ws : Ws) (L n : Nat), vs = [.ref l] ∧ H l = some (.lst cs) ∧ WsOk L n ws ∧ Cols K H L cs ws ∧ ∀ H', Same H H' → Q .non H'
def spChkMarks : Sp := fun vs H Q _ => ∃ (l tk : Addr) (rs : List V) (ms : List (List Int)) (L n : Nat), vs = [.ref l, .ref tk, .int n, .int L] ∧ H l = some (.lst rs) ∧ H tk = some (.lst []) ∧ Tups H rs ms ∧ MsOk L n ms ∧ ∀ p H', H p = none → Same H H' → H' p = some (.lst rs) → Q (.ref p) H'
def spCardI (K : PySem.W.Frag) : Sp := fun vs H Q _ => ∃ (a dx l m : Addr) (cs rs : List V) (ws : Ws) (ms : List (List Int)) (L n : Nat), vs = [.ref a, .ref l, .ref m] ∧ H a = some (.ins (He.ga K "Card") dx []) ∧ H l = some (.lst cs) ∧ WsOk L n ws ∧ Cols K H L cs ws ∧ H m = some (.lst rs) ∧ Tups H rs ms ∧ MsOk L n ms ∧
  ∀ H', But a H H' → CardAt K H' a ws L n → Q .non H'
def spCard (K : PySem.W.Frag) : Sp := fun vs H Q _ => ∃ (l m : Addr) (rs : List V) (ws : Ws) (ms : List (List Int)) (L n : Nat), vs = [.ref l, .ref m] ∧ H l = some (.lst (wL ws)) ∧ WsOk L n ws ∧ H m = some (.lst rs) ∧ Tups H rs ms ∧ MsOk L n ms ∧ ∀ a H', H a = none → Same H H' → CardAt K H' a ws L n → Q (.ref a) H'
section
variable {P : Program} {w : World} {K : PySem.W.Frag} {mg : Str → Option Value} {base : Heap}
theorem ok_Column (D : InitAt K mg "Column" "Column.__init__" ["self", "word"] s_Column___init__) (T : Tx K mg) (G_word_fault : Glo P w K mg base CX0 1 "word_fault" ["thing"] spFault) : MkG P w K mg base CX0 2 "Column" (spColI K) := by
  refine D.ok 1 sc_Column___init__ (fun vs H Q E h => ?_) (fun f cdv A outer s H vs Q E hr h => ?_)
  · obtain ⟨a, dx, w, L, rfl, _⟩ := h
    rfl
  · obtain ⟨a, dx, v, L, rfl, l1, l6, W, ha, q⟩ := h
    have lv := W.len
    refine ⟨_, (pss_cons (ps_set (i := 2) sc_Column___init__.nd rfl (Or.inl rfl) (pe_g G_word_fault (hr.mono (by decide)) rfl pass0 (pa_cons (pv 1) pa_nil)))
      (pss_cons (ps_if (pt_cmpR op_notZ (pv 2) pe_non (nomark _)) (pss_one ps_never) pss_nil)
      (pss_cons (ps_fld (pv 0) (pv 1) rfl)
      (pss_one (ps_fld (pv 0) (pe_op op_fdivW (pe_callB (lenK (K := K) rfl) (by rfl) T.n_len (by decide +kernel) (pa_cons (pv 1) pa_nil)) pe_int) rfl))))), ?_⟩
    walk_at "zz"
    refine ⟨v, L, rfl, l1, l6, W, fun H1 s1 => ?_⟩
    walk_at "zz"
    refine v_ifF rfl ?_
    walk_at "zz"
    refine v_setF (s1 _ _ ha) T.c_Column T.a_Column_word (by simp) fun H2 b2 e2 => ?_
    walk_at "zz"
    refine v_setF e2 T.c_Column T.a_Column_size (by simp [putF]) fun H3 b3 e3 => ?_
    walk_at "zz"
    refine q H3 (but_trans (but_of s1) (but_trans b2 b3)) ?_
    rw [e3, enc_len, lv]
    have e : ((2 * L : Nat) : Int) / 2 = (L : Nat) := by omega
    rw [e]
    rfl
theorem ok_check_columns (D : DefAt K mg "check_columns" ["columns"] s_check_columns) (T : Tx K mg) : Glo P w K mg base CX0 1 "check_columns" ["columns"] (spChkCols K) := by
  refine D.ok 0 sc_check_columns (fun vs H Q E h => ?_) (fun f cdv A outer s H vs Q E hr h => ?_)
  · obtain ⟨l, cs, ws, L, n, rfl, _⟩ := h
    rfl
  · obtain ⟨l, cs, ws, L, n, rfl, hl, W, C, q⟩ := h
    have z1 := W.n1
    have z2 := W.n12
    have z3 := W.len
    have z4 := C.len
    refine ⟨_, (pss_cons (ps_if (PW.pt (pw_or (pt_not (pt_val (pe_callB call_isiT (by rfl) T.n_isinstance (by decide +kernel) (pa_cons (pv 0) (pa_cons (pe_tup (pa_cons (pe_bltn (v := .ty "list") (by rfl) T.n_list (by decide +kernel) rfl) (pa_cons (pe_bltn (v := .ty "tuple") (by rfl) T.n_tuple (by decide +kernel) rfl) pa_nil))) pa_nil))))) (pw_or1 (pt_not (pt_chain op_le op_le pe_int (pe_callB (lenK (K := K) rfl) (by rfl) T.n_len (by decide +kernel) (pa_cons (pv 0) pa_nil)) (pe_glob (v := .int 12) rfl T.v_MOST_WIDTH.choose_spec ⟨_, rfl⟩)))))) (pss_one ps_never) pss_nil)
      (pss_cons (ps_for PassesOwn.never rfl (pi_enumS (by rfl) T.n_enumerate (pa_cons (pv 0) pa_nil)) (pg_tupK (K := K) 2 rfl rfl (pgs_cons (pg_name (i := 1) sc_check_columns.nd rfl (Or.inl rfl)) (pgs_cons (pg_name (i := 2) sc_check_columns.nd rfl (Or.inl rfl)) pgs_nil)))
        (pss_one (ps_if (pt_not (pt_val (pe_callB call_isi (by rfl) T.n_isinstance (by decide +kernel) (pa_cons (pv 2) (pa_cons (pe_glob (v := .ref (He.ga _ "Column")) rfl T.g_Column rfl) pa_nil))))) (pss_one ps_never) pss_nil)))
      (pss_one (ps_for PassesOwn.never rfl (pi_enumS (by rfl) T.n_enumerate (pa_cons (pv 0) pa_nil)) (pg_tupK (K := K) 2 rfl rfl (pgs_cons (pg_name (i := 1) sc_check_columns.nd rfl (Or.inl rfl)) (pgs_cons (pg_name (i := 2) sc_check_columns.nd rfl (Or.inl rfl)) pgs_nil)))
        (pss_one (ps_if (pt_cmpR op_ne (fldK (K := K) rfl (pv 2) rfl) (fldK (K := K) rfl (pe_ix (ixL (K := K) rfl) (pv 0) pe_int (fun _ _ => rfl)) rfl) (nomark _)) (pss_one ps_never) pss_nil)))))), ?_⟩
    walk_at "zz"
    refine v_tup fun tp H1 n1 s1 e1 => ?_
    have hl1 := s1 _ _ hl
    walk_at "zz"
    refine v_isLT (.inl hl1) e1 ?_
    walk_at "zz"
    refine v_ifT (by simp; omega) ?_
    walk_at "zz"
    refine v_ifF (by simp; omega) ?_
    walk_at "zz"
    refine v_enum (.lst l cs) hl1 ?_
    refine v_forE (fun i σ H' => ∃ (c1 c2 : Option V), σ = [some (.ref l), c1, c2] ∧ Same H1 H') ?_ ?_ ?_ ?_
    · exact ⟨_, _, rfl, Same.refl _⟩
    · rintro i σ H2 ⟨c1, c2, rfl, s2⟩
      exact s2 _ _ hl1
    · rintro i x TT σ H2 H3 hx hi ⟨c1, c2, rfl, s2⟩ n3 s3 e3
      obtain ⟨w1, _, a1, dx1, rfl, h1⟩ := C.get i x hx
      walk_at "zz"
      refine v_isi true (.own _) (.base (.ins (s3 _ _ (s2 _ _ (s1 _ _ h1))) T.c_Column T.i_Column.ha T.i_Column.hn T.i_Column.ht T.i_Column.hm)) (if_pos (beq_self_eq_true _)) ?_
      walk_at "zz"
      exact ⟨_, _, rfl, s2.trans s3⟩
    · rintro σ H2 ⟨c1, c2, rfl, s2⟩
      walk_at "zz"
      refine v_enum (.lst l cs) (s2 _ _ hl1) ?_
      refine v_forE (fun i σ H' => ∃ (c1 c2 : Option V), σ = [some (.ref l), c1, c2] ∧ Same H1 H') ?_ ?_ ?_ ?_
      · exact ⟨_, _, rfl, s2⟩
      · rintro i σ H2 ⟨c1, c2, rfl, s2⟩
        exact s2 _ _ hl1
      · rintro i x TT σ H2 H3 hx hi ⟨c1, c2, rfl, s2⟩ n3 s3 e3
        obtain ⟨w1, _, a1, dx1, rfl, h1⟩ := C.get i x hx
        obtain ⟨y, hy⟩ : ∃ y, cs[0]? = some y := ⟨cs[0]'(by omega), List.getElem?_eq_getElem _⟩
        obtain ⟨w2, _, a2, dx2, rfl, h2⟩ := C.get 0 y hy
        have S3 := s1.trans (s2.trans s3)
        walk_at "zz"
        refine v_fld (S3 _ _ h1) T.c_Column T.a_Column_size rfl ?_
        walk_at "zz"
        refine v_ixLn (SqL.of (S3 _ _ hl)) hy ?_
        walk_at "zz"
        refine v_fld (S3 _ _ h2) T.c_Column T.a_Column_size rfl ?_
        walk_at "zz"
        refine v_ifF (by simp) ?_
        walk_at "zz"
        exact ⟨_, _, rfl, s2.trans s3⟩
      · rintro σ H2 ⟨c1, c2, rfl, s2⟩
        walk_at "zz"
        exact q _ (s1.trans s2)
theorem ok_checked_marks (D : DefAt K mg "checked_marks" ["marks", "taken", "width", "size"] s_checked_marks) (T : Tx K mg) (G_is_mark : Glo P w K mg base CX0 2 "is_mark" ["thing", "width", "size"] spIsMark) : Glo P w K mg base CX0 3 "checked_marks" ["marks", "taken", "width", "size"] spChkMarks := by
  refine D.ok 2 sc_checked_marks (fun vs H Q E h => ?_) (fun f cdv A outer s H vs Q E hr h => ?_)
  · obtain ⟨l, tk, rs, ms, L, n, rfl, _⟩ := h
    rfl
  · obtain ⟨l, tk, rs, ms, L, n, rfl, hl, htk, tm, M, q⟩ := h
    have z1 := M.len
    have z2 := tm.len
    refine ⟨_, (pss_cons (ps_if (pt_not (pt_val (pe_callB call_isiT (by rfl) T.n_isinstance (by decide +kernel) (pa_cons (pv 0) (pa_cons (pe_tup (pa_cons (pe_bltn (v := .ty "list") (by rfl) T.n_list (by decide +kernel) rfl) (pa_cons (pe_bltn (v := .ty "tuple") (by rfl) T.n_tuple (by decide +kernel) rfl) pa_nil))) pa_nil))))) (pss_one ps_never) pss_nil)
      (pss_cons (ps_set (i := 4) sc_checked_marks.nd rfl (Or.inl rfl) (pe_lst pa_nil))
      (pss_cons (ps_for PassesOwn.never rfl (pi_enumS (by rfl) T.n_enumerate (pa_cons (pv 0) pa_nil)) (pg_tupK (K := K) 2 rfl rfl (pgs_cons (pg_name (i := 5) sc_checked_marks.nd rfl (Or.inl rfl)) (pgs_cons (pg_name (i := 6) sc_checked_marks.nd rfl (Or.inl rfl)) pgs_nil)))
        (pss_cons (ps_if (pt_not (pt_val (pe_g G_is_mark (hr.mono (by decide)) rfl pass0 (pa_cons (pv 6) (pa_cons (pv 2) (pa_cons (pv 3) pa_nil)))))) (pss_one ps_never) pss_nil)
        (pss_cons (ps_if (PW.pt (pw_or (pt_cmpR (op_inD (hu65 hr)) (pe_callTy (tupK (K := K) rfl) (by rfl) T.n_tuple (by decide +kernel) (pa_cons (pv 6) pa_nil)) (pv 4) (by with_unfolding_all rfl)) (pw_or1 (pt_cmpR (op_inD (hu65 hr)) (pe_callTy (tupK (K := K) rfl) (by rfl) T.n_tuple (by decide +kernel) (pa_cons (pv 6) pa_nil)) (pv 1) (by with_unfolding_all rfl))))) (pss_one ps_never) pss_nil)
        (pss_one (ps_expr (pe_bm PySem.F.plainAttrs_list PySem.F.slot_list_append PySem.F.type_list_append mt_append (pv 4) (pa_cons (pe_callTy (tupK (K := K) rfl) (by rfl) T.n_tuple (by decide +kernel) (pa_cons (pv 6) pa_nil)) pa_nil)))))))
      (pss_one (ps_ret (pv 4)))))), ?_⟩
    walk_at "zz"
    refine v_tup fun tp H1 n1 s1 e1 => ?_
    have hl1 := s1 _ _ hl
    walk_at "zz"
    refine v_isLT (.inl hl1) e1 ?_
    walk_at "zz"
    refine v_lst fun fo H2 n2 s2 e2 => ?_
    have S2 := s1.trans s2
    have nf := Same.free s1 n2
    walk_at "zz"
    refine v_enum (.lst l rs) (s2 _ _ hl1) ?_
    refine v_forE (fun i σ H' => ∃ (c1 c2 : Option V), σ = [some (.ref l), some (.ref tk), some (.int n), some (.int L), some (.ref fo), c1, c2] ∧ Same H H' ∧ H' fo = some (.lst (rs.take i))) ?_ ?_ ?_ ?_
    · exact ⟨_, _, rfl, S2, by simpa using e2⟩
    · rintro i σ H3 ⟨c1, c2, rfl, s3, e3⟩
      exact s3 _ _ hl
    · rintro i x TT σ H3 H4 hx hi ⟨c1, c2, rfl, s3, e3⟩ n4 s4 e4
      have hx' : rs[i]? = some x := hx
      obtain ⟨p, is, rfl, hm, hp⟩ := tm.get hx'
      obtain ⟨xa, ya, rfl, b1, b2, b3⟩ := M.all is (List.mem_of_getElem? hm)
      have S4 := s3.trans s4
      have e34 := s4 _ _ e3
      walk_at "zz"
      refine ⟨p, xa, ya, L, n, rfl, S4 _ _ hp, b1, b2, b3, fun H5 s5 => ?_⟩
      have S5 := S4.trans s5
      have e35 := s5 _ _ e34
      have hp5 := S5 _ _ hp
      walk_at "zz"
      refine v_tupT (SqT.of hp5) ?_
      walk_at "zz"
      have tk5 : Tups H5 (rs.take i) (ms.take i) := (tm.same S5).take i
      refine v_inT hp5 e35 tk5 ?_
      walk_at "zz"
      have nin : [(xa : Int), (ya : Int)] ∉ ms.take i := not_before M.nd hm
      rw [decide_eq_false nin]
      walk_at "zz"
      refine v_tupT (SqT.of hp5) ?_
      walk_at "zz"
      refine v_inT hp5 (S5 _ _ htk) (.nil) ?_
      walk_at "zz"
      refine v_ifF (by simp) ?_
      walk_at "zz"
      refine v_tupT (SqT.of hp5) ?_
      walk_at "zz"
      refine v_app e35 (by rw [List.length_take]; omega) fun H6 b6 e6 => ?_
      refine ⟨_, _, rfl, same_but S5 nf b6, ?_⟩
      rw [e6, List.take_add_one, hx']
      rfl
    · rintro σ H3 ⟨c1, c2, rfl, s3, e3⟩
      walk_at "zz"
      refine q fo H3 nf s3 ?_
      rw [e3]
      exact congrArg _ (congrArg _ (List.take_length))
end
end Sk
namespace Sk
open PySem PySem.Spec PyProof.Rows L2
/-! step words: z one step, zz as far as it goes, at: what stands at an address -/
local macro_rules
  | `(tactic| walk_at "zz") => `(tactic| repeat first
    | (with_reducible refine z_seq ?_) | (with_reducible refine z_asg ?_) | (with_reducible refine z_gname ?_) | (with_reducible refine z_var (by with_unfolding_all rfl) ?_)
    | (with_reducible refine z_c ?_) | (with_reducible refine z_op ?_) | (with_reducible refine z_cons ?_) | (with_reducible refine z_nil ?_)
    | (with_reducible refine z_next ?_) | (with_reducible refine z_call ?_) | (with_reducible refine z_drop ?_) | (with_reducible refine z_ret ?_)
    | (with_reducible refine z_ifs ?_) | (with_reducible refine z_un ?_) | (with_reducible refine z_chain ?_) | (with_reducible refine z_rI0 ?_)
    | (with_reducible refine z_eqI ?_) | (with_reducible refine z_neI ?_) | (with_reducible refine z_eqS ?_) | (with_reducible refine z_neS ?_)
    | (with_reducible refine z_eqB ?_) | (with_reducible refine z_neB ?_) | (with_reducible refine z_test ?_) | (with_reducible refine z_tB ?_)
    | (with_reducible refine z_bl ?_) | (with_reducible refine z_and ?_) | (with_reducible refine z_or ?_) | (with_reducible refine z_not ?_)
    | (with_reducible refine z_andV ?_) | (with_reducible refine z_orV ?_) | (with_reducible refine z_notV ?_) | (with_reducible refine z_if ?_)
    | (with_reducible refine z_cb ?_) | (with_reducible refine z_part ?_) | (with_reducible refine z_noPart ?_) | (with_reducible refine z_int ?_)
    | (with_reducible refine z_sl ?_) | (with_reducible refine z_fld ?_) | (with_reducible refine z_tup ?_) | (with_reducible refine z_lst ?_)
    | (with_reducible refine z_bm ?_) | (with_reducible refine z_bm0 ?_) | (with_reducible refine z_fldS ?_) | (with_reducible refine z_rU ?_)
    | (with_reducible refine v_intI ?_) | (with_reducible refine v_intB ?_) | (with_reducible refine v_abs ?_) | (with_reducible refine v_isN ?_)
    | (with_reducible refine v_notN ?_) | (with_reducible refine v_cnt ?_) | (with_reducible refine z_make ?_) | (with_reducible refine z_tru ?_)
    | (with_reducible refine z_m1 ?_) | (with_reducible refine z_strI ?_) | (with_reducible refine z_zS ?_) | (with_reducible refine z_eS ?_)
    | (with_reducible refine v_isII ?_) | (with_reducible refine v_isIB ?_) | (with_reducible refine v_isBI ?_) | (with_reducible refine v_isBB ?_)
    | (with_reducible refine v_isNI ?_) | (with_reducible refine v_isIT ?_) | (with_reducible refine v_isST ?_) | (with_reducible refine v_isSS ?_)
    | (with_reducible refine v_isIS ?_) | (with_reducible refine z_sub ?_) | (with_reducible refine z_gcons ?_) | (with_reducible refine z_gnil ?_)
    | (with_reducible refine z_par ?_) | (with_reducible refine v_par ?_) | (with_reducible refine z_par3 ?_) | (with_reducible refine v_par3 ?_)
    | (with_reducible refine v_ipI ?_) | (with_reducible refine z_for ?_) | (with_reducible refine z_lc ?_) | (with_reducible refine z_yes ?_)
    | (with_reducible refine z_rng1 ?_) | (with_reducible refine z_rng2 ?_) | (with_reducible refine z_list ?_) | (with_reducible refine z_tupi ?_)
    | (with_reducible refine z_stri ?_) | (with_reducible refine v_istr ?_) | (with_reducible refine iteT ?_) | (with_reducible refine iteF ?_)
    | (with_reducible refine z_nT ?_) | (with_reducible refine z_nF ?_) | (with_reducible refine z_cont ?_) | (with_reducible refine z_brk ?_)
    | (with_reducible refine z_retN ?_) | (walk_at "zn"))
  | `(tactic| walk_at "zn") => `(tactic| first
    | ((with_reducible refine' v_ixL ?k1 ?k2 ?_); (case k1 => walk_at "sq"); (case k2 => rfl)) | ((with_reducible refine' v_ixT ?k1 ?k2 ?_); (case k1 => walk_at "st"); (case k2 => rfl)) | ((with_reducible refine' v_lenL ?k1 ?_); (case k1 => walk_at "sq")) | ((with_reducible refine' v_lenT ?k1 ?_); (case k1 => walk_at "st"))
    | ((with_reducible refine' v_slS ?k1 ?_); (case k1 => (rw [enc_len]; exact small (by omega)))) | ((with_reducible refine' v_lenS ?k1 ?_); (case k1 => (rw [enc_len]; exact small (by omega)))) | ((with_reducible refine' v_slL ?k1 ?_); (case k1 => walk_at "sq")) | ((with_reducible refine' z_tyL ?k1 ?_); (case k1 => walk_at "at"))
    | ((with_reducible refine' v_fld ?k1 ?k2 ?k3 ?k4 ?_); (case k1 => walk_at "at"); (case k2 => assumption); (case k3 => assumption); (case k4 => first | assumption | rfl)) | ((with_reducible refine' v_truL ?k1 ?_); (case k1 => walk_at "at")) | ((with_reducible refine' z_wipe ?k1 ?_); (case k1 => rfl)) | ((with_reducible refine' v_gtup ?k1 ?k2 ?_); (case k1 => walk_at "st"); (case k2 => rfl))
    | ((with_reducible refine' z_aug ?k1 ?_); (case k1 => rfl)) | ((with_reducible refine' v_ilist ?k1 ?_); (case k1 => walk_at "sq")) | ((with_reducible refine' v_itup ?k1 ?_); (case k1 => walk_at "st")) | ((with_reducible refine' z_rI ?k1 ?_); (case k1 => first | (show (_ : Int) ≠ _; omega) | exact .inl ⟨by decide, by decide⟩ | exact .inr ⟨by decide, by decide⟩ | exact ⟨by decide, by decide⟩ | exact .inl ⟨by omega, by omega⟩ | exact .inr ⟨by omega, by omega⟩))
    | ((with_reducible refine' z_var ?hv ?_); (case hv => rfl)))
  | `(tactic| walk_at "at") => `(tactic| first
    | assumption
    | ((with_reducible refine' same_at ?k1 ?k2); (case k1 => assumption); (case k2 => walk_at "at"))
    | ((with_reducible refine' but_at ?k1 ?k2 ?k3); (case k1 => assumption); (case k2 => first | assumption | (apply Ne.symm; assumption)); (case k3 => walk_at "at")))
  | `(tactic| walk_at "sq") => `(tactic| first
    | assumption
    | (refine' SqL.of ?k1; (case k1 => walk_at "at"))
    | ((with_reducible refine' Same.seq ?k1 ?k2); (case k1 => assumption); (case k2 => walk_at "sq")))
  | `(tactic| walk_at "st") => `(tactic| first
    | assumption
    | (refine' SqT.of ?k1; (case k1 => walk_at "at"))
    | ((with_reducible refine' same_tup ?k1 ?k2); (case k1 => assumption); (case k2 => walk_at "st")))
  | `(tactic| walk_at "sa") => `(tactic| first
    | assumption
    | exact Same.refl _
    | (refine' Same.trans ?k1 ?k2; (case k2 => assumption); (case k1 => walk_at "sa")))
/-! Cards. -/
section
variable {P : Program} {w : World} {K : PySem.W.Frag} {mg : Str → Option Value} {base : Heap}
theorem ok_Card (D : InitAt K mg "Card" "Card.__init__" ["self", "columns", "marks"] s_Card___init__) (T : Tx K mg) (G_check_columns : Glo P w K mg base CX0 1 "check_columns" ["columns"] (spChkCols K))
    (G_checked_marks : Glo P w K mg base CX0 3 "checked_marks" ["marks", "taken", "width", "size"] spChkMarks) : MkG P w K mg base CX0 4 "Card" (spCardI K) := by
  refine D.ok 3 sc_Card___init__ (fun vs H Q E h => ?_) (fun f cdv A outer s H vs Q E hr h => ?_)
  · obtain ⟨a, dx, l, m, cs, rs, ws, ms, L, n, rfl, _⟩ := h
    rfl
  · obtain ⟨a, dx, l, m, cs, rs, ws, ms, L, n, rfl, ha, hl, W, C, hm, tm, M, q⟩ := h
    have z1 := W.n1
    have z2 := W.n12
    have z3 := W.len
    have z4 := C.len
    have z5 := M.len
    have z6 := tm.len
    obtain ⟨y, hy⟩ : ∃ y, cs[0]? = some y := ⟨cs[0]'(by omega), List.getElem?_eq_getElem _⟩
    have nal : l ≠ a := fun e => by rw [e, ha] at hl; cases hl
    have nam : m ≠ a := fun e => by rw [e, ha] at hm; cases hm
    have CB : ∀ H', But a H H' → Cols K H' L cs ws := fun H' b => ⟨C.len, fun i x hx => by
      obtain ⟨w', e, a', dx', rfl, h'⟩ := C.get i x hx
      refine ⟨w', e, a', dx', rfl, b _ _ (fun e2 => ?_) h'⟩
      rw [e2, ha] at h'
      injection h' with h'
      injection h' with _ _ h'
      cases h'⟩
    refine ⟨_, (pss_cons (ps_expr (pe_g G_check_columns (hr.mono (by decide)) rfl pass0 (pa_cons (pv 1) pa_nil)))
      (pss_cons (ps_fld (pv 0) (pe_callTy (tupK (K := K) rfl) (by rfl) T.n_tuple (by decide +kernel) (pa_cons (pv 1) pa_nil)) rfl)
      (pss_cons (ps_set (i := 3) sc_Card___init__.nd rfl (Or.inl rfl) (pe_g G_checked_marks (hr.mono (by decide)) rfl pass0 (pa_cons (pv 2) (pa_cons (pe_lst pa_nil) (pa_cons (pe_callB (lenK (K := K) rfl) (by rfl) T.n_len (by decide +kernel) (pa_cons (pv 1) pa_nil)) (pa_cons (fldK (K := K) rfl (pe_ix (ixL (K := K) rfl) (pv 1) pe_int (fun _ _ => rfl)) rfl) pa_nil))))))
      (pss_cons (ps_fld (pv 0) (pe_callTy (tupK (K := K) rfl) (by rfl) T.n_tuple (by decide +kernel) (pa_cons (pe_callB cr_sortedP (by rfl) T.n_sorted (by decide +kernel) (pa_cons (pv 3) pa_nil)) pa_nil)) rfl)
      (pss_cons (ps_fld (pv 0) (fldK (K := K) rfl (pe_ix (ixL (K := K) rfl) (pv 1) pe_int (fun _ _ => rfl)) rfl) rfl)
      (pss_cons (ps_fld (pv 0) (pe_callB (lenK (K := K) rfl) (by rfl) T.n_len (by decide +kernel) (pa_cons (pv 1) pa_nil)) rfl)
      (pss_one (ps_fld (pv 0) (pe_callTy (tupK (K := K) rfl) (by rfl) T.n_tuple (by decide +kernel) (pa_cons (pe_lc (own := [("column", 4)]) rfl sc_Card___init__.nd (pi_list (pv 1)) (blkOk_by (N := N_Card___init__) (sc := defScope s_Card___init__) (by decide +kernel)) (fun _ _ _ _ _ => (pg_name (i := 4) sc_Card___init__.nd rfl (Or.inl rfl))) (fun _ _ _ _ _ => pts_nil) (fun _ _ _ _ _ => (fldK (K := K) rfl (pv 4) rfl))) pa_nil)) rfl)))))))), ?_⟩
    walk_at "zz"
    refine ⟨l, cs, ws, L, n, rfl, hl, W, C, fun H1 s1 => ?_⟩
    walk_at "zz"
    refine v_tupL (SqL.of (s1 _ _ hl)) fun tc H2 n2 s2 e2 => ?_
    walk_at "zz"
    refine v_setF (s2 _ _ (s1 _ _ ha)) T.c_Card T.a_Card_columns (by simp) fun H3 b3 e3 => ?_
    have B3 : But a H H3 := but_trans (but_of (s1.trans s2)) b3
    walk_at "zz"
    refine v_lst fun em H4 n4 s4 e4 => ?_
    have B4 : But a H H4 := but_trans B3 (but_of s4)
    have hl4 := B4 _ _ nal hl
    obtain ⟨w2, _, a2, dx2, rfl, h2⟩ := (CB H4 B4).get 0 y hy
    walk_at "zz"
    refine v_ixLn (SqL.of hl4) hy ?_
    walk_at "zz"
    refine v_fld h2 T.c_Column T.a_Column_size rfl ?_
    walk_at "zz"
    have hm4 := B4 _ _ nam hm
    have ta : ∀ H', But a H H' → Tups H' rs ms := fun H' b => by
      refine tm.but2 b fun is e => ?_
      rw [ha] at e
      cases e
    refine ⟨m, em, rs, ms, L, n, ?_, hm4, e4, ta H4 B4, M, fun fo H5 n5 s5 e5 => ?_⟩
    · rw [show ((cs.length : Nat) : Int) = (n : Int) by omega]
    have B5 : But a H H5 := but_trans B4 (but_of s5)
    walk_at "zz"
    refine ⟨fo, rs, rfl, SqL.of e5, ?_, fun ys p6 hperm n6 => ?_⟩
    · intro x hx
      obtain ⟨i, hi⟩ := List.mem_iff_getElem?.mp hx
      obtain ⟨p, is, rfl, hmi, hp⟩ := (ta H5 B5).get hi
      obtain ⟨xa, ya, rfl, _⟩ := M.all is (List.mem_of_getElem? hmi)
      exact ⟨p, xa, ya, rfl, hp⟩
    have s6 := same_new (o := .lst ys) n6
    have e6 : upd H5 p6 (.lst ys) p6 = some (.lst ys) := upd_same
    generalize upd H5 p6 (.lst ys) = H6 at *
    have B6 : But a H H6 := but_trans B5 (but_of s6)
    walk_at "zz"
    refine v_tupL (SqL.of e6) fun t7 H7 n7 s7 e7 => ?_
    have e37 : H7 a = some (.ins (He.ga K "Card") dx (putF "columns" (.ref tc) [])) := s7 _ _ (s6 _ _ (s5 _ _ (s4 _ _ e3)))
    walk_at "zz"
    refine v_setF e37 T.c_Card T.a_Card_marks (by show (1 : Nat) < 1000; decide) fun H8 b8 e8 => ?_
    have B8 : But a H H8 := but_trans B6 (but_trans (but_of s7) b8)
    have hl8 := B8 _ _ nal hl
    obtain ⟨w3, _, a3, dx3, e33, h3⟩ := (CB H8 B8).get 0 _ hy
    cases e33
    walk_at "zz"
    refine v_ixLn (SqL.of hl8) hy ?_
    walk_at "zz"
    refine v_fld h3 T.c_Column T.a_Column_size rfl ?_
    walk_at "zz"
    refine v_setF e8 T.c_Card T.a_Card_size (by show (2 : Nat) < 1000; decide) fun H9 b9 e9 => ?_
    have B9 : But a H H9 := but_trans B8 b9
    have hl9 := B9 _ _ nal hl
    walk_at "zz"
    refine v_setF e9 T.c_Card T.a_Card_width (by show (3 : Nat) < 1000; decide) fun H10 b10 e10 => ?_
    have B10 : But a H H10 := but_trans B9 b10
    have hl10 := B10 _ _ nal hl
    walk_at "zz"
    refine v_lcL (xs := cs) (fun N i acc H2 => Same H10 H2 ∧ acc = wL (ws.take i)) ?_ ?_ ?_ ?_
    · intro N H1 n1 s1 e1
      exact ⟨s1, rfl⟩
    · rintro N i acc H2 n2 ⟨s2, _⟩
      exact SqL.of (s2 _ _ hl10)
    · rintro N i x acc H11 hx n11 e11 ⟨s11, rfl⟩
      obtain ⟨w4, hw4, a4, dx4, rfl, h4⟩ := (CB H10 B10).get i x hx
      walk_at "zz"
      refine v_fld (s11 _ _ h4) T.c_Column T.a_Column_word rfl ?_
      refine v_acc e11 ?_ fun H12 b12 e12 => ?_
      · rw [wL_len, List.length_take]
        omega
      · refine ⟨same_but s11 n11 b12, ?_⟩
        rw [List.take_add_one, hw4]
        simp [wL]
    · rintro N acc H11 n11 e11 ⟨s11, rfl⟩
      rw [show ws.take cs.length = ws by rw [z4, List.take_length]] at e11
      walk_at "zz"
      refine v_tupL (SqL.of e11) fun tw H12 n12 s12 e12 => ?_
      walk_at "zz"
      refine v_setF (s12 _ _ (s11 _ _ e10)) T.c_Card T.a_Card_words (by show (4 : Nat) < 1000; decide) fun H13 b13 e13 => ?_
      walk_at "zz"
      have twa : tw ≠ a := fun e => by
        rw [e, s11 _ _ e10] at n12
        cases n12
      have z7 : ((cs.length : Nat) : Int) = (n : Int) := by omega
      rw [z7] at e13
      exact q H13 (but_trans B10 (but_trans (but_of (s11.trans s12)) b13)) ⟨dx, _, tw, e13, rfl, rfl, rfl, b13 _ _ twa e12⟩
theorem ok__law_card (D : DefAt K mg "_law_card" ["_law_words", "_law_marks_here"] s__law_card) (T : Tx K mg) (M_Column : MkG P w K mg base CX0 2 "Column" (spColI K)) (M_Card : MkG P w K mg base CX0 4 "Card" (spCardI K)) : Glo P w K mg base CX0 6 "_law_card" ["_law_words", "_law_marks_here"] (spCard K) := by
  refine D.ok 5 sc__law_card (fun vs H Q E h => ?_) (fun f cdv A outer s H vs Q E hr h => ?_)
  · obtain ⟨l, m, rs, ws, ms, L, n, rfl, _⟩ := h
    rfl
  · obtain ⟨l, m, rs, ws, ms, L, n, rfl, hl, W, hm, tm, M, q⟩ := h
    have z1 := W.n1
    have z2 := W.n12
    have z3 := W.len
    refine ⟨_, (pss_one (ps_ret (pe_mkg (K := K) rfl M_Card (hr.mono (by decide)) rfl pass0 (pa_cons (pe_lc (own := [("_law_word_here", 2)]) rfl sc__law_card.nd (pi_list (pv 0)) (blkOk_by (N := N__law_card) (sc := defScope s__law_card) (by decide +kernel)) (fun _ _ _ _ _ => (pg_name (i := 2) sc__law_card.nd rfl (Or.inl rfl))) (fun _ _ _ _ _ => pts_nil) (fun _ _ _ _ _ => (pe_mkg (K := K) rfl M_Column (hr.mono (by decide)) rfl pass0 (pa_cons (pv 2) pa_nil)))) (pa_cons (pv 1) pa_nil))))), ?_⟩
    walk_at "zz"
    refine v_lcL (xs := wL ws) (fun N i acc H2 => Same H H2 ∧ Cols K H2 L acc (ws.take i)) ?_ ?_ ?_ ?_
    · intro N H1 n1 s1 e1
      exact ⟨s1, rfl, fun i x h => by cases h⟩
    · rintro N i acc H2 n2 ⟨s2, _⟩
      exact SqL.of (s2 _ _ hl)
    · rintro N i x acc H2 hx n2 e2 ⟨s2, C⟩
      obtain ⟨v, hv, rfl⟩ := wL_of hx
      walk_at "zz"
      refine v_make fun c dx H3 n3 s3 e3 => ?_
      refine ⟨c, dx, v, L, rfl, W.l1, W.l6, W.all v (List.mem_of_getElem? hv), e3, fun H4 b4 e4 => ⟨rfl, ?_⟩⟩
      have S4 : Same H2 H4 := same_but s3 n3 b4
      have hi : i < ws.length := (List.getElem?_eq_some_iff.mp hv).1
      refine v_acc (S4 _ _ e2) ?_ fun H5 b5 e5 => ?_
      · rw [C.len, List.length_take]
        omega
      · refine ⟨same_but (s2.trans S4) n2 b5, ?_, fun j x hj => ?_⟩
        · rw [List.length_append, C.len, List.take_add_one, hv]
          simp
        · have ne : ∀ (a' : Addr) C' dx' fs', H4 a' = some (.ins C' dx' fs') → a' ≠ N := fun a' C' dx' fs' e e' => by
            rw [e', S4 _ _ e2] at e
            cases e
          have lc := C.len
          rw [List.length_take, Nat.min_eq_left (by omega)] at lc
          rw [List.take_add_one, hv]
          by_cases hj2 : j < acc.length
          · rw [List.getElem?_append_left hj2] at hj
            obtain ⟨w', e', a', dx', rfl, h'⟩ := C.get j x hj
            refine ⟨w', ?_, a', dx', rfl, b5 _ _ (ne _ _ _ _ (S4 _ _ h')) (S4 _ _ h')⟩
            rw [List.getElem?_append_left (by rw [List.length_take]; omega)]
            exact e'
          · have : j = acc.length := by
              have := (List.getElem?_eq_some_iff.mp hj).1
              simp at this
              omega
            subst this
            rw [List.getElem?_concat_length] at hj
            cases hj
            refine ⟨v, ?_, c, dx, rfl, b5 _ _ (ne _ _ _ _ e4) e4⟩
            rw [List.getElem?_append_right (by rw [List.length_take]; omega), List.length_take]
            simp [lc, Nat.min_eq_left (by omega : i ≤ ws.length)]
    · rintro N acc H2 n2 e2 ⟨s2, C⟩
      rw [wL_len, List.take_length] at C
      walk_at "zz"
      refine v_make fun c dx H3 n3 s3 e3 => ?_
      refine ⟨c, dx, N, m, acc, rs, ws, ms, L, n, rfl, e3, s3 _ _ e2, W, C.same s3, s3 _ _ (s2 _ _ hm), tm.same (s2.trans s3), M, fun H4 b4 C4 => ⟨rfl, ?_⟩⟩
      exact q c H4 (Same.free s2 n3) (s2.trans (same_but s3 n3 b4)) C4
end
end Sk
namespace Sk
open PySem PySem.Spec PyProof.Rows L2
/-! step words: z one step, zz as far as it goes, at: what stands at an address -/
local macro_rules
  | `(tactic| walk_at "zz") => `(tactic| repeat first
    | (with_reducible refine z_seq ?_) | (with_reducible refine z_asg ?_) | (with_reducible refine z_gname ?_) | (with_reducible refine z_var (by with_unfolding_all rfl) ?_)
    | (with_reducible refine z_c ?_) | (with_reducible refine z_op ?_) | (with_reducible refine z_cons ?_) | (with_reducible refine z_nil ?_)
    | (with_reducible refine z_next ?_) | (with_reducible refine z_call ?_) | (with_reducible refine z_drop ?_) | (with_reducible refine z_ret ?_)
    | (with_reducible refine z_ifs ?_) | (with_reducible refine z_un ?_) | (with_reducible refine z_chain ?_) | (with_reducible refine z_rI0 ?_)
    | (with_reducible refine z_eqI ?_) | (with_reducible refine z_neI ?_) | (with_reducible refine z_eqS ?_) | (with_reducible refine z_neS ?_)
    | (with_reducible refine z_eqB ?_) | (with_reducible refine z_neB ?_) | (with_reducible refine z_test ?_) | (with_reducible refine z_tB ?_)
    | (with_reducible refine z_bl ?_) | (with_reducible refine z_and ?_) | (with_reducible refine z_or ?_) | (with_reducible refine z_not ?_)
    | (with_reducible refine z_andV ?_) | (with_reducible refine z_orV ?_) | (with_reducible refine z_notV ?_) | (with_reducible refine z_if ?_)
    | (with_reducible refine z_cb ?_) | (with_reducible refine z_part ?_) | (with_reducible refine z_noPart ?_) | (with_reducible refine z_int ?_)
    | (with_reducible refine z_sl ?_) | (with_reducible refine z_fld ?_) | (with_reducible refine z_tup ?_) | (with_reducible refine z_lst ?_)
    | (with_reducible refine z_bm ?_) | (with_reducible refine z_bm0 ?_) | (with_reducible refine z_fldS ?_) | (with_reducible refine z_rU ?_)
    | (with_reducible refine v_intI ?_) | (with_reducible refine v_intB ?_) | (with_reducible refine v_abs ?_) | (with_reducible refine v_isN ?_)
    | (with_reducible refine v_notN ?_) | (with_reducible refine v_cnt ?_) | (with_reducible refine z_make ?_) | (with_reducible refine z_tru ?_)
    | (with_reducible refine z_m1 ?_) | (with_reducible refine z_strI ?_) | (with_reducible refine z_zS ?_) | (with_reducible refine z_eS ?_)
    | (with_reducible refine v_isII ?_) | (with_reducible refine v_isIB ?_) | (with_reducible refine v_isBI ?_) | (with_reducible refine v_isBB ?_)
    | (with_reducible refine v_isNI ?_) | (with_reducible refine v_isIT ?_) | (with_reducible refine v_isST ?_) | (with_reducible refine v_isSS ?_)
    | (with_reducible refine v_isIS ?_) | (with_reducible refine z_sub ?_) | (with_reducible refine z_gcons ?_) | (with_reducible refine z_gnil ?_)
    | (with_reducible refine z_par ?_) | (with_reducible refine v_par ?_) | (with_reducible refine z_par3 ?_) | (with_reducible refine v_par3 ?_)
    | (with_reducible refine v_ipI ?_) | (with_reducible refine z_for ?_) | (with_reducible refine z_lc ?_) | (with_reducible refine z_yes ?_)
    | (with_reducible refine z_rng1 ?_) | (with_reducible refine z_rng2 ?_) | (with_reducible refine z_list ?_) | (with_reducible refine z_tupi ?_)
    | (with_reducible refine z_stri ?_) | (with_reducible refine v_istr ?_) | (with_reducible refine iteT ?_) | (with_reducible refine iteF ?_)
    | (with_reducible refine z_nT ?_) | (with_reducible refine z_nF ?_) | (with_reducible refine z_cont ?_) | (with_reducible refine z_brk ?_)
    | (with_reducible refine z_retN ?_) | (walk_at "zn"))
  | `(tactic| walk_at "zn") => `(tactic| first
    | ((with_reducible refine' v_ixL ?k1 ?k2 ?_); (case k1 => walk_at "sq"); (case k2 => rfl)) | ((with_reducible refine' v_ixT ?k1 ?k2 ?_); (case k1 => walk_at "st"); (case k2 => rfl)) | ((with_reducible refine' v_lenL ?k1 ?_); (case k1 => walk_at "sq")) | ((with_reducible refine' v_lenT ?k1 ?_); (case k1 => walk_at "st"))
    | ((with_reducible refine' v_slS ?k1 ?_); (case k1 => (rw [enc_len]; exact small (by omega)))) | ((with_reducible refine' v_lenS ?k1 ?_); (case k1 => (rw [enc_len]; exact small (by omega)))) | ((with_reducible refine' v_slL ?k1 ?_); (case k1 => walk_at "sq")) | ((with_reducible refine' z_tyL ?k1 ?_); (case k1 => walk_at "at"))
    | ((with_reducible refine' v_fld ?k1 ?k2 ?k3 ?k4 ?_); (case k1 => walk_at "at"); (case k2 => assumption); (case k3 => assumption); (case k4 => first | assumption | rfl)) | ((with_reducible refine' v_truL ?k1 ?_); (case k1 => walk_at "at")) | ((with_reducible refine' z_wipe ?k1 ?_); (case k1 => rfl)) | ((with_reducible refine' v_gtup ?k1 ?k2 ?_); (case k1 => walk_at "st"); (case k2 => rfl))
    | ((with_reducible refine' z_aug ?k1 ?_); (case k1 => rfl)) | ((with_reducible refine' v_ilist ?k1 ?_); (case k1 => walk_at "sq")) | ((with_reducible refine' v_itup ?k1 ?_); (case k1 => walk_at "st")) | ((with_reducible refine' z_rI ?k1 ?_); (case k1 => first | (show (_ : Int) ≠ _; omega) | exact .inl ⟨by decide, by decide⟩ | exact .inr ⟨by decide, by decide⟩ | exact ⟨by decide, by decide⟩ | exact .inl ⟨by omega, by omega⟩ | exact .inr ⟨by omega, by omega⟩))
    | ((with_reducible refine' z_var ?hv ?_); (case hv => rfl)))
  | `(tactic| walk_at "at") => `(tactic| first
    | assumption
    | ((with_reducible refine' same_at ?k1 ?k2); (case k1 => assumption); (case k2 => walk_at "at"))
    | ((with_reducible refine' but_at ?k1 ?k2 ?k3); (case k1 => assumption); (case k2 => first | assumption | (apply Ne.symm; assumption)); (case k3 => walk_at "at")))
  | `(tactic| walk_at "sq") => `(tactic| first
    | assumption
    | (refine' SqL.of ?k1; (case k1 => walk_at "at"))
    | ((with_reducible refine' Same.seq ?k1 ?k2); (case k1 => assumption); (case k2 => walk_at "sq")))
  | `(tactic| walk_at "st") => `(tactic| first
    | assumption
    | (refine' SqT.of ?k1; (case k1 => walk_at "at"))
    | ((with_reducible refine' same_tup ?k1 ?k2); (case k1 => assumption); (case k2 => walk_at "st")))
  | `(tactic| walk_at "sa") => `(tactic| first
    | assumption
    | exact Same.refl _
    | (refine' Same.trans ?k1 ?k2; (case k2 => assumption); (case k1 => walk_at "sa")))
open ClX (CRead CMet pe_cmeth tCMeth)
/-! Prints. -/
abbrev s_Print___init__ : Stmt := inClass (top 26) 0
abbrev N_Print___init__ : List Str := ["self", "inks", "steps", "at", "row", "what"]
theorem sc_Print___init__ : FnScope N_Print___init__ ["self", "inks"] (defScope s_Print___init__) := ⟨rfl, rfl, rfl, by decide +kernel, rfl, by decide +kernel, by decide +kernel⟩
abbrev s_Print_alone : Stmt := inClass (top 26) 5
abbrev N_Print_alone : List Str := ["cls", "size", "width", "column", "step", "rows", "k"]
theorem sc_Print_alone : FnScope N_Print_alone ["cls", "size", "width", "column", "step"] (defScope s_Print_alone) := ⟨rfl, rfl, rfl, by decide +kernel, rfl, by decide +kernel, by decide +kernel⟩
abbrev s_check_extent : Stmt := top 25
abbrev N_check_extent : List Str := ["size", "width"]
theorem sc_check_extent : FnScope N_check_extent ["size", "width"] (defScope s_check_extent) := ⟨rfl, rfl, rfl, by decide +kernel, rfl, by decide +kernel, by decide +kernel⟩
def PrintAt (K : PySem.W.Frag) (H : Hp) (a : Addr) (rs : Rs) (L n : Nat) : Prop := ∃ (dx : Addr) (fs : List (Str × V)) (p : Addr) (xs : List V), H a = some (.ins (He.ga K "Print") dx fs) ∧ fs.lookup ("size" : Str) = some (V.int L) ∧ fs.lookup ("width" : Str) = some (V.int n) ∧ fs.lookup ("inks" : Str) = some (V.ref p) ∧ H p = some (.tup xs) ∧ Tups H xs rs
theorem PrintAt.same {K : PySem.W.Frag} {H H' : Hp} {a : Addr} {rs : Rs} {L n : Nat} (c : PrintAt K H a rs L n) (s : Same H H') : PrintAt K H' a rs L n := by
  obtain ⟨dx, fs, p, xs, h1, h2, h3, h4, h5, h6⟩ := c
  exact ⟨dx, fs, p, xs, s _ _ h1, h2, h3, h4, s _ _ h5, h6.same s⟩
theorem PrintAt.but {K : PySem.W.Frag} {H H' : Hp} {a l : Addr} {ys : List V} {rs : Rs} {L n : Nat} (c : PrintAt K H a rs L n) (s : But l H H') (hl : H l = some (.lst ys)) : PrintAt K H' a rs L n := by
  obtain ⟨dx, fs, p, xs, h1, h2, h3, h4, h5, h6⟩ := c
  exact ⟨dx, fs, p, xs, s _ _ (fun e => by rw [e, hl] at h1; cases h1) h1, h2, h3, h4, s _ _ (fun e => by rw [e, hl] at h5; cases h5) h5, h6.but s hl⟩
structure RsOk (L n : Nat) (rs : Rs) : Prop where
  n1 : 1 ≤ n
  n12 : n ≤ 12
  l1 : 1 ≤ L
  l6 : L ≤ 6
  len : rs.length = n
  all : ∀ r ∈ rs, r.length = 2 * L
structure Sqs (H : Hp) (xs : List V) (rs : Rs) : Prop where
  len : xs.length = rs.length
  get : ∀ (i : Nat) (x : V), xs[i]? = some x → ∃ p is, x = .ref p ∧ rs[i]? = some is ∧ Sq H p is
theorem Lsts.sqs {H : Hp} {xs : List V} {rs : Rs} (t : Lsts H xs rs) : Sqs H xs rs := ⟨t.len, fun i x h => by
  obtain ⟨p, is, e1, e2, e3⟩ := t.get h
  exact ⟨p, is, e1, e2, .inl e3⟩⟩
theorem Tups.sqs {H : Hp} {xs : List V} {rs : Rs} (t : Tups H xs rs) : Sqs H xs rs := ⟨t.len, fun i x h => by
  obtain ⟨p, is, e1, e2, e3⟩ := t.get h
  exact ⟨p, is, e1, e2, .inr e3⟩⟩
def spPrintI (K : PySem.W.Frag) : Sp := fun vs H Q _ => ∃ (a dx l : Addr) (xs : List V) (rs : Rs) (L n : Nat), vs = [.ref a, .ref l] ∧ H a = some (.ins (He.ga K "Print") dx []) ∧ H l = some (.lst xs) ∧ Sqs H xs rs ∧ RsOk L n rs ∧ ∀ H', But a H H' → PrintAt K H' a rs L n → Q .non H'
/-- one inked cell -/
def single (n L c t : Nat) : Rs := (List.range n).map fun c' => (List.range (2 * L)).map fun k => if c' = c ∧ k = t then 1 else 0
def spAlone (K : PySem.W.Frag) : Sp := fun vs H Q _ => ∃ (L n c t : Nat), vs = [.ref (He.ga K "Print"), .int L, .int n, .int c, .int t] ∧ 1 ≤ n ∧ n ≤ 12 ∧ 1 ≤ L ∧ L ≤ 6 ∧ c < n ∧ t < 2 * L ∧ ∀ a H', H a = none → Same H H' → PrintAt K H' a (single n L c t) L n → Q (.ref a) H'
def spExt : Sp := fun vs H Q _ => ∃ (L n : Nat), vs = [.int L, .int n] ∧ 1 ≤ n ∧ n ≤ 12 ∧ 1 ≤ L ∧ L ≤ 6 ∧ Q .non H
structure GloC (P : Program) (w : World) (K : PySem.W.Frag) (mg : Str → Option Value) (base : Heap) (CX : CXT) (k : Nat) (cn m : Str) (sp : Sp) : Prop where
  ex : ∃ mc p g, CRead K (He.ga K cn) mc ∧ CMet K (He.ga K cn) mc m p g ∧ FnR P w K mg base CX k g sp
structure CmAt (K : PySem.W.Frag) (cn m qual : Str) (ps : List Str) (st : Stmt) : Prop where
  ex : ∃ mc p g fd, CRead K (He.ga K cn) mc ∧ CMet K (He.ga K cn) mc m p g ∧ Fun K m qual st g fd ∧ Binds K fd ps []
theorem CmAt.ok {P : Program} {w : World} {K : PySem.W.Frag} {mg : Str → Option Value} {base : Heap} {cn m qual : Str} {ps N : List Str} {st : Stmt} {sp : Sp} (k : Nat) (D : CmAt K cn m qual ps st) (S : FnScope N ps (defScope st)) (len : ∀ vs H Q E, sp vs H Q E → vs.length = ps.length)
    (hbody : ∀ (f : Addr) (cdv : Value) (A : Around) (outer : List Env) (s : Shared) (H : Hp) (vs : List V) (Q : VK) (E : XK), Room k (A.deeper (envOfC qual (defScope st) s.heap.objs.size f cdv)) → sp vs H Q E →
      ∃ t, PSs (cxOf CX0 P w K mg base N qual (defScope st) f cdv A outer s H E).nox (defBody st) t ∧ t { nx := fun _ H' => Q .non H', rt := Q } (start N vs) H) : GloC P w K mg base CX0 (k + 1) cn m sp := by
  obtain ⟨mc, p, g, fd, r, c, F, b⟩ := D.ex
  have G := F.ok S len (fun cdv A outer s H vs Q E hr h => hbody g cdv A outer s H vs Q E hr h)
  refine ⟨mc, p, g, r, c, fun A outer s H us vs Q E hr e0 rv hs => ?_⟩
  have KX : K.In s.heap := e0.mod.kin.keeps fun b o e => (e0.bs b o e).1
  have hl : (us ++ []).length = ps.length := by
    rw [List.append_nil, ← rv.length]
    exact len _ _ _ _ hs
  have b2 := b s us KX hl
  rw [List.append_nil] at b2
  exact G.run A outer s H ⟨us, []⟩ us vs Q E hr e0 b2 rv hs
theorem pe_cmg {X : Cx} {K : PySem.W.Frag} {CX : CXT} {k : Nat} {sp : Sp} {E : XK} {cn m : Str} {apos pos : Pos} {o e : Expr} {es : List Expr} {t : TA} {ta : TE} {pl : Sem Bool} (eK : X.K = K) (he : PE X o ta) (G : GloC X.prog X.w K X.mg X.base CX k cn m sp) (hr : Room k X.A) (hx : Passes CX X E)
    (ha : PA X (e :: es) t) (hst : starEach (e :: es) X.env = (false, eval e X.env) :: starEach es X.env := by rfl) (hpl : (backTo pos (starEach es X.env)).any (·.1) = false := by rfl)
    (ht : eval (.Call (.Attribute o m apos) (e :: es) [] pos) X.env = (do
      let ov ← eval o X.env
      standAt apos.atName
      let (f, first) ← holding [ov] (getMethod ov m pl)
      callWith pos f first (backTo pos (starEach (e :: es) X.env)) (backToKw pos (keywordEach [] X.env))) := by rfl) :
    PE X (.Call (.Attribute o m apos) (e :: es) [] pos) (tCMeth (He.ga K cn) sp E ta t) := by
  subst eK
  obtain ⟨mc, p, g, r, c, F⟩ := G.ex
  exact pe_cmeth he r c F hr hx ha hst hpl ht
def nCM (C : Addr) (sp : Sp) (E : XK) (t : TA) (σ : L2.St) (x : V) (H : Hp) (Q : VK) : Prop := x = .ref C ∧ t σ H fun vs H2 => sp (.ref C :: vs) H2 Q E
theorem z_cm {C : Addr} {sp : Sp} {E : XK} {ta : TE} {t : TA} {σ : L2.St} {H : Hp} {Q : VK} (h : ta σ H fun x H1 => nCM C sp E t σ x H1 Q) : tCMeth C sp E ta t σ H Q := h
theorem v_cm {C : Addr} {sp : Sp} {E : XK} {t : TA} {σ : L2.St} {H : Hp} {Q : VK} (h : t σ H fun vs H2 => sp (.ref C :: vs) H2 Q E) : nCM C sp E t σ (.ref C) H Q := ⟨rfl, h⟩
def tMakeL (i : Nat) (C : Addr) (sp : Sp) (E : XK) (t : TA) : TE := fun σ H Q => σ[i]? = some (some (.ref C)) ∧ tMake C sp [] E t σ H Q
theorem z_makeL {i : Nat} {C : Addr} {sp : Sp} {E : XK} {t : TA} {σ : L2.St} {H : Hp} {Q : VK} (e : σ[i]? = some (some (.ref C))) (h : tMake C sp [] E t σ H Q) : tMakeL i C sp E t σ H Q := ⟨e, h⟩
theorem pe_mkL {X : Cx} {K : PySem.W.Frag} {CX : CXT} {i k : Nat} {cn x : Str} {sp : Sp} {E : XK} {p pos : Pos} {e : Expr} {es : List Expr} {t : TA} (eK : X.K = K) (G : MkG X.prog X.w K X.mg X.base CX k cn sp) (hr : Room (k + 1) X.A) (hN : X.N[i]? = some x) (hv : Vis X.env.scope x) (hx : Passes CX X E)
    (ha : PA X (e :: es) t) (hdb : (x == ("__debug__" : Str)) = false := by decide) (hcd : (x == ("__classdict__" : Str)) = false := by decide) (he : starEach (e :: es) X.env = (false, eval e X.env) :: starEach es X.env := by rfl) (hpl : (backTo pos (starEach es X.env)).any (·.1) = false := by rfl) :
    PE X (.Call (.Name x p) (e :: es) [] pos) (tMakeL i (He.ga K cn) sp E t) := by
  subst eK
  obtain ⟨f, fd, ps, F, m, M, b⟩ := G.ex
  refine ⟨fun pins s σ H Q I h => ?_⟩
  obtain ⟨hs, ht⟩ := h
  refine wpAny_Call_Name_kw (thn ((pe_var (pos := p) hN hv hdb hcd).run pins s σ H (fun v H1 => v = .ref (He.ga X.K cn) ∧ H1 = H) I ⟨_, hs, rfl, rfl⟩) fun u s1 ⟨v, H1, I1, r1, q1⟩ => ?_)
  obtain ⟨rfl, rfl⟩ := q1
  cases r1
  refine PySem.W.callWith_K (h₀ := X.base) I.ok.mod.kin M.kp (thn (ha.run pos pins s1 σ _ _ I1 ht) fun us s2 ⟨vs, H2, I2, r, q⟩ => ⟨I2.kIn, ?_⟩) he hpl
  exact run_make M F hr b .nil hx I2 r q
section
variable {P : Program} {w : World} {K : PySem.W.Frag} {mg : Str → Option Value} {base : Heap}
theorem ok_check_extent (D : DefAt K mg "check_extent" ["size", "width"] s_check_extent) (T : Tx K mg) (G_is_whole : Glo P w K mg base CX0 1 "is_whole" ["thing", "low", "high"] spWhole) : Glo P w K mg base CX0 2 "check_extent" ["size", "width"] spExt := by
  refine D.ok 1 sc_check_extent (fun vs H Q E h => ?_) (fun f cdv A outer s H vs Q E hr h => ?_)
  · obtain ⟨L, n, rfl, _⟩ := h
    rfl
  · obtain ⟨L, n, rfl, n1, n2, l1, l6, q⟩ := h
    refine ⟨_, (pss_cons (ps_if (pt_not (pt_val (pe_g G_is_whole (hr.mono (by decide)) rfl pass0 (pa_cons (pv 0) (pa_cons pe_int (pa_cons (pe_glob (v := .int 6) rfl T.v_MOST_SIZE.choose_spec ⟨_, rfl⟩) pa_nil)))))) (pss_one ps_never) pss_nil)
      (pss_one (ps_if (pt_not (pt_val (pe_g G_is_whole (hr.mono (by decide)) rfl pass0 (pa_cons (pv 1) (pa_cons pe_int (pa_cons (pe_glob (v := .int 12) rfl T.v_MOST_WIDTH.choose_spec ⟨_, rfl⟩) pa_nil)))))) (pss_one ps_never) pss_nil))), ?_⟩
    walk_at "zz"
    refine ⟨_, _, _, rfl, .inl ⟨L, rfl, ?_⟩⟩
    rw [decide_eq_true (show (1 : Int) ≤ L by omega), decide_eq_true (show (L : Int) ≤ 6 by omega), Bool.and_true]
    walk_at "zz"
    refine ⟨_, _, _, rfl, .inl ⟨n, rfl, ?_⟩⟩
    rw [decide_eq_true (show (1 : Int) ≤ n by omega), decide_eq_true (show (n : Int) ≤ 12 by omega), Bool.and_true]
    walk_at "zz"
    exact q
theorem ok_Print (D : InitAt K mg "Print" "Print.__init__" ["self", "inks"] s_Print___init__) (T : Tx K mg) (G_row_fault : Glo P w K mg base CX0 2 "row_fault" ["row", "steps"] spRowF) : MkG P w K mg base CX0 3 "Print" (spPrintI K) := by
  refine D.ok 2 sc_Print___init__ (fun vs H Q E h => ?_) (fun f cdv A outer s H vs Q E hr h => ?_)
  · obtain ⟨a, dx, l, xs, rs, L, n, rfl, _⟩ := h
    rfl
  · obtain ⟨a, dx, l, xs, rs, L, n, rfl, ha, hl, S, R, q⟩ := h
    have z1 := R.n1
    have z2 := R.n12
    have z3 := R.l1
    have z4 := R.l6
    have z5 := R.len
    have z6 := S.len
    have nal : l ≠ a := fun e => by rw [e, ha] at hl; cases hl
    refine ⟨_, (pss_cons (ps_if (PW.pt (pw_or (pt_not (pt_val (pe_callB call_isiT (by rfl) T.n_isinstance (by decide +kernel) (pa_cons (pv 1) (pa_cons (pe_tup (pa_cons (pe_bltn (v := .ty "list") (by rfl) T.n_list (by decide +kernel) rfl) (pa_cons (pe_bltn (v := .ty "tuple") (by rfl) T.n_tuple (by decide +kernel) rfl) pa_nil))) pa_nil))))) (pw_or1 (pt_not (pt_chain op_le op_le pe_int (pe_callB (lenK (K := K) rfl) (by rfl) T.n_len (by decide +kernel) (pa_cons (pv 1) pa_nil)) (pe_glob (v := .int 12) rfl T.v_MOST_WIDTH.choose_spec ⟨_, rfl⟩)))))) (pss_one ps_never) pss_nil)
      (pss_cons (ps_set (i := 2) sc_Print___init__.nd rfl (Or.inl rfl) pe_int)
      (pss_cons (ps_for PassesOwn.never rfl (pi_enumS (by rfl) T.n_enumerate (pa_cons (pv 1) pa_nil)) (pg_tupK (K := K) 2 rfl rfl (pgs_cons (pg_name (i := 3) sc_Print___init__.nd rfl (Or.inl rfl)) (pgs_cons (pg_name (i := 4) sc_Print___init__.nd rfl (Or.inl rfl)) pgs_nil)))
        (pss_cons (ps_set (i := 5) sc_Print___init__.nd rfl (Or.inl rfl) (pe_g G_row_fault (hr.mono (by decide)) rfl pass0 (pa_cons (pv 4) (pa_cons (pv 2) pa_nil))))
        (pss_cons (ps_if (pt_cmpR op_notZ (pv 5) pe_non (nomark _)) (pss_one ps_never) pss_nil)
        (pss_one (ps_set (i := 2) sc_Print___init__.nd rfl (Or.inl rfl) (pe_callB (lenK (K := K) rfl) (by rfl) T.n_len (by decide +kernel) (pa_cons (pv 4) pa_nil)))))))
      (pss_cons (ps_fld (pv 0) (pe_callTy (tupK (K := K) rfl) (by rfl) T.n_tuple (by decide +kernel) (pa_cons (pe_lc (own := [("row", 4)]) rfl sc_Print___init__.nd (pi_list (pv 1)) (blkOk_by (N := N_Print___init__) (sc := defScope s_Print___init__) (by decide +kernel)) (fun _ _ _ _ _ => (pg_name (i := 4) sc_Print___init__.nd rfl (Or.inl rfl))) (fun _ _ _ _ _ => pts_nil) (fun _ _ _ _ _ => (pe_callTy (tupK (K := K) rfl) (by rfl) T.n_tuple (by decide +kernel) (pa_cons (pv 4) pa_nil)))) pa_nil)) rfl)
      (pss_cons (ps_fld (pv 0) (pe_op op_fdivW (pv 2) pe_int) rfl)
      (pss_one (ps_fld (pv 0) (pe_callB (lenK (K := K) rfl) (by rfl) T.n_len (by decide +kernel) (pa_cons (pv 1) pa_nil)) rfl))))))), ?_⟩
    walk_at "zz"
    refine v_tup fun tp H1 n1 s1 e1 => ?_
    have hl1 := s1 _ _ hl
    walk_at "zz"
    refine v_isLT (.inl hl1) e1 ?_
    walk_at "zz"
    refine v_ifT (by simp; omega) ?_
    walk_at "zz"
    refine v_ifF (by simp; omega) ?_
    walk_at "zz"
    refine v_enum (.lst l xs) hl1 ?_
    walk_at "zz"
    refine v_forE (fun i σ H' => ∃ (st : Nat) (c1 c2 c3 : Option V), σ = [some (.ref a), some (.ref l), some (.int st), c1, c2, c3] ∧ Same H H' ∧ (st = 0 ∨ st = 2 * L) ∧ (0 < i → st = 2 * L)) ?_ ?_ ?_ ?_
    · exact ⟨0, _, _, _, rfl, s1, .inl rfl, fun h => absurd h (Nat.lt_irrefl _)⟩
    · rintro i σ H2 ⟨st, c1, c2, c3, rfl, s2, _⟩
      exact s2 _ _ hl
    · rintro i x TT σ H2 H3 hx hi ⟨st, c1, c2, c3, rfl, s2, hst, _⟩ n3 s3 e3
      obtain ⟨p, is, rfl, hr1, hp⟩ := S.get i x hx
      have his := R.all is (List.mem_of_getElem? hr1)
      have hp3 := hp.same (s2.trans s3)
      walk_at "zz"
      refine ⟨p, is, st, L, rfl, hp3, his, z3, z4, hst, fun H4 s4 => ?_⟩
      walk_at "zz"
      refine v_ifF rfl ?_
      walk_at "zz"
      refine v_lenSq (hp3.same s4) ?_
      walk_at "zz"
      exact ⟨is.length, _, _, _, rfl, s2.trans (s3.trans s4), .inr his, fun _ => his⟩
    · rintro σ H2 ⟨st, c1, c2, c3, rfl, s2, _, hst⟩
      have hst' : st = 2 * L := hst (by show 0 < xs.length; omega)
      subst hst'
      have hl2 := s2 _ _ hl
      walk_at "zz"
      refine v_lcL (xs := xs) (fun N i acc H3 => Same H2 H3 ∧ Tups H3 acc (rs.take i)) ?_ ?_ ?_ ?_
      · intro N H1 n1 s1 e1
        exact ⟨s1, .nil⟩
      · rintro N i acc H3 n3 ⟨s3, _⟩
        exact SqL.of (s3 _ _ hl2)
      · rintro N i x acc H3 hx n3 e3 ⟨s3, t3⟩
        obtain ⟨p, is, rfl, hr1, hp⟩ := S.get i x hx
        walk_at "zz"
        refine v_tupSq (hp.same (s2.trans s3)) fun tt H4 s4 e4 => ?_
        have hi : i < xs.length := (List.getElem?_eq_some_iff.mp hx).1
        refine v_acc (s4 _ _ e3) ?_ fun H5 b5 e5 => ?_
        · rw [t3.len, List.length_take]
          omega
        · refine ⟨same_but (s3.trans s4) n3 b5, ?_⟩
          rw [List.take_add_one, hr1]
          exact ((t3.same s4).snoc e4).but b5 (s4 _ _ e3)
      · rintro N acc H3 n3 e3 ⟨s3, t3⟩
        rw [show rs.take xs.length = rs by rw [z6, List.take_length]] at t3
        walk_at "zz"
        refine v_tupL (SqL.of e3) fun ti H4 n4 s4 e4 => ?_
        have ha4 := s4 _ _ (s3 _ _ (s2 _ _ ha))
        walk_at "zz"
        refine v_setF ha4 T.c_Print T.a_Print_inks (by show (0 : Nat) < 1000; decide) fun H5 b5 e5 => ?_
        walk_at "zz"
        refine v_setF e5 T.c_Print T.a_Print_size (by show (1 : Nat) < 1000; decide) fun H6 b6 e6 => ?_
        have B6 : But a H H6 := but_trans (but_of (s2.trans (s3.trans s4))) (but_trans b5 b6)
        have hl6 := B6 _ _ nal hl
        walk_at "zz"
        refine v_setF e6 T.c_Print T.a_Print_width (by show (2 : Nat) < 1000; decide) fun H7 b7 e7 => ?_
        walk_at "zz"
        have nti : ti ≠ a := fun e => by
          rw [e, s3 _ _ (s2 _ _ ha)] at n4
          cases n4
        have e : ((2 * L : Nat) : Int) / 2 = (L : Nat) := by omega
        rw [e, show ((xs.length : Nat) : Int) = (n : Int) by omega] at e7
        have b47 : But a H4 H7 := but_trans b5 (but_trans b6 b7)
        exact q H7 (but_trans B6 b7) ⟨dx, _, ti, acc, e7, rfl, rfl, rfl, b47 _ _ nti e4, (t3.same s4).but2 b47 fun is e => by rw [ha4] at e; cases e⟩
end
end Sk
namespace Sk
open PySem PySem.Spec PyProof.Rows L2
/-! Own exceptions whose __init__ says super().__init__(..): the made one, isinstance of a caught one that has fields. -/
end Sk
namespace Xs
open PySem PySem.Spec PySem.Calls PyProof.Rows PySem.W
section
variable {prog : Program} {w : World} {A : Around} {E : Value → Shared → Prop} {s : Shared} {K : Frag} {x D : Addr} {ox : Obj} {od : Option Obj}
theorem kin_cls {Q : Option Value → Shared → Prop} (hga : findIn K (.ref D) "__getattribute__" = some (some (.builtin "BaseException.__getattribute__"))) (hgt : findIn K (.ref D) "__getattr__" = some none) (hsub : subIn K (.ref D) (.type "BaseException") = some true)
    (hdct : hasDictIn K D = true) (ha : findIn K (.ref D) "__class__" = some (some (.builtin "object.__class__")))
    (hn : specialIn K (.builtin "object.__class__") "__get__" = some (some (.builtin "getset_descriptor.__get__"))) (htk : takesIn K (.builtin "object.__class__") = some true) (hm : mroIn K D (.type "object") = some true)
    (X : K.In s.heap) (I : InstAt s.heap x ox D od) (h : Q (some (.ref D)) { s with toks := s.toks + 1 }) : wpAny (model prog w) A (getAttr? (.ref x) "__class__") Q E s := by
  have hf : findObj K D od "__class__" = some (.bind (.builtin "getset_descriptor.__get__") (.builtin "object.__class__")) := by
    have hc : (clsIn K D).isSome = true := by obtain ⟨cd, hc, _⟩ := any_some hdct; rw [hc]; rfl
    cases od with
    | none => exact findObj_dataN hc ha hn htk
    | some o => exact findObj_data hc ha hn htk
  obtain ⟨hp, g, d, t, os⟩ := s
  have L0 := I.type (M := model prog w)
  have L1 := looks_findIn (M := model prog w) X hga
  have L2 := looks_findIn (M := model prog w) X hgt
  have L3 := looks_find (M := model prog w) X I hf
  have sub : Looks (model prog w) hp (isInstance (.ref x) (.type "BaseException")) true := L0.andThen (looks_subIn X hsub)
  have hx0 : (false && onTheHeap (Value.builtin "BaseException.__getattribute__")) = false := rfl
  have hx2 : (Value.builtin "BaseException.__getattribute__" == Value.builtin "object.__getattribute__") = false := by decide +kernel
  have hx1 : (onTheHeap (Value.ref D) && Value.builtin "BaseException.__getattribute__" == Value.builtin "object.__getattribute__") = false := by rw [hx2]; rfl
  unfold getAttr? getAttrBy? getAttrBy
  refine wpAny_bind (wpAny_mkText (wpAny_bind (wpAny_attempt (wpAny_holding (wpAny_bind (L0.at (wpAny_bind (L1.at ?_))))))))
  show wpAny _ _ (if (onTheHeap (Value.ref D) && Value.builtin "BaseException.__getattribute__" == Value.builtin "object.__getattribute__") = true then _ else _) _ _ _
  rw [hx1, if_neg Bool.false_ne_true]
  unfold getAttrByItsOwn hookBefore
  refine wpAny_bind ?_
  rw [if_pos (show onTheHeap (Value.ref D) = true from rfl)]
  refine L2.at ?_
  refine wpAny_bind (wpAny_attempt (wpAny_holding ?_))
  unfold callGetattribute
  rw [hx0, if_neg Bool.false_ne_true]
  unfold boundAndCalled
  rw [PySem.F.excAttr_ValueError.ga.bind (.ref x)]
  refine wpAny_bind (wpAny_pure ?_)
  show wpAny _ _ (call (.builtin "BaseException.__getattribute__") [.ref x, .str "__class__" t]) _ _ _
  refine wpAny_call (codeAny_call_builtin PySem.F.excAttr_ValueError.ga.plain PySem.F.entry_bexc_ga ?_)
  refine @check_slot (model prog w) _ _ ⟨hp, g, d, t + 1, os⟩ "BaseException.__getattribute__" "BaseException" "__getattribute__" (.ref x) [.str "__class__" t] [] _ (by decide +kernel) (by decide +kernel) sub (PySem.F.args_bexc_ga (.ref x) (.str "__class__" t)) ?_
  unfold Builtin.«object.__getattribute__»
  refine wpAny_bind (wpAny_of_eq (a := ((Value.ref x : Value), [Value.str "__class__" t])) (by first | rfl | (simp only [slotArgs]; rfl)) ?_)
  refine wpAny_bind (wpAny_pure (wpAny_bind (L0.at (wpAny_bind (L3.at ?_)))))
  show wpAny _ _ (holding [Value.builtin "object.__class__"] (call (.builtin "getset_descriptor.__get__") [.builtin "object.__class__", .ref x, .ref D]) >>= ret) _ _ _
  refine wpAny_bind (wpAny_holding (wpAny_call (class_get (s := ⟨hp, g, d, t + 1, os⟩) (ox := ox) (od := od) X I hm ?_)))
  refine wpAny_pure ?_
  show wpAny _ _ (handedOut (.ref D)) _ _ _
  rw [handedOut_of (v := .ref D) rfl]
  first
    | exact wpAny_pure (wpAny_pure h)
    | exact wpAny_pure h
    | exact wpAny_pure (wpAny_bind (wpAny_pure (wpAny_pure h)))
theorem kitx (C : L2.ExcC K D) : KitX K (.ref x) (.ref D) (fun h => InstAt h x ox D od) where
  ty := fun _ _ _ I => I.type
  it := fun _ _ X _ => by
    obtain ⟨cdD, hcD, _⟩ := any_some C.hd
    unfold clsIn at hcD
    split at hcD
    · rename_i c' d' cd' sl' ho
      intro A' Q' E' s' k q
      unfold isType loadHead
      exact wpAny_bind (wpAny_loadPart (k _ _ (X _ _ ho)) (wpAny_pure q))
    · cases hcD
  ne := fun h tp dd its n sl X htp => by
    obtain ⟨cdD, hcD, _⟩ := any_some C.hd
    refine Bool.eq_false_iff.mpr fun q => ?_
    have e : D = tp := Value.ref.inj (beq_iff_eq.mp q)
    subst e
    unfold clsIn at hcD
    split at hcD
    · rename_i c' d' cd' sl' ho
      have z := (X _ _ ho).symm.trans htp
      cases z
    · cases hcD
  ca := fun X I k => kin_cls C.hg C.hk C.hs C.hd C.ha C.hn C.ht C.hm X I k
end
end Xs
namespace Sk
open PySem PySem.Spec PyProof.Rows L2
/-- isinstance(e, c), e the exception (with a dict at dd) that the suite holds -/
def rIsX (K : PySem.W.Frag) (a : Addr) (cls : Value) (d : Option Addr) : List V → Hp → VK → Prop := fun xs H Q => ∃ (D dd : Addr) (fs : List (Str × V)) (c : V) (cv : Value) (b : Bool), cls = .ref D ∧ d = some dd ∧ H dd = some (.xd fs) ∧ ExcC K D ∧ xs = [.ref a, c] ∧ (∀ u, RelV c u → u = cv) ∧ PySem.W.kitOne K (.ref D) cv = some b ∧ Q (.bl b) H
theorem call_isX {X : Cx} {a : Addr} {oe : Obj} {cls : Value} {d : Option Addr} {pn : List (Addr × Obj)} (hz : Zc cls d oe) (hf : ∃ vs, oe.data = .fields vs) : CallR (X.suite a ((a, oe) :: pn)) (.builtin "isinstance") (rIsX X.K a cls d) := by
  intro pins s σ H xs us Q I r h
  obtain ⟨D, dd, fs, c, cv, b, rfl, rfl, hdd, C, rfl, hcv, e, q⟩ := h
  cases r with
  | cons rx rr =>
    cases rr with
    | cons rt rr =>
      cases rr
      cases rx
      have ec := hcv _ rt
      subst ec
      obtain ⟨hget, _⟩ := I.pin (a, oe) (List.mem_append.mpr (.inl List.mem_cons_self))
      obtain ⟨vs, hv⟩ := hf
      have hx : ObjOk X.prog X.w H s.heap dd (.xd fs) := I.hok dd _ hdd
      obtain ⟨mA, ⟨od, es, ep, ho, _⟩, _⟩ := hx
      have J : PySem.W.InstAt s.heap a oe D (some od) := by
        obtain ⟨oc, odd, oda, osl⟩ := oe
        obtain ⟨h1, h2⟩ := hz
        dsimp only at h1 h2 hv
        subst h1 h2 hv
        exact ⟨hget, rfl, rfl, ho⟩
      exact PySem.W.kia_one (Xs.kitx C) I.kIn J e (fun z => nomatch z) fun tk => ⟨.bl b, H, I.kept (t' := tk) fun _ _ z => z, rfl, q⟩
/-! ### __init__ with super() -/
def cxE (CX : CXT) (P : Program) (w : World) (K : PySem.W.Frag) (mg : Str → Option Value) (base : Heap) (N : List Str) (env : Env) (A : Around) (outer : List Env) (s : Shared) (H : Hp) (E : XK) : Cx where
  prog := P
  w := w
  K := K
  mg := mg
  base := base
  A := A.deeper env
  N := N
  s_0 := s
  H_0 := H
  env := env
  outer := outer
  stack := env :: outer
  ex := []
  calm := true
  fn := fun _ => false
  pn := []
  xe := fun e s' => wpAny (model P w) (A.deeper env) (leaving env e) (fun _ s'' => CX outer H s E e s'') (fun e' s'' => CX outer H s E e' s'') s'
structure SupC (P : Program) (K : PySem.W.Frag) (C : Addr) (qual : Str) (st : Stmt) (f : Addr) (fd : FuncData) : Prop where
  T : OexC K C
  iC : PySem.W.findIn K (.ref C) "__init__" = some (some (.ref f))
  tI : PySem.W.typeIn K (.ref f) = some (.type "function")
  ex : ∃ oc od osl kV doc pm an cda ct cc cl cld csl ccl cdd ccs vs file tf cdD, fd = PySem.W.ksFn "__init__" qual (defArgs st) (defBody st) (defScope st) .none kV doc pm an (.ref cda) ct cc ∧ K.lookup f = some ⟨oc, od, .func fd, osl⟩ ∧
    PySem.W.codeIn K (.ref cda) qual = true ∧ K.lookup cc = some ⟨cl, cld, .cell (some (.ref C)), csl⟩ ∧ K.lookup cda = some ⟨ccl, cdd, .fields vs, ccs⟩ ∧ vs[2]? = some (.str file tf) ∧ ((P.main.file : Str) == file) = true ∧ PySem.W.clsIn K C = some cdD
  mro : PySem.W.mroIn K C (.ref C) = some true
  sup : PySem.W.ks_superIn K C C "__init__" = some (some (.builtin "ValueError.__init__"))
  tp : PySem.W.nsIn K cStatics "thirdparty.any" = some none
  ve : PySem.W.subIn K (.ref C) (.type "ValueError") = some true
  what : PySem.W.findIn K (.ref C) "what" = some none
def spBad (C : Addr) : Sp := fun vs H Q _ => ∃ (a : Addr) (z : Str), vs = [.ref a, .str z] ∧ H a = some (exo a C none) ∧ ∀ dx, H dx = none → dx ≠ a → Q .non (upd (upd H dx (exd dx [("what", .str z)])) a (exo a C (some dx)))
theorem call_mw {prog : Program} {w : World} {A : Around} {E : Value → Shared → Prop} {h : Heap} {g : Array GenState} {d : Drawn} {t : Nat} {os : OsState} {nm q : Str} {C N : Addr} {bs bm : List Value} {hdct : Bool} {sn : List Str} {sub : List Value} {ab : Bool} {col : Option Bool} {dd : Option Addr} {k0 k1 k2 k3 k5 : Option Value} {u e t0 : Addr} {rest : List Value} {Q : Value → Shared → Prop}
    (hC : h.get? C = some (excClassObj nm q C N bs bm hdct sn sub ab col dd k0 k1 k2 k3 k5 "ValueError.__new__")) (he : h.get? e = some (HandSPX.excO C t0)) (hu : h.get? u = some (PySem.W.kxs_mw "ValueError.__init__" e)) (hrest : rest.length ≤ sizeLine)
    (hq : ∀ h' t1, (∀ b o, b ≠ e → h.get? b = some o → h'.get? b = some o) → h'.get? e = some (HandSPX.excO C t1) → Q .none ⟨h', g, d, t, os⟩) :
    wpAny (model prog w) A (call (.ref u) rest) Q E ⟨h, g, d, t, os⟩ := by
  refine wpAny_call (codeAny_of_tree ?_)
  show wpAny _ A.in1 (callAny (.ref u) ⟨rest, []⟩) _ _ _
  simp only [callAny]
  refine wpAny_bind (wpAny_load hu ?_)
  simp only [PySem.W.kxs_mw, show (Value.type "method-wrapper" == Value.type "method" || Value.type "method-wrapper" == Value.type "builtin_function_or_method" || Value.type "method-wrapper" == Value.type "method-wrapper") = true by decide, if_true]
  refine PySem.W.KFB.if_so (by decide) ?_
  refine wpAny_bind (PySem.ESX.check_bound F.excBase_ValueError hC he rfl ?_)
  refine wpAny_bind (wpAny_pure (wpAny_pure ?_))
  refine ⟨Code.quiet_builtin _ (by decide +kernel), codeAny_builtin F.excBase_ValueError.initEntry ?_⟩
  rw [Around.under_plainId F.excBase_ValueError.init.plain _]
  wp_walk
  refine hq _ h.objs.size (fun b o hb ho => ?_) ?_
  · rw [Heap.get?_update_other _ _ (Ne.symm hb)]
    exact Heap.get?_push_of_some _ ho
  · rw [Heap.get?_update_self _ (Heap.get?_push_of_some _ he) rfl]
    rfl
theorem sup_init {CX : CXT} {P : Program} {w : World} {K : PySem.W.Frag} {mg : Str → Option Value} {base : Heap} {C f : Addr} {fd : FuncData} {qual : Str} {st : Stmt} {k : Nat} (S : SupC P K C qual st f fd) (hmg : mg "super" = none) (htop : (P.main.scope.names.lookup ("super" : Str)).isSome = false)
    {a0 : Arg} {z0 : Str} {p0 p1 p2 p3 p4 p5 p6 p7 p8 p9 q9 : Pos} {z1 : Nat}
    (hp : ((defArgs st).posonlyargs ++ (defArgs st).args).head? = some a0) (ha0 : a0.arg = ("self" : Str))
    (hbody : defBody st = [.Expr (.Call (.Attribute (.Call (.Name "super" p0) [] [] p1) "__init__" p2) [.Constant (.str z0) z1 p3, .Name "what" p4] [] p5) p6, .Assign [.Attribute (.Name "self" p7) "what" p8] (.Name "what" p9) q9])
    {pl : Sem Bool} (hev : ∀ env : Env, eval (.Call (.Attribute (.Call (.Name "super" p0) [] [] p1) "__init__" p2) [.Constant (.str z0) z1 p3, .Name "what" p4] [] p5) env = (do
      let ov ← attributeBase (.Call (.Name "super" p0) [] [] p1) "__init__" env (eval (.Call (.Name "super" p0) [] [] p1) env)
      standAt p2.atName
      let (f, first) ← holding [ov] (getMethod ov "__init__" pl)
      callWith p5 f first (backTo p5 (starEach [.Constant (.str z0) z1 p3, .Name "what" p4] env)) []))
    (hsw : ∀ env : Env, swapsWith (.Call (.Attribute (.Call (.Name "super" p0) [] [] p1) "__init__" p2) [.Constant (.str z0) z1 p3, .Name "what" p4] [] p5) none p6.line env = pure false)
    (hsw2 : ∀ env : Env, swapsWith (.Name "what" p9) (some (.Attribute (.Name "self" p7) "what" p8)) q9.line env = pure false)
    (hin : ∀ env : Env, env.scope = defScope st → interactive env = false)
    (hk : (defScope st).kind = .function) (hco : (defScope st).isCoroutine = false) (hgen : (defScope st).isGenerator = false) (hcell : ∀ x ∈ (defScope st).names, x.2 ≠ .cell)
    (k1 : (defScope st).names.lookup ("self" : Str) = some .local) (k2 : (defScope st).names.lookup ("what" : Str) = some .local) (k3 : (defScope st).names.lookup ("super" : Str) = some .globalImplicit) (k4 : (defScope st).names.lookup ("__class__" : Str) = some .free)
    (kfr : ∀ x, (defScope st).names.lookup x = some .free → x = ("__class__" : Str)) :
    FnOk P w K mg base CX (k + 1) f fd ["self", "what"] (spBad C) := by
  refine ⟨fun vs H Q E ⟨a, z, e, _⟩ => by rw [e]; rfl, fun A outer s H args us vs Q E hr e0 hb r hsp => ?_⟩
  obtain ⟨a, z, rfl, hea, hq⟩ := hsp
  obtain ⟨oc, od, osl, kV, doc, pm, an, cda, ct, cc, cl, cld, csl, ccl, cdd, ccs, cvs, file, tf, cdD, rfl, lk, hcd, lcc, lcd, hvs, hfile, hD⟩ := S.ex
  have KX : K.In s.heap := e0.mod.kin.keeps fun b o e => (e0.bs b o e).1
  have lim : s.heap.NoLimit := e0.mod.nolimit.keeps fun b o e => (e0.bs b o e).1
  obtain ⟨u0, u1, rfl, r0, r1⟩ : ∃ u0 u1, us = [u0, u1] ∧ RelV (.ref a) u0 ∧ RelV (.str z) u1 := by
    cases r with
    | cons r0 rr =>
      cases rr with
      | cons r1 rr =>
        cases rr
        exact ⟨_, _, rfl, r0, r1⟩
  obtain rfl : u0 = Value.ref a := r0
  have nsw : (("what" : Str) == "self") = false := by decide +kernel
  refine PySem.ks_codeAny_call_defAt (body := defBody st) (binds := [("self", .ref a), ("what", u1)]) hr.depth (KX _ _ lk) rfl lim (PySem.W.codeRec_of KX hcd) rfl hb hcell (fun x hx => ?_) (fun h1 hns hk1 => ?_) hco hgen hk
  · have hx' : x = (("self" : Str), Value.ref a) ∨ x = (("what" : Str), u1) := by simpa using hx
    rcases hx' with q | q <;> rw [q]
    · exact k1
    · exact k2
  rw [hbody]
  let env : Env := PySem.W.ksEnv qual (defScope st) s.heap.objs.size f (.ref cda) cc
  let X : Cx := cxE CX P w K mg base ["self", "what"] env A outer s H E
  have bcc := e0.mod.kin _ _ lcc
  have I : Inv X [] [some (.ref a), some (.str z)] H { s with heap := h1, toks := s.toks + 2 } := by
    have noA : ∀ b : Addr, b ∉ X.ex := fun b z => absurd (show b ∈ ([] : List Addr) from z) (by simp)
    have cel : ∀ x c, X.env.cells.lookup x = some c → x = ("__class__" : Str) ∧ c = cc := fun x c h => by
      have h2 : ([("__class__", cc)] : List (Str × Addr)).lookup x = some c := h
      have h3 := PySem.mem_of_lookup h2
      simpa using h3
    refine ⟨⟨e0.mod, hk, rfl, rfl, Nat.le_refl _, fun y z c h1 h2 => ?_, fun y hy => ?_, fun y c q _ => absurd q (by simp [X, cxE]), fun _ => hr.hd, Around.frames_deeper e0.frames, .inr ⟨rfl, rfl⟩, fun b z => absurd z (noA b), e0.bs, e0.bsz, fun b _ _ => noA b, fun b z => absurd z (noA b), e0.funs, e0.frf⟩,
      rfl, e0.bare, Un.kept hk1, ⟨_, hns, fun i y v h1 h2 h3 => ?_⟩, fun y c h => ⟨some (.ref C), ?_⟩, e0.hok.fresh (Nat.le_refl _), fun y c h => ?_, fun p hp => absurd (show p ∈ ([] : List (Addr × Obj)) from hp) (by simp), e0.hok.kept hk1, rfl⟩
    · rw [(cel _ _ h1).1, (cel _ _ h2).1]
    · have hy : (defScope st).names.lookup y = some .cell ∨ (defScope st).names.lookup y = some .free := hy
      rcases hy with hy | hy
      · exact absurd rfl (hcell _ (PySem.mem_of_lookup hy))
      · rw [kfr _ hy]
        exact ⟨cc, rfl⟩
    · match i with
      | 0 =>
        cases h1
        cases h2
        exact ⟨.ref a, rfl, .inl ⟨k1, rfl⟩⟩
      | 1 =>
        cases h1
        cases h2
        exact ⟨u1, r1, .inl ⟨k2, rfl⟩⟩
      | i + 2 => cases h1
    · rw [(cel _ _ h).2]
      exact ⟨_, hk1 _ _ (e0.bs _ _ bcc).1, rfl⟩
    · rw [(cel _ _ h).2]
      exact (e0.bs _ _ bcc).2
  have Xa : X.A = A.deeper env := rfl
  obtain ⟨t1, ho⟩ := exo_at I.hok hea
  obtain ⟨oD, hD1, hD2⟩ : ∃ oD, h1.get? C = some oD ∧ oD.data = .cls cdD := by
    unfold PySem.W.clsIn at hD
    split at hD
    · rename_i c d cd' sl ho'
      cases hD
      exact ⟨_, I.kIn _ _ ho', rfl⟩
    · cases hD
  have nAC : a ≠ C := fun e => by
    rw [e, hD1] at ho
    cases ho
    cases hD2
  have IA : PySem.W.InstAt h1 a _ C none := ⟨ho, rfl, rfl, trivial⟩
  refine PySem.ks_wpAt_execs_cons (PySem.ks_wpAt_Expr_any (PySem.ks_wpAt_MethodCall (pl := pl) ?_ (hev _)) (hin _ rfl) (hsw _))
  refine PySem.ks_wpAt_super_base (env := env) k3 k4 (by decide +kernel) rfl (I.kIn _ _ lk) rfl hp rfl (I.kIn _ _ lcd) rfl hvs hfile htop ?_
  refine PySem.W.ks_loadName_global hk k3 ?_
  obtain ⟨mb, hb1, hb2⟩ := I.mod.blt
  refine Calls.loadGlobal_builtin (mg := mg) (I.mod.glob.keeps I.bk) hmg (hb1.keeps I.bk) ((hb2 "super" (by decide)).trans (show bootBuiltins "super" = some (.type "super") by decide +kernel)) ⟨rfl, ?_⟩
  refine wpAny_loadName_free hk k4 rfl ⟨_, I.kIn _ _ lcc, rfl⟩ ?_
  rw [ha0]
  refine wpAny_loadName_local hk k1 hns (v := .ref a) rfl ?_
  refine PySem.ks_wpAny_isType_cls hD1 hD2 ⟨rfl, ?_⟩
  refine PySem.ks_wpAny_call_super hD1 hD2 ho rfl (fun c e => nomatch e) (PySem.W.looks_mroIn I.kIn S.mro) (fun h2 eso k2' => ?_)
  have I2 : Inv X [] [some (.ref a), some (.str z)] H { s with heap := h2, toks := s.toks + 2 } := I.kept (t' := s.toks + 2) k2'
  obtain ⟨cdd2, hcl⟩ : ∃ cd, PySem.W.clsIn K C = some cd := ⟨_, hD⟩
  have hal : PySem.W.alongIn K "__init__" ((cdD.mro.dropWhile (· != .ref C)).drop 1) = some (some (.builtin "ValueError.__init__")) := by
    have q := S.sup
    unfold PySem.W.ks_superIn at q
    rw [hD] at q
    exact q
  refine PySem.W.kxs_getMethod PySem.W.kxs_ValueError eso (PySem.W.looks_opaque I2.kIn S.tp) (l₀ := cdD.mro) (fun A Q E s k q => wpAny_bind ((PySem.W.looks_clsIn I2.kIn hD) A _ E s k (wpAny_pure q))) rfl I2.kIn hal
    ((show PySem.W.Looks (model P w) h2 (typeOf (.ref a)) (.ref C) from (show PySem.W.InstAt h2 a _ C none from ⟨k2' _ _ ho, rfl, rfl, trivial⟩).type).andThen (PySem.W.looks_subIn I2.kIn S.ve)) nAC (by decide +kernel) ?_
  have I3 : Inv X [(h2.objs.size, PySem.W.kxs_mw "ValueError.__init__" a)] [some (.ref a), some (.str z)] H { s with heap := h2.push (PySem.W.kxs_mw "ValueError.__init__" a), toks := s.toks + 2 + 1 } := by
    refine (I2.kept (h' := h2.push (PySem.W.kxs_mw "ValueError.__init__" a)) (t' := s.toks + 2 + 1) fun b o e => Heap.get?_push_of_some _ e).pins_of fun p hp => ?_
    obtain rfl : p = (h2.objs.size, PySem.W.kxs_mw "ValueError.__init__" a) := by simpa using hp
    exact ⟨Heap.get?_push_size _ rfl, I2.hok.fresh (Nat.le_refl _), Nat.ne_of_gt I2.lt, I2.nofs (Nat.le_refl _), fun v q => nomatch q⟩
  have PAa : PA X [.Constant (.str z0) z1 p3, .Name "what" p4] (tCons (tC (.str z0)) (tCons (tVar 1) tNil)) := pa_cons pe_str (pa_cons (pv 1 rfl (.inl k2)) pa_nil)
  refine PySem.W.kxs_callWith (i := "ValueError.__init__") (x := a) (args := (false, eval (.Constant (.str z0) z1 p3) env) :: backTo p5 (starEach [.Name "what" p4] env)) rfl (Calls.evalArgs_plain ?_)
  refine thn (PAa.run p5 _ _ _ _ (fun vs H1 => vs = [.str z0, .str z] ∧ H1 = H) I3 ⟨.str z, rfl, rfl, rfl⟩) fun vs2 s4 hv => ?_
  obtain ⟨ws, H4, I4, r4, rfl, rfl⟩ := hv
  obtain ⟨hu, _⟩ := I4.pin (h2.objs.size, PySem.W.kxs_mw "ValueError.__init__" a) (List.mem_append_right _ List.mem_cons_self)
  refine ⟨hu, ?_⟩
  obtain ⟨nm, q, N, bs, bm, sn, sub, ab, col, dd, j0, j1, j2, j3, j5, hC, hbm⟩ := S.T.cls
  obtain ⟨t2, ho4⟩ := exo_at I4.hok hea
  have hl4 : vs2.length ≤ sizeLine := by
    rw [← Paired.length r4]
    show 2 ≤ sizeLine
    decide
  obtain ⟨hp4, g4, d4, tk4, os4⟩ := s4
  refine call_mw (rest := vs2) (I4.kIn _ _ hC) ho4 hu hl4 (fun h5 t5 k5 hx5 => ?_)
  have J := I4.write (t' := tk4) (x := a) (e := a) (o := exo a C none) (by rw [hea]; exact True.intro) (.inl rfl) k5 ⟨_, hx5⟩ (exo_ok hx5)
  have eu : upd H4 a (exo a C none) = H4 := by
    funext b
    by_cases hb : b = a
    · rw [hb, upd_same, hea]
    · rw [upd_ne hb]
  rw [eu] at J
  have J2 : Inv X [] [some (.ref a), some (.str z)] H4 _ := J.pins_of fun p hp => absurd hp (by simp)
  refine wpAt_of_wpAny ?_
  have PS2 : PSs X [.Assign [.Attribute (.Name "self" p7) "what" p8] (.Name "what" p9) q9] (tOst K "what" (tVar 0) (tVar 1)) := pss_one (ps_ost (pv 0 rfl (.inl k1)) (pv 1 rfl (.inl k2)) (hsw2 _))
  refine wpAny_mono (PS2.run [] _ _ _ { nx := fun _ H' => Q .non H', rt := Q } J2 ⟨.str z, rfl, .ref a, rfl, a, C, rfl, S.T, S.what, .inl ⟨hea, hq⟩⟩) (fun fl s' hs => ?_) fun e s' hs => hs
  have fin : ∀ {σ' : L2.St} {H' : Hp} {v : V} {u : Value}, Inv X [] σ' H' s' → RelV v u → Q v H' → CE outer P w H4 s Q u s' := fun {σ' H' v u} J rv q => ⟨v, H', J.os, J.bare, J.base, J.hok, rv, q⟩
  cases fl with
  | ret u =>
    obtain ⟨v, σ', H', J, rv, q⟩ := hs
    exact fin J rv q
  | next =>
    obtain ⟨σ', H', J, q⟩ := hs
    exact fin (v := V.non) (u := Value.none) J rfl q
  | brk =>
    obtain ⟨_, _, _, q⟩ := hs
    exact False.elim q
  | cont =>
    obtain ⟨_, _, _, q⟩ := hs
    exact False.elim q
theorem no_super : (P0.main.scope.names.lookup ("super" : Str)).isSome = false := by decide +kernel
abbrev s_BadView : Stmt := inClass (top 9) 0
theorem ok_BadView {CX : CXT} {w : World} {K : PySem.W.Frag} {mg : Str → Option Value} {base : Heap} {C f : Addr} {fd : FuncData} {k : Nat} (S : SupC P0 K C "BadView.__init__" s_BadView f fd) (hmg : mg "super" = none) : FnOk P0 w K mg base CX (k + 1) f fd ["self", "what"] (spBad C) :=
  sup_init S hmg no_super (by rfl) (by rfl) (by rfl) (by intro _; rfl) (by intro _; rfl) (by intro _; rfl) (fun env h => by unfold interactive; rw [h]; rfl) (by rfl) (by rfl) (by rfl) (by decide +kernel) (by decide +kernel) (by decide +kernel) (by decide +kernel) (by decide +kernel) (fun x h => by
    have h2 := PySem.mem_of_lookup h
    have h3 : (x, NameKind.free) = (("self" : Str), NameKind.local) ∨ (x, NameKind.free) = (("what" : Str), NameKind.local) ∨ (x, NameKind.free) = (("__class__" : Str), NameKind.free) ∨ (x, NameKind.free) = (("super" : Str), NameKind.globalImplicit) := by
      have h4 : (x, NameKind.free) ∈ [(("self" : Str), NameKind.local), ("what", NameKind.local), ("__class__", NameKind.free), ("super", NameKind.globalImplicit)] := h2
      simpa using h4
    rcases h3 with q | q | q | q <;> injection q with q1 q2 <;> first | exact q1 | cases q2)
abbrev s_BadSlope : Stmt := inClass (top 10) 0
theorem ok_BadSlope {CX : CXT} {w : World} {K : PySem.W.Frag} {mg : Str → Option Value} {base : Heap} {C f : Addr} {fd : FuncData} {k : Nat} (S : SupC P0 K C "BadSlope.__init__" s_BadSlope f fd) (hmg : mg "super" = none) : FnOk P0 w K mg base CX (k + 1) f fd ["self", "what"] (spBad C) :=
  sup_init S hmg no_super (by rfl) (by rfl) (by rfl) (by intro _; rfl) (by intro _; rfl) (by intro _; rfl) (fun env h => by unfold interactive; rw [h]; rfl) (by rfl) (by rfl) (by rfl) (by decide +kernel) (by decide +kernel) (by decide +kernel) (by decide +kernel) (by decide +kernel) (fun x h => by
    have h2 := PySem.mem_of_lookup h
    have h3 : (x, NameKind.free) = (("self" : Str), NameKind.local) ∨ (x, NameKind.free) = (("what" : Str), NameKind.local) ∨ (x, NameKind.free) = (("__class__" : Str), NameKind.free) ∨ (x, NameKind.free) = (("super" : Str), NameKind.globalImplicit) := by
      have h4 : (x, NameKind.free) ∈ [(("self" : Str), NameKind.local), ("what", NameKind.local), ("__class__", NameKind.free), ("super", NameKind.globalImplicit)] := h2
      simpa using h4
    rcases h3 with q | q | q | q <;> injection q with q1 q2 <;> first | exact q1 | cases q2)
end Sk
namespace Sk
open PySem PySem.Spec PyProof.Rows L2
/-! step words: z one step, zz as far as it goes, at: what stands at an address -/
local macro_rules
  | `(tactic| walk_at "zz") => `(tactic| repeat first
    | (with_reducible refine z_seq ?_) | (with_reducible refine z_asg ?_) | (with_reducible refine z_gname ?_) | (with_reducible refine z_var (by with_unfolding_all rfl) ?_)
    | (with_reducible refine z_c ?_) | (with_reducible refine z_op ?_) | (with_reducible refine z_cons ?_) | (with_reducible refine z_nil ?_)
    | (with_reducible refine z_next ?_) | (with_reducible refine z_call ?_) | (with_reducible refine z_drop ?_) | (with_reducible refine z_ret ?_)
    | (with_reducible refine z_ifs ?_) | (with_reducible refine z_un ?_) | (with_reducible refine z_chain ?_) | (with_reducible refine z_rI0 ?_)
    | (with_reducible refine z_eqI ?_) | (with_reducible refine z_neI ?_) | (with_reducible refine z_eqS ?_) | (with_reducible refine z_neS ?_)
    | (with_reducible refine z_eqB ?_) | (with_reducible refine z_neB ?_) | (with_reducible refine z_test ?_) | (with_reducible refine z_tB ?_)
    | (with_reducible refine z_bl ?_) | (with_reducible refine z_and ?_) | (with_reducible refine z_or ?_) | (with_reducible refine z_not ?_)
    | (with_reducible refine z_andV ?_) | (with_reducible refine z_orV ?_) | (with_reducible refine z_notV ?_) | (with_reducible refine z_if ?_)
    | (with_reducible refine z_cb ?_) | (with_reducible refine z_part ?_) | (with_reducible refine z_noPart ?_) | (with_reducible refine z_int ?_)
    | (with_reducible refine z_sl ?_) | (with_reducible refine z_fld ?_) | (with_reducible refine z_tup ?_) | (with_reducible refine z_lst ?_)
    | (with_reducible refine z_bm ?_) | (with_reducible refine z_bm0 ?_) | (with_reducible refine z_fldS ?_) | (with_reducible refine z_rU ?_)
    | (with_reducible refine v_intI ?_) | (with_reducible refine v_intB ?_) | (with_reducible refine v_abs ?_) | (with_reducible refine v_isN ?_)
    | (with_reducible refine v_notN ?_) | (with_reducible refine v_cnt ?_) | (with_reducible refine z_make ?_) | (with_reducible refine z_tru ?_)
    | (with_reducible refine z_m1 ?_) | (with_reducible refine z_strI ?_) | (with_reducible refine z_zS ?_) | (with_reducible refine z_eS ?_)
    | (with_reducible refine v_isII ?_) | (with_reducible refine v_isIB ?_) | (with_reducible refine v_isBI ?_) | (with_reducible refine v_isBB ?_)
    | (with_reducible refine v_isNI ?_) | (with_reducible refine v_isIT ?_) | (with_reducible refine v_isST ?_) | (with_reducible refine v_isSS ?_)
    | (with_reducible refine v_isIS ?_) | (with_reducible refine z_sub ?_) | (with_reducible refine z_gcons ?_) | (with_reducible refine z_gnil ?_)
    | (with_reducible refine z_par ?_) | (with_reducible refine v_par ?_) | (with_reducible refine z_par3 ?_) | (with_reducible refine v_par3 ?_)
    | (with_reducible refine v_ipI ?_) | (with_reducible refine z_for ?_) | (with_reducible refine z_lc ?_) | (with_reducible refine z_yes ?_)
    | (with_reducible refine z_rng1 ?_) | (with_reducible refine z_rng2 ?_) | (with_reducible refine z_list ?_) | (with_reducible refine z_tupi ?_)
    | (with_reducible refine z_stri ?_) | (with_reducible refine v_istr ?_) | (with_reducible refine iteT ?_) | (with_reducible refine iteF ?_)
    | (with_reducible refine z_nT ?_) | (with_reducible refine z_nF ?_) | (with_reducible refine z_cont ?_) | (with_reducible refine z_brk ?_)
    | (with_reducible refine z_retN ?_) | (walk_at "zn"))
  | `(tactic| walk_at "zn") => `(tactic| first
    | ((with_reducible refine' v_ixL ?k1 ?k2 ?_); (case k1 => walk_at "sq"); (case k2 => rfl)) | ((with_reducible refine' v_ixT ?k1 ?k2 ?_); (case k1 => walk_at "st"); (case k2 => rfl)) | ((with_reducible refine' v_lenL ?k1 ?_); (case k1 => walk_at "sq")) | ((with_reducible refine' v_lenT ?k1 ?_); (case k1 => walk_at "st"))
    | ((with_reducible refine' v_slS ?k1 ?_); (case k1 => (rw [enc_len]; exact small (by omega)))) | ((with_reducible refine' v_lenS ?k1 ?_); (case k1 => (rw [enc_len]; exact small (by omega)))) | ((with_reducible refine' v_slL ?k1 ?_); (case k1 => walk_at "sq")) | ((with_reducible refine' z_tyL ?k1 ?_); (case k1 => walk_at "at"))
    | ((with_reducible refine' v_fld ?k1 ?k2 ?k3 ?k4 ?_); (case k1 => walk_at "at"); (case k2 => assumption); (case k3 => assumption); (case k4 => first | assumption | rfl)) | ((with_reducible refine' v_truL ?k1 ?_); (case k1 => walk_at "at")) | ((with_reducible refine' z_wipe ?k1 ?_); (case k1 => rfl)) | ((with_reducible refine' v_gtup ?k1 ?k2 ?_); (case k1 => walk_at "st"); (case k2 => rfl))
    | ((with_reducible refine' z_aug ?k1 ?_); (case k1 => rfl)) | ((with_reducible refine' v_ilist ?k1 ?_); (case k1 => walk_at "sq")) | ((with_reducible refine' v_itup ?k1 ?_); (case k1 => walk_at "st")) | ((with_reducible refine' z_rI ?k1 ?_); (case k1 => first | (show (_ : Int) ≠ _; omega) | exact .inl ⟨by decide, by decide⟩ | exact .inr ⟨by decide, by decide⟩ | exact ⟨by decide, by decide⟩ | exact .inl ⟨by omega, by omega⟩ | exact .inr ⟨by omega, by omega⟩))
    | ((with_reducible refine' z_var ?hv ?_); (case hv => rfl)))
  | `(tactic| walk_at "at") => `(tactic| first
    | assumption
    | ((with_reducible refine' same_at ?k1 ?k2); (case k1 => assumption); (case k2 => walk_at "at"))
    | ((with_reducible refine' but_at ?k1 ?k2 ?k3); (case k1 => assumption); (case k2 => first | assumption | (apply Ne.symm; assumption)); (case k3 => walk_at "at")))
  | `(tactic| walk_at "sq") => `(tactic| first
    | assumption
    | (refine' SqL.of ?k1; (case k1 => walk_at "at"))
    | ((with_reducible refine' Same.seq ?k1 ?k2); (case k1 => assumption); (case k2 => walk_at "sq")))
  | `(tactic| walk_at "st") => `(tactic| first
    | assumption
    | (refine' SqT.of ?k1; (case k1 => walk_at "at"))
    | ((with_reducible refine' same_tup ?k1 ?k2); (case k1 => assumption); (case k2 => walk_at "st")))
  | `(tactic| walk_at "sa") => `(tactic| first
    | assumption
    | exact Same.refl _
    | (refine' Same.trans ?k1 ?k2; (case k2 => assumption); (case k1 => walk_at "sa")))
/-! Checks that raise. -/
open ClX (tCMeth)
abbrev s_check_print : Stmt := top 29
abbrev N_check_print : List Str := ["card", "printed"]
theorem sc_check_print : FnScope N_check_print ["card", "printed"] (defScope s_check_print) := ⟨rfl, rfl, rfl, by decide +kernel, rfl, by decide +kernel, by decide +kernel⟩
abbrev s_check_cards : Stmt := top 30
abbrev N_check_cards : List Str := ["one", "other"]
theorem sc_check_cards : FnScope N_check_cards ["one", "other"] (defScope s_check_cards) := ⟨rfl, rfl, rfl, by decide +kernel, rfl, by decide +kernel, by decide +kernel⟩
abbrev s_check_slope : Stmt := top 31
abbrev N_check_slope : List Str := ["p", "q"]
theorem sc_check_slope : FnScope N_check_slope ["p", "q"] (defScope s_check_slope) := ⟨rfl, rfl, rfl, by decide +kernel, rfl, by decide +kernel, by decide +kernel⟩
structure ExG (P : Program) (w : World) (K : PySem.W.Frag) (mg : Str → Option Value) (base : Heap) (CX : CXT) (k : Nat) (cn : Str) : Prop where
  ex : ∃ f fd, OexC K (He.ga K cn) ∧ PySem.W.findIn K (.ref (He.ga K cn)) "__init__" = some (some (.ref f)) ∧ PySem.W.typeIn K (.ref f) = some (.type "function") ∧ FnOk P w K mg base CX k f fd ["self", "what"] (spBad (He.ga K cn)) ∧ Binds K fd ["self", "what"] [] ∧ mg cn = some (.ref (He.ga K cn))
theorem pmk_bad {X : Cx} {K : PySem.W.Frag} {CX : CXT} {k : Nat} {cn : Str} {p pos : Pos} {e : Expr} {es : List Expr} {ta : TA} (eK : X.K = K) (G : ExG X.prog X.w K X.mg X.base CX k cn) (hr : Room (k + 1) X.A) (hx : Passes CX X (fun _ _ _ => False)) (hg : Gl X cn) (ha : PA X (e :: es) ta)
    (hdb : (cn == ("__debug__" : Str)) = false := by decide) (he : starEach (e :: es) X.env = (false, eval e X.env) :: starEach es X.env := by rfl) (hpl : (backTo pos (starEach es X.env)).any (·.1) = false := by rfl) :
    PMk X (.Call (.Name cn p) (e :: es) [] pos) (tMkO (He.ga K cn) (spBad (He.ga K cn)) [] ta) := by
  subst eK
  obtain ⟨f, fd, T, iC, tI, F, b, hm⟩ := G.ex
  exact pmk_oex T iC tI F hr b .nil hx hg hm ha hdb he hpl
def nBad (C : Addr) (vs : List V) (H1 : Hp) (Q : XK) : Prop := ∃ z, vs = [.str z] ∧ ∀ d H', H1 d = none → Same H1 H' → H' d = some (.xd [("what", .str z)]) → Q (.ref C) (some d) H'
theorem v_bad {C : Addr} {z : Str} {σ : L2.St} {H : Hp} {Q : XK} (h : ∀ d H', H d = none → Same H H' → H' d = some (.xd [("what", .str z)]) → Q (.ref C) (some d) H') : tMkO C (spBad C) [] (tCons (tC (.str z)) tNil) σ H Q := by
  refine ⟨by simp, fun a na => ?_⟩
  refine ⟨a, z, rfl, upd_same, fun dx ndx ne => ?_⟩
  have nd : H dx = none := by rwa [upd_ne ne] at ndx
  refine ⟨rfl, dx, [("what", .str z)], upd_same, ?_, nd, h dx _ nd ?_ upd_same⟩
  · rw [upd_ne ne, upd_same]
  · intro b o hb
    have b1 : b ≠ a := ne_of_none hb na
    have b2 : b ≠ dx := ne_of_none hb nd
    rw [upd_ne b2, del_ne b1, upd_ne b1, upd_ne b2, upd_ne b1]
    exact hb
def spChkPrint (K : PySem.W.Frag) : Sp := fun vs H Q E => ∃ (a b : Addr) (ws : Ws) (rs : Rs) (L n L' n' : Nat), vs = [.ref a, .ref b] ∧ CardAt K H a ws L n ∧ PrintAt K H b rs L' n' ∧ ((L' = L ∧ n' = n ∧ Q .non H) ∨
  (¬ (L' = L ∧ n' = n) ∧ ∀ d H', H d = none → Same H H' → H' d = some (.xd [("what", .str "print")]) → E (.ref (He.ga K "BadView")) (some d) H'))
def spChkCards (K : PySem.W.Frag) : Sp := fun vs H Q E => ∃ (a b : Addr) (ws us : Ws) (L n L' n' : Nat), vs = [.ref a, .ref b] ∧ CardAt K H a ws L n ∧ CardAt K H b us L' n' ∧ ((L' = L ∧ n' = n ∧ Q .non H) ∨
  (¬ (L' = L ∧ n' = n) ∧ ∀ d H', H d = none → Same H H' → H' d = some (.xd [("what", .str "cards")]) → E (.ref (He.ga K "BadView")) (some d) H'))
/-- what is wrong with a slope -/
def Slope (x y : V) : Option Str → Prop
  | none => ∃ p q : Nat, x = .int p ∧ y = .int q ∧ p ≤ 9 ∧ q ≤ 9 ∧ 1 ≤ p + q
  | some z => (z = "p" ∧ ((∃ i : Int, x = .int i ∧ ¬ (0 ≤ i ∧ i ≤ 9)) ∨ (∃ b, x = .bl b) ∨ x = .non)) ∨
      (z = "q" ∧ (∃ p : Nat, x = .int p ∧ p ≤ 9) ∧ ((∃ i : Int, y = .int i ∧ ¬ (0 ≤ i ∧ i ≤ 9)) ∨ (∃ b, y = .bl b) ∨ y = .non)) ∨ (z = "both" ∧ x = .int 0 ∧ y = .int 0)
def spChkSlope (K : PySem.W.Frag) : Sp := fun vs H Q E => ∃ (x y : V) (o : Option Str), vs = [x, y] ∧ Slope x y o ∧ (o = none → Q .non H) ∧ (∀ z, o = some z → ∀ d H', H d = none → Same H H' → H' d = some (.xd [("what", .str z)]) → E (.ref (He.ga K "BadSlope")) (some d) H')
section
variable {P : Program} {w : World} {K : PySem.W.Frag} {mg : Str → Option Value} {base : Heap}
theorem ok_check_print (D : DefAt K mg "check_print" ["card", "printed"] s_check_print) (T : Tx K mg) (X_BadView : ExG P w K mg base CX0 1 "BadView") : Glo P w K mg base (L2.CX P w) 3 "check_print" ["card", "printed"] (spChkPrint K) := by
  refine D.okX 2 sc_check_print (fun vs H Q E h => ?_) (fun f cdv A outer s H vs Q E hr h => ?_)
  · obtain ⟨a, b, ws, rs, L, n, L', n', rfl, _⟩ := h
    rfl
  · obtain ⟨a, b, ws, rs, L, n, L', n', rfl, Ca, Pb, h⟩ := h
    obtain ⟨dx, fs, p, h1, h2, h3, h4, h5⟩ := Ca
    obtain ⟨dx', fs', p', xs, g1, g2, g3, g4, g5, g6⟩ := Pb
    have tk := takes_of (X := cxOf (L2.CX P w) P w K mg base N_check_print "check_print" (defScope s_check_print) f cdv A outer s H E) (E := E) rfl rfl rfl rfl
    refine ⟨_, (pss_one (ps_if (PW.pt (pw_or (pt_cmpR op_ne (fldK (K := K) rfl (pv 1) rfl) (fldK (K := K) rfl (pv 0) rfl) (nomark _)) (pw_or1 (pt_cmpR op_ne (fldK (K := K) rfl (pv 1) rfl) (fldK (K := K) rfl (pv 0) rfl) (nomark _))))) (pss_one (ps_raise rfl tk (pmk_bad (K := K) rfl X_BadView (hr.mono (by decide)) pass0 rfl (pa_cons pe_str pa_nil)))) pss_nil)), ?_⟩
    have cl1 := T.c_Card
    have cl2 := T.c_Print
    have cl3 := T.a_Card_size
    have cl4 := T.a_Card_width
    have cl5 := T.a_Card_words
    have cl6 := T.a_Print_size
    have cl7 := T.a_Print_width
    have cl8 := T.a_Print_inks
    walk_at "zz"
    rcases h with ⟨rfl, rfl, q⟩ | ⟨ne, q⟩
    · refine v_ifF (by simp) ?_
      walk_at "zz"
      refine v_ifF (by simp) ?_
      walk_at "zz"
      exact q
    · refine v_if (fun e1 => ?_) (fun e1 => ?_)
      · walk_at "zz"
        exact v_bad q
      · walk_at "zz"
        refine v_if (fun e2 => ?_) (fun e2 => ?_)
        · walk_at "zz"
          exact v_bad q
        · simp at e1 e2
          exact absurd ⟨by omega, by omega⟩ ne
theorem ok_check_cards (D : DefAt K mg "check_cards" ["one", "other"] s_check_cards) (T : Tx K mg) (X_BadView : ExG P w K mg base CX0 1 "BadView") : Glo P w K mg base (L2.CX P w) 3 "check_cards" ["one", "other"] (spChkCards K) := by
  refine D.okX 2 sc_check_cards (fun vs H Q E h => ?_) (fun f cdv A outer s H vs Q E hr h => ?_)
  · obtain ⟨a, b, ws, us, L, n, L', n', rfl, _⟩ := h
    rfl
  · obtain ⟨a, b, ws, us, L, n, L', n', rfl, Ca, Cb, h⟩ := h
    obtain ⟨dx, fs, p, h1, h2, h3, h4, h5⟩ := Ca
    obtain ⟨dx', fs', p', g1, g2, g3, g4, g5⟩ := Cb
    have tk := takes_of (X := cxOf (L2.CX P w) P w K mg base N_check_cards "check_cards" (defScope s_check_cards) f cdv A outer s H E) (E := E) rfl rfl rfl rfl
    refine ⟨_, (pss_one (ps_if (PW.pt (pw_or (pt_cmpR op_ne (fldK (K := K) rfl (pv 0) rfl) (fldK (K := K) rfl (pv 1) rfl) (nomark _)) (pw_or1 (pt_cmpR op_ne (fldK (K := K) rfl (pv 0) rfl) (fldK (K := K) rfl (pv 1) rfl) (nomark _))))) (pss_one (ps_raise rfl tk (pmk_bad (K := K) rfl X_BadView (hr.mono (by decide)) pass0 rfl (pa_cons pe_str pa_nil)))) pss_nil)), ?_⟩
    have cl1 := T.c_Card
    have cl2 := T.c_Print
    have cl3 := T.a_Card_size
    have cl4 := T.a_Card_width
    have cl5 := T.a_Card_words
    have cl6 := T.a_Print_size
    have cl7 := T.a_Print_width
    have cl8 := T.a_Print_inks
    walk_at "zz"
    rcases h with ⟨rfl, rfl, q⟩ | ⟨ne, q⟩
    · refine v_ifF (by simp) ?_
      walk_at "zz"
      refine v_ifF (by simp) ?_
      walk_at "zz"
      exact q
    · refine v_if (fun e1 => ?_) (fun e1 => ?_)
      · walk_at "zz"
        exact v_bad q
      · walk_at "zz"
        refine v_if (fun e2 => ?_) (fun e2 => ?_)
        · walk_at "zz"
          exact v_bad q
        · simp at e1 e2
          exact absurd ⟨by omega, by omega⟩ ne
theorem ok_check_slope (D : DefAt K mg "check_slope" ["p", "q"] s_check_slope) (T : Tx K mg) (X_BadSlope : ExG P w K mg base CX0 1 "BadSlope") (G_is_whole : Glo P w K mg base CX0 1 "is_whole" ["thing", "low", "high"] spWhole) : Glo P w K mg base (L2.CX P w) 3 "check_slope" ["p", "q"] (spChkSlope K) := by
  refine D.okX 2 sc_check_slope (fun vs H Q E h => ?_) (fun f cdv A outer s H vs Q E hr h => ?_)
  · obtain ⟨x, y, o, rfl, _⟩ := h
    rfl
  · obtain ⟨x, y, o, rfl, S, q, e⟩ := h
    have tk := takes_of (X := cxOf (L2.CX P w) P w K mg base N_check_slope "check_slope" (defScope s_check_slope) f cdv A outer s H E) (E := E) rfl rfl rfl rfl
    refine ⟨_, (pss_cons (ps_if (pt_not (pt_val (pe_g G_is_whole (hr.mono (by decide)) rfl pass0 (pa_cons (pv 0) (pa_cons pe_int (pa_cons (pe_glob (v := .int 9) rfl T.v_STEEPEST.choose_spec ⟨_, rfl⟩) pa_nil)))))) (pss_one (ps_raise rfl tk (pmk_bad (K := K) rfl X_BadSlope (hr.mono (by decide)) pass0 rfl (pa_cons pe_str pa_nil)))) pss_nil)
      (pss_cons (ps_if (pt_not (pt_val (pe_g G_is_whole (hr.mono (by decide)) rfl pass0 (pa_cons (pv 1) (pa_cons pe_int (pa_cons (pe_glob (v := .int 9) rfl T.v_STEEPEST.choose_spec ⟨_, rfl⟩) pa_nil)))))) (pss_one (ps_raise rfl tk (pmk_bad (K := K) rfl X_BadSlope (hr.mono (by decide)) pass0 rfl (pa_cons pe_str pa_nil)))) pss_nil)
      (pss_one (ps_if (PW.pt (pw_and (pt_cmpR op_eq (pv 0) pe_int (nomark _)) (pw_and1 (pt_cmpR op_eq (pv 1) pe_int (nomark _))))) (pss_one (ps_raise rfl tk (pmk_bad (K := K) rfl X_BadSlope (hr.mono (by decide)) pass0 rfl (pa_cons pe_str pa_nil)))) pss_nil)))), ?_⟩
    have bad : ∀ v : V, ((∃ i : Int, v = .int i ∧ ¬ (0 ≤ i ∧ i ≤ 9)) ∨ (∃ b, v = .bl b) ∨ v = .non) → ∀ Q' : VK, Q' (.bl false) H → spWhole [v, .int 0, .int 9] H Q' E0 := by
      rintro v (⟨i, rfl, hi⟩ | h) Q' hq
      · refine ⟨_, _, _, rfl, .inl ⟨i, rfl, ?_⟩⟩
        have e : (decide ((0 : Int) ≤ i) && decide (i ≤ 9)) = false := by
          rw [← Bool.decide_and]
          exact decide_eq_false hi
        rw [e]
        exact hq
      · exact ⟨_, _, _, rfl, .inr ⟨h, hq⟩⟩
    have good : ∀ p : Nat, p ≤ 9 → ∀ Q' : VK, Q' (.bl true) H → spWhole [.int p, .int 0, .int 9] H Q' E0 := by
      intro p hp Q' hq
      refine ⟨_, _, _, rfl, .inl ⟨p, rfl, ?_⟩⟩
      rw [decide_eq_true (show (0 : Int) ≤ p by omega), decide_eq_true (show (p : Int) ≤ 9 by omega), Bool.and_true]
      exact hq
    walk_at "zz"
    cases o with
    | none =>
      obtain ⟨p, q', rfl, rfl, h1, h2, h3⟩ := S
      refine good p h1 _ ?_
      walk_at "zz"
      refine good q' h2 _ ?_
      walk_at "zz"
      refine v_if (fun e1 => ?_) (fun e1 => ?_)
      · walk_at "zz"
        refine v_ifF (by simp at e1 ⊢; omega) ?_
        walk_at "zz"
        exact q rfl
      · walk_at "zz"
        exact q rfl
    | some z =>
      rcases S with ⟨rfl, h⟩ | ⟨rfl, ⟨p, rfl, hp⟩, h⟩ | ⟨rfl, rfl, rfl⟩
      · refine bad x h _ ?_
        walk_at "zz"
        exact v_bad (e _ rfl)
      · refine good p hp _ ?_
        walk_at "zz"
        refine bad y h _ ?_
        walk_at "zz"
        exact v_bad (e _ rfl)
      · refine good 0 (by omega) _ ?_
        walk_at "zz"
        refine good 0 (by omega) _ ?_
        walk_at "zz"
        refine v_ifT (by simp) ?_
        walk_at "zz"
        refine v_ifT (by simp) ?_
        walk_at "zz"
        exact v_bad (e _ rfl)
end
end Sk
namespace Sk
open PySem PySem.Spec PyProof.Rows L2
/-! step words: z one step, zz as far as it goes, at: what stands at an address -/
local macro_rules
  | `(tactic| walk_at "zz") => `(tactic| repeat first
    | (with_reducible refine z_seq ?_) | (with_reducible refine z_asg ?_) | (with_reducible refine z_gname ?_) | (with_reducible refine z_var (by with_unfolding_all rfl) ?_)
    | (with_reducible refine z_c ?_) | (with_reducible refine z_op ?_) | (with_reducible refine z_cons ?_) | (with_reducible refine z_nil ?_)
    | (with_reducible refine z_next ?_) | (with_reducible refine z_call ?_) | (with_reducible refine z_drop ?_) | (with_reducible refine z_ret ?_)
    | (with_reducible refine z_ifs ?_) | (with_reducible refine z_un ?_) | (with_reducible refine z_chain ?_) | (with_reducible refine z_rI0 ?_)
    | (with_reducible refine z_eqI ?_) | (with_reducible refine z_neI ?_) | (with_reducible refine z_eqS ?_) | (with_reducible refine z_neS ?_)
    | (with_reducible refine z_eqB ?_) | (with_reducible refine z_neB ?_) | (with_reducible refine z_test ?_) | (with_reducible refine z_tB ?_)
    | (with_reducible refine z_bl ?_) | (with_reducible refine z_and ?_) | (with_reducible refine z_or ?_) | (with_reducible refine z_not ?_)
    | (with_reducible refine z_andV ?_) | (with_reducible refine z_orV ?_) | (with_reducible refine z_notV ?_) | (with_reducible refine z_if ?_)
    | (with_reducible refine z_cb ?_) | (with_reducible refine z_part ?_) | (with_reducible refine z_noPart ?_) | (with_reducible refine z_int ?_)
    | (with_reducible refine z_sl ?_) | (with_reducible refine z_fld ?_) | (with_reducible refine z_tup ?_) | (with_reducible refine z_lst ?_)
    | (with_reducible refine z_bm ?_) | (with_reducible refine z_bm0 ?_) | (with_reducible refine z_fldS ?_) | (with_reducible refine z_rU ?_)
    | (with_reducible refine v_intI ?_) | (with_reducible refine v_intB ?_) | (with_reducible refine v_abs ?_) | (with_reducible refine v_isN ?_)
    | (with_reducible refine v_notN ?_) | (with_reducible refine v_cnt ?_) | (with_reducible refine z_make ?_) | (with_reducible refine z_tru ?_)
    | (with_reducible refine z_m1 ?_) | (with_reducible refine z_strI ?_) | (with_reducible refine z_zS ?_) | (with_reducible refine z_eS ?_)
    | (with_reducible refine v_isII ?_) | (with_reducible refine v_isIB ?_) | (with_reducible refine v_isBI ?_) | (with_reducible refine v_isBB ?_)
    | (with_reducible refine v_isNI ?_) | (with_reducible refine v_isIT ?_) | (with_reducible refine v_isST ?_) | (with_reducible refine v_isSS ?_)
    | (with_reducible refine v_isIS ?_) | (with_reducible refine z_sub ?_) | (with_reducible refine z_gcons ?_) | (with_reducible refine z_gnil ?_)
    | (with_reducible refine z_par ?_) | (with_reducible refine v_par ?_) | (with_reducible refine z_par3 ?_) | (with_reducible refine v_par3 ?_)
    | (with_reducible refine v_ipI ?_) | (with_reducible refine z_for ?_) | (with_reducible refine z_lc ?_) | (with_reducible refine z_yes ?_)
    | (with_reducible refine z_rng1 ?_) | (with_reducible refine z_rng2 ?_) | (with_reducible refine z_list ?_) | (with_reducible refine z_tupi ?_)
    | (with_reducible refine z_stri ?_) | (with_reducible refine v_istr ?_) | (with_reducible refine iteT ?_) | (with_reducible refine iteF ?_)
    | (with_reducible refine z_nT ?_) | (with_reducible refine z_nF ?_) | (with_reducible refine z_cont ?_) | (with_reducible refine z_brk ?_)
    | (with_reducible refine z_retN ?_) | (walk_at "zn"))
  | `(tactic| walk_at "zn") => `(tactic| first
    | ((with_reducible refine' v_ixL ?k1 ?k2 ?_); (case k1 => walk_at "sq"); (case k2 => rfl)) | ((with_reducible refine' v_ixT ?k1 ?k2 ?_); (case k1 => walk_at "st"); (case k2 => rfl)) | ((with_reducible refine' v_lenL ?k1 ?_); (case k1 => walk_at "sq")) | ((with_reducible refine' v_lenT ?k1 ?_); (case k1 => walk_at "st"))
    | ((with_reducible refine' v_slS ?k1 ?_); (case k1 => (rw [enc_len]; exact small (by omega)))) | ((with_reducible refine' v_lenS ?k1 ?_); (case k1 => (rw [enc_len]; exact small (by omega)))) | ((with_reducible refine' v_slL ?k1 ?_); (case k1 => walk_at "sq")) | ((with_reducible refine' z_tyL ?k1 ?_); (case k1 => walk_at "at"))
    | ((with_reducible refine' v_fld ?k1 ?k2 ?k3 ?k4 ?_); (case k1 => walk_at "at"); (case k2 => assumption); (case k3 => assumption); (case k4 => first | assumption | rfl)) | ((with_reducible refine' v_truL ?k1 ?_); (case k1 => walk_at "at")) | ((with_reducible refine' z_wipe ?k1 ?_); (case k1 => rfl)) | ((with_reducible refine' v_gtup ?k1 ?k2 ?_); (case k1 => walk_at "st"); (case k2 => rfl))
    | ((with_reducible refine' z_aug ?k1 ?_); (case k1 => rfl)) | ((with_reducible refine' v_ilist ?k1 ?_); (case k1 => walk_at "sq")) | ((with_reducible refine' v_itup ?k1 ?_); (case k1 => walk_at "st")) | ((with_reducible refine' z_rI ?k1 ?_); (case k1 => first | (show (_ : Int) ≠ _; omega) | exact .inl ⟨by decide, by decide⟩ | exact .inr ⟨by decide, by decide⟩ | exact ⟨by decide, by decide⟩ | exact .inl ⟨by omega, by omega⟩ | exact .inr ⟨by omega, by omega⟩))
    | ((with_reducible refine' z_var ?hv ?_); (case hv => rfl)))
  | `(tactic| walk_at "at") => `(tactic| first
    | assumption
    | ((with_reducible refine' same_at ?k1 ?k2); (case k1 => assumption); (case k2 => walk_at "at"))
    | ((with_reducible refine' but_at ?k1 ?k2 ?k3); (case k1 => assumption); (case k2 => first | assumption | (apply Ne.symm; assumption)); (case k3 => walk_at "at")))
  | `(tactic| walk_at "sq") => `(tactic| first
    | assumption
    | (refine' SqL.of ?k1; (case k1 => walk_at "at"))
    | ((with_reducible refine' Same.seq ?k1 ?k2); (case k1 => assumption); (case k2 => walk_at "sq")))
  | `(tactic| walk_at "st") => `(tactic| first
    | assumption
    | (refine' SqT.of ?k1; (case k1 => walk_at "at"))
    | ((with_reducible refine' same_tup ?k1 ?k2); (case k1 => assumption); (case k2 => walk_at "st")))
  | `(tactic| walk_at "sa") => `(tactic| first
    | assumption
    | exact Same.refl _
    | (refine' Same.trans ?k1 ?k2; (case k2 => assumption); (case k1 => walk_at "sa")))
/-! Pieces, first differences. -/
abbrev s_column_pieces : Stmt := top 35
abbrev N_column_pieces : List Str := ["word", "row", "p", "q", "pieces", "letter", "ink", "length"]
theorem sc_column_pieces : FnScope N_column_pieces ["word", "row", "p", "q"] (defScope s_column_pieces) := ⟨rfl, rfl, rfl, by decide +kernel, rfl, by decide +kernel, by decide +kernel⟩
abbrev s_inks_by_spot : Stmt := top 42
abbrev N_inks_by_spot : List Str := ["pieces", "inks", "ink", "length"]
theorem sc_inks_by_spot : FnScope N_inks_by_spot ["pieces"] (defScope s_inks_by_spot) := ⟨rfl, rfl, rfl, by decide +kernel, rfl, by decide +kernel, by decide +kernel⟩
abbrev s_first_unlike_spot : Stmt := top 41
abbrev N_first_unlike_spot : List Str := ["pieces", "others", "ends", "spot", "inks"]
theorem sc_first_unlike_spot : FnScope N_first_unlike_spot ["pieces", "others"] (defScope s_first_unlike_spot) := ⟨rfl, rfl, rfl, by decide +kernel, rfl, by decide +kernel, by decide +kernel⟩
abbrev s_first_unlike_step : Stmt := top 39
abbrev N_first_unlike_step : List Str := ["one", "other", "step", "letters"]
theorem sc_first_unlike_step : FnScope N_first_unlike_step ["one", "other"] (defScope s_first_unlike_step) := ⟨rfl, rfl, rfl, by decide +kernel, rfl, by decide +kernel, by decide +kernel⟩
abbrev Pcs := List (Int × Nat)
def pcs (ps : Pcs) : List (List Int) := ps.map fun x => [x.1, (x.2 : Int)]
def expand (ps : Pcs) : List Int := (ps.map fun x => List.replicate x.2 x.1).flatten
theorem expand_app (ps qs : Pcs) : expand (ps ++ qs) = expand ps ++ expand qs := by
  unfold expand
  rw [List.map_append, List.flatten_append]
theorem expand_one (i : Int) (k : Nat) : expand [(i, k)] = List.replicate k i := by
  simp [expand]
theorem pcs_len (ps : Pcs) : (pcs ps).length = ps.length := List.length_map ..
def spPieces : Sp := fun vs H Q _ => ∃ (w : List Bool) (r : Addr) (is : List Int) (p q : Nat), vs = [encV w, .ref r, .int p, .int q] ∧ w.length ≤ 12 ∧ is.length = w.length ∧ H r = some (.tup (is.map .int)) ∧ p ≤ 9 ∧ q ≤ 9 ∧
  ∀ t xs ps H', H t = none → Same H H' → H' t = some (.tup xs) → Tups H' xs (pcs ps) → expand ps = seen p q w is → Q (.ref t) H'
def spBySpot : Sp := fun vs H Q _ => ∃ (t : Addr) (xs : List V) (ps : Pcs), vs = [.ref t] ∧ H t = some (.tup xs) ∧ Tups H xs (pcs ps) ∧ (expand ps).length ≤ 3000 ∧ ∀ l H', H l = none → Same H H' → H' l = some (.lst (iL (expand ps))) → Q (.ref l) H'
def optN (o : Option Nat) : V := match o with
  | none => .non
  | some t => .int t
def spUnlike : Sp := fun vs H Q _ => ∃ (t u : Addr) (xs ys : List V) (ps qs : Pcs), vs = [.ref t, .ref u] ∧ H t = some (.tup xs) ∧ Tups H xs (pcs ps) ∧ (expand ps).length ≤ 3000 ∧ H u = some (.tup ys) ∧ Tups H ys (pcs qs) ∧ (expand qs).length = (expand ps).length ∧ ∀ H', Same H H' → Q (optN (fd (expand ps) (expand qs))) H'
def spStep : Sp := fun vs H Q _ => ∃ (w u : List Bool), vs = [encV w, encV u] ∧ w.length ≤ 1000 ∧ u.length = w.length ∧ ∀ H', Same H H' → Q (optN (fd w u)) H'
section
variable {P : Program} {w : World} {K : PySem.W.Frag} {mg : Str → Option Value} {base : Heap}
theorem ok_first_unlike_step (D : DefAt K mg "first_unlike_step" ["one", "other"] s_first_unlike_step) (T : Tx K mg) : Glo P w K mg base CX0 1 "first_unlike_step" ["one", "other"] spStep := by
  refine D.ok 0 sc_first_unlike_step (fun vs H Q E h => ?_) (fun f cdv A outer s H vs Q E hr h => ?_)
  · obtain ⟨w, u, rfl, _⟩ := h
    rfl
  · obtain ⟨v, u, rfl, hl, hu, q⟩ := h
    refine ⟨_, (pss_cons (ps_for PassesOwn.never rfl (pi_enumZip (by rfl) T.n_enumerate (by rfl) T.n_zip (pa_cons (pv 0) (pa_cons (pv 1) pa_nil))) (pg_tupK (K := K) 2 rfl rfl (pgs_cons (pg_name (i := 2) sc_first_unlike_step.nd rfl (Or.inl rfl)) (pgs_cons (pg_name (i := 3) sc_first_unlike_step.nd rfl (Or.inl rfl)) pgs_nil)))
        (pss_one (ps_if (pt_cmpR op_ne (pe_ix (ixT (K := K) rfl) (pv 3) pe_int (fun _ _ => rfl)) (pe_ix (ixT (K := K) rfl) (pv 3) pe_int (fun _ _ => rfl)) (nomark _)) (pss_one (ps_ret (pv 2))) pss_nil)))
      (pss_one (ps_ret pe_non))), ?_⟩
    walk_at "zz"
    refine v_zip (.str (enc v)) (.str (enc u)) trivial trivial ?_
    refine v_forEZ (by show (enc v).cps.size = (enc u).cps.size; rw [enc_size, enc_size]; omega) (fun i σ H' => ∃ (c1 c2 : Option V), σ = [some (encV v), some (encV u), c1, c2] ∧ Same H H' ∧ ∀ t, t < i → decide (v[t]? ≠ u[t]?) = false) ?_ ?_ ?_ ?_
    · exact ⟨_, _, rfl, Same.refl _, fun t ht => absurd ht (Nat.not_lt_zero _)⟩
    · rintro i σ H1 _
      exact ⟨trivial, trivial⟩
    · rintro i x y T0 TT σ H1 H2 hx hy hi ⟨c1, c2, rfl, s1, hn⟩ n0 nT s2 e0 eT
      have hi' : i < v.length := by
        have h1 : i < (enc v).cps.size := hi
        rwa [enc_size] at h1
      have gx : v[i]? = some v[i] := List.getElem?_eq_getElem hi'
      have gy : u[i]? = some (u[i]'(by omega)) := List.getElem?_eq_getElem _
      have hx' : ((enc v).cps[i]?.map fun c => V.str ⟨#[c]⟩) = some x := hx
      have hy' : ((enc u).cps[i]?.map fun c => V.str ⟨#[c]⟩) = some y := hy
      rw [enc_cps, gx] at hx'
      rw [enc_cps, gy] at hy'
      cases hx'
      cases hy'
      walk_at "zz"
      rw [sign_eq]
      refine v_if (fun h1 => ?_) (fun h1 => ?_)
      · walk_at "zz"
        have e : fd v u = some i := by
          refine first_some hi' hn ?_
          rw [gx, gy]
          simpa using h1
        have := q H2 (s1.trans s2)
        rw [e] at this
        exact this
      · walk_at "zz"
        refine ⟨_, _, rfl, s1.trans s2, fun t ht => ?_⟩
        by_cases e : t = i
        · subst e
          rw [gx, gy]
          simpa using h1
        · exact hn t (by omega)
    · rintro σ H1 ⟨c1, c2, rfl, s1, hn⟩
      have hn' : ∀ t, t < v.length → decide (v[t]? ≠ u[t]?) = false := fun t ht => hn t (by show t < (enc v).cps.size; rw [enc_size]; exact ht)
      walk_at "zz"
      have := q H1 s1
      rw [show fd v u = none from first_none hn'] at this
      exact this
theorem ok_inks_by_spot (D : DefAt K mg "inks_by_spot" ["pieces"] s_inks_by_spot) (T : Tx K mg) : Glo P w K mg base CX0 1 "inks_by_spot" ["pieces"] spBySpot := by
  refine D.ok 0 sc_inks_by_spot (fun vs H Q E h => ?_) (fun f cdv A outer s H vs Q E hr h => ?_)
  · obtain ⟨t, xs, ps, rfl, _⟩ := h
    rfl
  · obtain ⟨t, xs, ps, rfl, ht, hT, hz, q⟩ := h
    refine ⟨_, (pss_cons (ps_set (i := 1) sc_inks_by_spot.nd rfl (Or.inl rfl) (pe_lst pa_nil))
      (pss_cons (ps_for PassesOwn.never rfl (pi_tup (pv 0)) (pg_tupK (K := K) 2 rfl rfl (pgs_cons (pg_name (i := 2) sc_inks_by_spot.nd rfl (Or.inl rfl)) (pgs_cons (pg_name (i := 3) sc_inks_by_spot.nd rfl (Or.inl rfl)) pgs_nil)))
        (pss_one (ps_aug (i := 1) sc_inks_by_spot.nd rfl (Or.inl rfl) (pe_op op_rep (pe_lst (pa_cons (pv 2) pa_nil)) (pv 3)) ip_ext)))
      (pss_one (ps_ret (pv 1))))), ?_⟩
    walk_at "zz"
    refine v_lst fun l H1 nl s1 e1 => ?_
    walk_at "zz"
    refine v_forT (xs := xs) (fun i σ H' => ∃ (c1 c2 : Option V), σ = [some (.ref t), some (.ref l), c1, c2] ∧ Same H H' ∧ H' l = some (.lst (iL (expand (ps.take i))))) ?_ ?_ ?_ ?_
    · exact ⟨_, _, rfl, s1, e1⟩
    · rintro i σ H2 ⟨c1, c2, rfl, s2, e2⟩
      exact SqT.of (s2 _ _ ht)
    · rintro i x σ H2 hx ⟨c1, c2, rfl, s2, e2⟩
      obtain ⟨pp, is, rfl, his, hp⟩ := hT.get hx
      have hpi : ∃ y, ps[i]? = some y ∧ is = [y.1, (y.2 : Int)] := by
        unfold pcs at his
        rw [List.getElem?_map] at his
        cases e : ps[i]? with
        | none => rw [e] at his; cases his
        | some y => rw [e] at his; cases his; exact ⟨y, rfl, rfl⟩
      obtain ⟨⟨i1, k1⟩, hy, rfl⟩ := hpi
      have hp2 : H2 pp = some (.tup [.int i1, .int k1]) := s2 _ _ hp
      have ex : expand (ps.take (i + 1)) = expand (ps.take i) ++ List.replicate k1 i1 := by
        rw [List.take_add_one, hy, expand_app]
        congr 1
        exact expand_one _ _
      have le : (expand (ps.take (i + 1))).length ≤ 3000 := by
        have : expand ps = expand (ps.take (i + 1)) ++ expand (ps.drop (i + 1)) := by rw [← expand_app, List.take_append_drop]
        rw [this, List.length_append] at hz
        omega
      rw [ex, List.length_append, List.length_replicate] at le
      walk_at "zz"
      refine v_lst fun l2 H3 n3 s3 e3 => ?_
      walk_at "zz"
      refine v_rep e3 (by omega) (by omega) (by simp) fun l3 H4 n4 s4 e4 => ?_
      walk_at "zz"
      refine v_ext (s4 _ _ (s3 _ _ e2)) e4 ?_ fun H5 b5 e5 => ?_
      · rw [rep_flat]
        simp only [iL, List.length_map, List.length_replicate]
        omega
      · walk_at "zz"
        refine ⟨_, _, rfl, same_but (s2.trans (s3.trans s4)) nl b5, ?_⟩
        rw [e5, ex, rep_flat]
        simp [iL]
    · rintro σ H2 ⟨c1, c2, rfl, s2, e2⟩
      rw [show ps.take xs.length = ps by rw [hT.len, pcs_len, List.take_length]] at e2
      walk_at "zz"
      exact q l H2 nl s2 e2
theorem ok_first_unlike_spot (D : DefAt K mg "first_unlike_spot" ["pieces", "others"] s_first_unlike_spot) (T : Tx K mg) (G_inks_by_spot : Glo P w K mg base CX0 1 "inks_by_spot" ["pieces"] spBySpot) : Glo P w K mg base CX0 2 "first_unlike_spot" ["pieces", "others"] spUnlike := by
  refine D.ok 1 sc_first_unlike_spot (fun vs H Q E h => ?_) (fun f cdv A outer s H vs Q E hr h => ?_)
  · obtain ⟨t, u, xs, ys, ps, qs, rfl, _⟩ := h
    rfl
  · obtain ⟨t, u, xs, ys, ps, qs, rfl, ht, tt, hz, hu, tu, hl, q⟩ := h
    refine ⟨_, (pss_cons (ps_set (i := 2) sc_first_unlike_spot.nd rfl (Or.inl rfl) (pe_lst (pa_cons (pe_g G_inks_by_spot (hr.mono (by decide)) rfl pass0 (pa_cons (pv 0) pa_nil)) (pa_cons (pe_g G_inks_by_spot (hr.mono (by decide)) rfl pass0 (pa_cons (pv 1) pa_nil)) pa_nil))))
      (pss_cons (ps_for PassesOwn.never rfl (pi_enumZip (by rfl) T.n_enumerate (by rfl) T.n_zip (pa_cons (pe_ix (ixL (K := K) rfl) (pv 2) pe_int (fun _ _ => rfl)) (pa_cons (pe_ix (ixL (K := K) rfl) (pv 2) pe_int (fun _ _ => rfl)) pa_nil))) (pg_tupK (K := K) 2 rfl rfl (pgs_cons (pg_name (i := 3) sc_first_unlike_spot.nd rfl (Or.inl rfl)) (pgs_cons (pg_name (i := 4) sc_first_unlike_spot.nd rfl (Or.inl rfl)) pgs_nil)))
        (pss_one (ps_if (pt_cmpR op_ne (pe_ix (ixT (K := K) rfl) (pv 4) pe_int (fun _ _ => rfl)) (pe_ix (ixT (K := K) rfl) (pv 4) pe_int (fun _ _ => rfl)) (nomark _)) (pss_one (ps_ret (pv 3))) pss_nil)))
      (pss_one (ps_ret pe_non)))), ?_⟩
    walk_at "zz"
    refine ⟨t, xs, ps, rfl, ht, tt, hz, fun l1 H1 n1 s1 e1 => ?_⟩
    walk_at "zz"
    refine ⟨u, ys, qs, rfl, s1 _ _ hu, tu.same s1, by omega, fun l2 H2 n2 s2 e2 => ?_⟩
    have e12 := s2 _ _ e1
    generalize hX : expand ps = X at *
    generalize hY : expand qs = Y at *
    walk_at "zz"
    refine v_lst fun le H3 n3 s3 e3 => ?_
    have e13 := s3 _ _ e12
    have e23 := s3 _ _ e2
    walk_at "zz"
    refine v_zip (.lst l1 (iL X)) (.lst l2 (iL Y)) e13 e23 ?_
    refine v_forEZ (by show (iL X).length = (iL Y).length; rw [iL_len, iL_len]; omega) (fun i σ H' => ∃ (c1 c2 : Option V), σ = [some (.ref t), some (.ref u), some (.ref le), c1, c2] ∧ Same H3 H' ∧ ∀ t, t < i → decide (X[t]? ≠ Y[t]?) = false) ?_ ?_ ?_ ?_
    · exact ⟨_, _, rfl, Same.refl _, fun t ht => absurd ht (Nat.not_lt_zero _)⟩
    · rintro i σ H4 ⟨c1, c2, rfl, s4, _⟩
      exact ⟨s4 _ _ e13, s4 _ _ e23⟩
    · rintro i x y T0 TT σ H4 H5 hx hy hi ⟨c1, c2, rfl, s4, hn⟩ n0 nT s5 e0 eT
      have hi' : i < X.length := by
        have h1 : i < (iL X).length := hi
        rwa [iL_len] at h1
      have gx : X[i]? = some X[i] := List.getElem?_eq_getElem hi'
      have gy : Y[i]? = some (Y[i]'(by omega)) := List.getElem?_eq_getElem _
      have hx' : (iL X)[i]? = some x := hx
      have hy' : (iL Y)[i]? = some y := hy
      rw [iL_get hi'] at hx'
      rw [iL_get (by omega : i < Y.length)] at hy'
      cases hx'
      cases hy'
      walk_at "zz"
      refine v_if (fun h1 => ?_) (fun h1 => ?_)
      · walk_at "zz"
        have e : fd X Y = some i := by
          refine first_some hi' hn ?_
          rw [gx, gy]
          simpa using h1
        have := q H5 (s1.trans (s2.trans (s3.trans (s4.trans s5))))
        rw [e] at this
        exact this
      · walk_at "zz"
        refine ⟨_, _, rfl, s4.trans s5, fun t ht => ?_⟩
        by_cases e : t = i
        · subst e
          rw [gx, gy]
          simpa using h1
        · exact hn t (by omega)
    · rintro σ H4 ⟨c1, c2, rfl, s4, hn⟩
      have hn' : ∀ t, t < X.length → decide (X[t]? ≠ Y[t]?) = false := fun t ht => hn t (by show t < (iL X).length; rw [iL_len]; exact ht)
      walk_at "zz"
      have := q H4 (s1.trans (s2.trans (s3.trans s4)))
      rw [show fd X Y = none from first_none hn'] at this
      exact this
theorem Tups.snoc_inv {H : Hp} {xs : List V} {ls : List (List Int)} {is : List Int} (t : Tups H xs (ls ++ [is])) : ∃ ys p, xs = ys ++ [.ref p] ∧ Tups H ys ls ∧ H p = some (.tup (is.map .int)) := by
  induction ls generalizing xs with
  | nil =>
    cases t with
    | cons h t =>
      cases t
      exact ⟨[], _, rfl, .nil, h⟩
  | cons a ls ih =>
    cases t with
    | cons h t =>
      obtain ⟨ys, p, rfl, t', e⟩ := ih t
      exact ⟨_ :: ys, p, rfl, .cons h t', e⟩
theorem ok_column_pieces (D : DefAt K mg "column_pieces" ["word", "row", "p", "q"] s_column_pieces) (T : Tx K mg) : Glo P w K mg base CX0 1 "column_pieces" ["word", "row", "p", "q"] spPieces := by
  refine D.ok 0 sc_column_pieces (fun vs H Q E h => ?_) (fun f cdv A outer s H vs Q E hr h => ?_)
  · obtain ⟨w, r, is, p, q, rfl, _⟩ := h
    rfl
  · obtain ⟨v, r, is, p, q, rfl, hv, hl, hr1, hp, hq, k⟩ := h
    refine ⟨_, (pss_cons (ps_set (i := 4) sc_column_pieces.nd rfl (Or.inl rfl) (pe_lst pa_nil))
      (pss_cons (ps_for PassesOwn.never rfl (pi_zipS (by rfl) T.n_zip (pa_cons (pv 0) (pa_cons (pv 1) pa_nil))) (pg_tupK (K := K) 2 rfl rfl (pgs_cons (pg_name (i := 5) sc_column_pieces.nd rfl (Or.inl rfl)) (pgs_cons (pg_name (i := 6) sc_column_pieces.nd rfl (Or.inl rfl)) pgs_nil)))
        (pss_cons (ps_set (i := 7) sc_column_pieces.nd rfl (Or.inl rfl) (pe_ifExp (pt_cmpR op_eq (pv 5) pe_str (nomark _)) (pv 2) (pv 3)))
        (pss_cons (ps_if (pt_cmpR op_eq (pv 7) pe_int (nomark _)) (pss_one ps_continue) pss_nil)
        (pss_one (ps_if (PW.pt (pw_and (pt_tru (K := K) rfl (pv 4) (by intro _; rfl)) (pw_and1 (pt_cmpR op_eq (pe_ix (ixT (K := K) rfl) (pe_ix (ixL (K := K) rfl) (pv 4) (pe_un un_neg pe_int) (fun _ _ => rfl)) pe_int (fun _ _ => rfl)) (pv 6) (nomark _))))) (pss_one (ps_asg (pe_tup (pa_cons (pv 6) (pa_cons (pe_op op_add (pe_ix (ixT (K := K) rfl) (pe_ix (ixL (K := K) rfl) (pv 4) (pe_un un_neg pe_int) (fun _ _ => rfl)) pe_int (fun _ _ => rfl)) (pv 7)) pa_nil))) (pg_sub (pv 4) (pe_un un_neg pe_int) set_list))) (pss_one (ps_expr (pe_bm PySem.F.plainAttrs_list PySem.F.slot_list_append PySem.F.type_list_append mt_append (pv 4) (pa_cons (pe_tup (pa_cons (pv 6) (pa_cons (pv 7) pa_nil))) pa_nil)))))))))
      (pss_one (ps_ret (pe_callTy (tupK (K := K) rfl) (by rfl) T.n_tuple (by decide +kernel) (pa_cons (pv 4) pa_nil)))))), ?_⟩
    walk_at "zz"
    refine v_lst fun l H1 nl s1 e1 => ?_
    walk_at "zz"
    refine v_zip (.str (enc v)) (.tup r (iL is)) trivial (s1 _ _ hr1) ?_
    refine v_forZ (by show (enc v).cps.size = (iL is).length; rw [enc_size, iL_len]; omega) (fun i σ H' => ∃ (xs : List V) (ps : Pcs) (c1 c2 c3 : Option V), σ = [some (encV v), some (.ref r), some (.int p), some (.int q), some (.ref l), c1, c2, c3] ∧ Same H H' ∧ H' l = some (.lst xs) ∧ Tups H' xs (pcs ps) ∧ ps.length ≤ i ∧ expand ps = seen p q (v.take i) (is.take i)) ?_ ?_ ?_ ?_
    · exact ⟨[], [], _, _, _, rfl, s1, e1, .nil, Nat.le_refl _, by simp [expand, seen]⟩
    · rintro i σ H2 ⟨xs, ps, c1, c2, c3, rfl, s2, _⟩
      exact ⟨trivial, s2 _ _ hr1⟩
    · rintro i x y TT σ H2 H3 hx hy hi ⟨xs, ps, c1, c2, c3, rfl, s2, e2, t2, lp, ex⟩ nT s3 eT
      have hi' : i < v.length := by
        have h1 : i < (enc v).cps.size := hi
        rwa [enc_size] at h1
      have gx : v[i]? = some v[i] := List.getElem?_eq_getElem hi'
      have gy : is[i]? = some (is[i]'(by omega)) := List.getElem?_eq_getElem _
      have hx' : ((enc v).cps[i]?.map fun c => V.str ⟨#[c]⟩) = some x := hx
      have hy' : (iL is)[i]? = some y := hy
      rw [enc_cps, gx] at hx'
      rw [iL_get (by omega : i < is.length)] at hy'
      cases hx'
      cases hy'
      have S3 := s2.trans s3
      have e3 := s3 _ _ e2
      have t3 := t2.same s3
      have sn := seen_snoc (p := p) (q := q) gx gy
      generalize hik : is[i]'(by omega) = ink at *
      generalize hb : v[i] = b at *
      have sizes : xs.length ≤ 12 := by rw [t3.len, pcs_len]; omega
      walk_at "zz"
      rw [sign_d]
      refine v_if (fun hbb => ?_) (fun hbb => ?_)
      · rw [if_pos hbb] at sn
        walk_at "zz"
        have hm9 := hp
        clear hp hq
        generalize p = m at *
        refine v_if (fun h1 => ?_) (fun h1 => ?_)
        · walk_at "zz"
          have m0 : m = 0 := by simpa using h1
          exact ⟨xs, ps, _, _, _, rfl, S3, e3, t3, by omega, by rw [sn, ex]; simp [m0]⟩
        · walk_at "zz"
          rcases List.eq_nil_or_concat ps with hps | ⟨ps', ⟨j, kk⟩, hps⟩
          · have hxs : xs = [] := by
              have := t3.len
              rw [hps] at this
              exact List.eq_nil_of_length_eq_zero this
            refine v_ifF (by simp [hxs]) ?_
            walk_at "zz"
            refine v_tup fun t5 H5 n5 s5 e5 => ?_
            walk_at "zz"
            refine v_app (s5 _ _ e3) (by omega) fun H6 b6 e6 => ?_
            have e5' : H5 t5 = some (.tup ([ink, (m : Int)].map .int)) := e5
            refine ⟨_, ps ++ [(ink, m)], _, _, _, rfl, same_but (S3.trans s5) nl b6, e6, ?_, by simp; omega, ?_⟩
            · rw [show pcs (ps ++ [(ink, m)]) = pcs ps ++ [[ink, (m : Int)]] by simp [pcs]]
              exact ((t3.same s5).snoc e5').but b6 (s5 _ _ e3)
            · rw [sn, expand_app, expand_one, ex]
          · rw [List.concat_eq_append] at hps
            have t3' := t3
            rw [hps, show pcs (ps' ++ [(j, kk)]) = pcs ps' ++ [[j, (kk : Int)]] by simp [pcs]] at t3'
            obtain ⟨ys, pp, hxs, ty, hpp⟩ := t3'.snoc_inv
            replace hpp : H3 pp = some (.tup [.int j, .int kk]) := hpp
            refine v_ifT (by simp [hxs]) ?_
            have e3' := e3
            rw [hxs] at e3'
            walk_at "zz"
            refine v_ixL (SqL.of e3') (atI_last _ _) ?_
            walk_at "zz"
            refine v_if (fun h2 => ?_) (fun h2 => ?_)
            · have hj : j = ink := by simpa using h2
              walk_at "zz"
              refine v_ixL (SqL.of e3') (atI_last _ _) ?_
              walk_at "zz"
              refine v_tup fun t5 H5 n5 s5 e5 => ?_
              walk_at "zz"
              refine v_setL (s5 _ _ e3') (j := ys.length) ?_ fun H6 b6 e6 => ?_
              · unfold ixN
                simp
                omega
              · have e5' : H5 t5 = some (.tup ([ink, ((kk + m : Nat) : Int)].map .int)) := by rw [e5]; simp
                rw [show (ys ++ [V.ref pp]).set ys.length (V.ref t5) = ys ++ [V.ref t5] by simp] at e6
                have lps : ps.length = ps'.length + 1 := by rw [hps]; simp
                refine ⟨_, ps' ++ [(ink, kk + m)], _, _, _, rfl, same_but (S3.trans s5) nl b6, e6, ?_, by simp; omega, ?_⟩
                · rw [show pcs (ps' ++ [(ink, kk + m)]) = pcs ps' ++ [[ink, ((kk + m : Nat) : Int)]] by simp [pcs]]
                  exact ((ty.same s5).snoc e5').but b6 (s5 _ _ e3')
                · rw [sn, ← ex, hps, hj, expand_app, expand_app, expand_one, expand_one, List.append_assoc, List.replicate_append_replicate]
            · skip
              walk_at "zz"
              refine v_tup fun t5 H5 n5 s5 e5 => ?_
              walk_at "zz"
              refine v_app (s5 _ _ e3) (by omega) fun H6 b6 e6 => ?_
              have e5' : H5 t5 = some (.tup ([ink, (m : Int)].map .int)) := e5
              refine ⟨_, ps ++ [(ink, m)], _, _, _, rfl, same_but (S3.trans s5) nl b6, e6, ?_, by simp; omega, ?_⟩
              · rw [show pcs (ps ++ [(ink, m)]) = pcs ps ++ [[ink, (m : Int)]] by simp [pcs]]
                exact ((t3.same s5).snoc e5').but b6 (s5 _ _ e3)
              · rw [sn, expand_app, expand_one, ex]
      · rw [if_neg (by simp [hbb])] at sn
        walk_at "zz"
        have hm9 := hq
        clear hp hq
        generalize q = m at *
        refine v_if (fun h1 => ?_) (fun h1 => ?_)
        · walk_at "zz"
          have m0 : m = 0 := by simpa using h1
          exact ⟨xs, ps, _, _, _, rfl, S3, e3, t3, by omega, by rw [sn, ex]; simp [m0]⟩
        · walk_at "zz"
          rcases List.eq_nil_or_concat ps with hps | ⟨ps', ⟨j, kk⟩, hps⟩
          · have hxs : xs = [] := by
              have := t3.len
              rw [hps] at this
              exact List.eq_nil_of_length_eq_zero this
            refine v_ifF (by simp [hxs]) ?_
            walk_at "zz"
            refine v_tup fun t5 H5 n5 s5 e5 => ?_
            walk_at "zz"
            refine v_app (s5 _ _ e3) (by omega) fun H6 b6 e6 => ?_
            have e5' : H5 t5 = some (.tup ([ink, (m : Int)].map .int)) := e5
            refine ⟨_, ps ++ [(ink, m)], _, _, _, rfl, same_but (S3.trans s5) nl b6, e6, ?_, by simp; omega, ?_⟩
            · rw [show pcs (ps ++ [(ink, m)]) = pcs ps ++ [[ink, (m : Int)]] by simp [pcs]]
              exact ((t3.same s5).snoc e5').but b6 (s5 _ _ e3)
            · rw [sn, expand_app, expand_one, ex]
          · rw [List.concat_eq_append] at hps
            have t3' := t3
            rw [hps, show pcs (ps' ++ [(j, kk)]) = pcs ps' ++ [[j, (kk : Int)]] by simp [pcs]] at t3'
            obtain ⟨ys, pp, hxs, ty, hpp⟩ := t3'.snoc_inv
            replace hpp : H3 pp = some (.tup [.int j, .int kk]) := hpp
            refine v_ifT (by simp [hxs]) ?_
            have e3' := e3
            rw [hxs] at e3'
            walk_at "zz"
            refine v_ixL (SqL.of e3') (atI_last _ _) ?_
            walk_at "zz"
            refine v_if (fun h2 => ?_) (fun h2 => ?_)
            · have hj : j = ink := by simpa using h2
              walk_at "zz"
              refine v_ixL (SqL.of e3') (atI_last _ _) ?_
              walk_at "zz"
              refine v_tup fun t5 H5 n5 s5 e5 => ?_
              walk_at "zz"
              refine v_setL (s5 _ _ e3') (j := ys.length) ?_ fun H6 b6 e6 => ?_
              · unfold ixN
                simp
                omega
              · have e5' : H5 t5 = some (.tup ([ink, ((kk + m : Nat) : Int)].map .int)) := by rw [e5]; simp
                rw [show (ys ++ [V.ref pp]).set ys.length (V.ref t5) = ys ++ [V.ref t5] by simp] at e6
                have lps : ps.length = ps'.length + 1 := by rw [hps]; simp
                refine ⟨_, ps' ++ [(ink, kk + m)], _, _, _, rfl, same_but (S3.trans s5) nl b6, e6, ?_, by simp; omega, ?_⟩
                · rw [show pcs (ps' ++ [(ink, kk + m)]) = pcs ps' ++ [[ink, ((kk + m : Nat) : Int)]] by simp [pcs]]
                  exact ((ty.same s5).snoc e5').but b6 (s5 _ _ e3')
                · rw [sn, ← ex, hps, hj, expand_app, expand_app, expand_one, expand_one, List.append_assoc, List.replicate_append_replicate]
            · skip
              walk_at "zz"
              refine v_tup fun t5 H5 n5 s5 e5 => ?_
              walk_at "zz"
              refine v_app (s5 _ _ e3) (by omega) fun H6 b6 e6 => ?_
              have e5' : H5 t5 = some (.tup ([ink, (m : Int)].map .int)) := e5
              refine ⟨_, ps ++ [(ink, m)], _, _, _, rfl, same_but (S3.trans s5) nl b6, e6, ?_, by simp; omega, ?_⟩
              · rw [show pcs (ps ++ [(ink, m)]) = pcs ps ++ [[ink, (m : Int)]] by simp [pcs]]
                exact ((t3.same s5).snoc e5').but b6 (s5 _ _ e3)
              · rw [sn, expand_app, expand_one, ex]
    · rintro σ H2 ⟨xs, ps, c1, c2, c3, rfl, s2, e2, t2, lp, ex⟩
      rw [show (Src.str (enc v)).n = v.length from enc_size v, List.take_length, ← hl, List.take_length] at ex
      walk_at "zz"
      refine v_tupL (SqL.of e2) fun t H3 n3 s3 e3 => ?_
      exact k t xs ps H3 (Same.free s2 n3) (s2.trans s3) e3 (t2.same s3) ex
end
end Sk
namespace Sk
open PySem PySem.Spec PyProof.Rows L2
/-! step words: z one step, zz as far as it goes, at: what stands at an address -/
local macro_rules
  | `(tactic| walk_at "zz") => `(tactic| repeat first
    | (with_reducible refine z_seq ?_) | (with_reducible refine z_asg ?_) | (with_reducible refine z_gname ?_) | (with_reducible refine z_var (by with_unfolding_all rfl) ?_)
    | (with_reducible refine z_c ?_) | (with_reducible refine z_op ?_) | (with_reducible refine z_cons ?_) | (with_reducible refine z_nil ?_)
    | (with_reducible refine z_next ?_) | (with_reducible refine z_call ?_) | (with_reducible refine z_drop ?_) | (with_reducible refine z_ret ?_)
    | (with_reducible refine z_ifs ?_) | (with_reducible refine z_un ?_) | (with_reducible refine z_chain ?_) | (with_reducible refine z_rI0 ?_)
    | (with_reducible refine z_eqI ?_) | (with_reducible refine z_neI ?_) | (with_reducible refine z_eqS ?_) | (with_reducible refine z_neS ?_)
    | (with_reducible refine z_eqB ?_) | (with_reducible refine z_neB ?_) | (with_reducible refine z_test ?_) | (with_reducible refine z_tB ?_)
    | (with_reducible refine z_bl ?_) | (with_reducible refine z_and ?_) | (with_reducible refine z_or ?_) | (with_reducible refine z_not ?_)
    | (with_reducible refine z_andV ?_) | (with_reducible refine z_orV ?_) | (with_reducible refine z_notV ?_) | (with_reducible refine z_if ?_)
    | (with_reducible refine z_cb ?_) | (with_reducible refine z_part ?_) | (with_reducible refine z_noPart ?_) | (with_reducible refine z_int ?_)
    | (with_reducible refine z_sl ?_) | (with_reducible refine z_fld ?_) | (with_reducible refine z_tup ?_) | (with_reducible refine z_lst ?_)
    | (with_reducible refine z_bm ?_) | (with_reducible refine z_bm0 ?_) | (with_reducible refine z_fldS ?_) | (with_reducible refine z_rU ?_)
    | (with_reducible refine v_intI ?_) | (with_reducible refine v_intB ?_) | (with_reducible refine v_abs ?_) | (with_reducible refine v_isN ?_)
    | (with_reducible refine v_notN ?_) | (with_reducible refine v_cnt ?_) | (with_reducible refine z_make ?_) | (with_reducible refine z_tru ?_)
    | (with_reducible refine z_m1 ?_) | (with_reducible refine z_strI ?_) | (with_reducible refine z_zS ?_) | (with_reducible refine z_eS ?_)
    | (with_reducible refine v_isII ?_) | (with_reducible refine v_isIB ?_) | (with_reducible refine v_isBI ?_) | (with_reducible refine v_isBB ?_)
    | (with_reducible refine v_isNI ?_) | (with_reducible refine v_isIT ?_) | (with_reducible refine v_isST ?_) | (with_reducible refine v_isSS ?_)
    | (with_reducible refine v_isIS ?_) | (with_reducible refine z_sub ?_) | (with_reducible refine z_gcons ?_) | (with_reducible refine z_gnil ?_)
    | (with_reducible refine z_par ?_) | (with_reducible refine v_par ?_) | (with_reducible refine z_par3 ?_) | (with_reducible refine v_par3 ?_)
    | (with_reducible refine v_ipI ?_) | (with_reducible refine z_for ?_) | (with_reducible refine z_lc ?_) | (with_reducible refine z_yes ?_)
    | (with_reducible refine z_rng1 ?_) | (with_reducible refine z_rng2 ?_) | (with_reducible refine z_list ?_) | (with_reducible refine z_tupi ?_)
    | (with_reducible refine z_stri ?_) | (with_reducible refine v_istr ?_) | (with_reducible refine iteT ?_) | (with_reducible refine iteF ?_)
    | (with_reducible refine z_nT ?_) | (with_reducible refine z_nF ?_) | (with_reducible refine z_cont ?_) | (with_reducible refine z_brk ?_)
    | (with_reducible refine z_retN ?_) | (walk_at "zn"))
  | `(tactic| walk_at "zn") => `(tactic| first
    | ((with_reducible refine' v_ixL ?k1 ?k2 ?_); (case k1 => walk_at "sq"); (case k2 => rfl)) | ((with_reducible refine' v_ixT ?k1 ?k2 ?_); (case k1 => walk_at "st"); (case k2 => rfl)) | ((with_reducible refine' v_lenL ?k1 ?_); (case k1 => walk_at "sq")) | ((with_reducible refine' v_lenT ?k1 ?_); (case k1 => walk_at "st"))
    | ((with_reducible refine' v_slS ?k1 ?_); (case k1 => (rw [enc_len]; exact small (by omega)))) | ((with_reducible refine' v_lenS ?k1 ?_); (case k1 => (rw [enc_len]; exact small (by omega)))) | ((with_reducible refine' v_slL ?k1 ?_); (case k1 => walk_at "sq")) | ((with_reducible refine' z_tyL ?k1 ?_); (case k1 => walk_at "at"))
    | ((with_reducible refine' v_fld ?k1 ?k2 ?k3 ?k4 ?_); (case k1 => walk_at "at"); (case k2 => assumption); (case k3 => assumption); (case k4 => first | assumption | rfl)) | ((with_reducible refine' v_truL ?k1 ?_); (case k1 => walk_at "at")) | ((with_reducible refine' z_wipe ?k1 ?_); (case k1 => rfl)) | ((with_reducible refine' v_gtup ?k1 ?k2 ?_); (case k1 => walk_at "st"); (case k2 => rfl))
    | ((with_reducible refine' z_aug ?k1 ?_); (case k1 => rfl)) | ((with_reducible refine' v_ilist ?k1 ?_); (case k1 => walk_at "sq")) | ((with_reducible refine' v_itup ?k1 ?_); (case k1 => walk_at "st")) | ((with_reducible refine' z_rI ?k1 ?_); (case k1 => first | (show (_ : Int) ≠ _; omega) | exact .inl ⟨by decide, by decide⟩ | exact .inr ⟨by decide, by decide⟩ | exact ⟨by decide, by decide⟩ | exact .inl ⟨by omega, by omega⟩ | exact .inr ⟨by omega, by omega⟩))
    | ((with_reducible refine' z_var ?hv ?_); (case hv => rfl)))
  | `(tactic| walk_at "at") => `(tactic| first
    | assumption
    | ((with_reducible refine' same_at ?k1 ?k2); (case k1 => assumption); (case k2 => walk_at "at"))
    | ((with_reducible refine' but_at ?k1 ?k2 ?k3); (case k1 => assumption); (case k2 => first | assumption | (apply Ne.symm; assumption)); (case k3 => walk_at "at")))
  | `(tactic| walk_at "sq") => `(tactic| first
    | assumption
    | (refine' SqL.of ?k1; (case k1 => walk_at "at"))
    | ((with_reducible refine' Same.seq ?k1 ?k2); (case k1 => assumption); (case k2 => walk_at "sq")))
  | `(tactic| walk_at "st") => `(tactic| first
    | assumption
    | (refine' SqT.of ?k1; (case k1 => walk_at "at"))
    | ((with_reducible refine' same_tup ?k1 ?k2); (case k1 => assumption); (case k2 => walk_at "st")))
  | `(tactic| walk_at "sa") => `(tactic| first
    | assumption
    | exact Same.refl _
    | (refine' Same.trans ?k1 ?k2; (case k2 => assumption); (case k1 => walk_at "sa")))
/-! Views. -/
open ClX (tCMeth)
abbrev s_inks_of_letter : Stmt := top 32
abbrev N_inks_of_letter : List Str := ["card", "printed", "letter", "rows", "word", "row", "sign", "ink"]
theorem sc_inks_of_letter : FnScope N_inks_of_letter ["card", "printed", "letter"] (defScope s_inks_of_letter) := ⟨rfl, rfl, rfl, by decide +kernel, rfl, by decide +kernel, by decide +kernel⟩
abbrev s_front_view : Stmt := top 33
abbrev N_front_view : List Str := ["card", "printed"]
theorem sc_front_view : FnScope N_front_view ["card", "printed"] (defScope s_front_view) := ⟨rfl, rfl, rfl, by decide +kernel, rfl, by decide +kernel, by decide +kernel⟩
abbrev s_top_view : Stmt := top 34
abbrev N_top_view : List Str := ["card", "printed"]
theorem sc_top_view : FnScope N_top_view ["card", "printed"] (defScope s_top_view) := ⟨rfl, rfl, rfl, by decide +kernel, rfl, by decide +kernel, by decide +kernel⟩
abbrev s_slope_view : Stmt := top 36
abbrev N_slope_view : List Str := ["card", "printed", "p", "q", "word", "row"]
theorem sc_slope_view : FnScope N_slope_view ["card", "printed", "p", "q"] (defScope s_slope_view) := ⟨rfl, rfl, rfl, by decide +kernel, rfl, by decide +kernel, by decide +kernel⟩
def spView (K : PySem.W.Frag) : Sp := fun vs H Q _ => ∃ (a b : Addr) (c : Bool) (ws : Ws) (rs : Rs) (L n : Nat), vs = [.ref a, .ref b, .str (lt c)] ∧ CardAt K H a ws L n ∧ PrintAt K H b rs L n ∧ WsOk L n ws ∧ RsOk L n rs ∧
  ∀ p xs H', H p = none → Same H H' → H' p = some (.tup xs) → Tups H' xs (keeps c ws rs) → Q (.ref p) H'
def spViewC (c : Bool) (K : PySem.W.Frag) : Sp := fun vs H Q _ => ∃ (a b : Addr) (ws : Ws) (rs : Rs) (L n : Nat), vs = [.ref a, .ref b] ∧ CardAt K H a ws L n ∧ PrintAt K H b rs L n ∧ WsOk L n ws ∧ RsOk L n rs ∧
  ∀ p xs H', H p = none → Same H H' → H' p = some (.tup xs) → Tups H' xs (keeps c ws rs) → Q (.ref p) H'
/-- a slope's pieces of each column -/
structure PcsAt (H : Hp) (xs : List V) (p q : Nat) (ws : Ws) (rs : Rs) : Prop where
  len : xs.length = ws.length
  get : ∀ (i : Nat) (x : V), xs[i]? = some x → ∃ t ys ps, x = .ref t ∧ H t = some (.tup ys) ∧ Tups H ys (pcs ps) ∧ expand ps = seen p q (wAt ws i) (rAt rs i)
theorem PcsAt.same {H H' : Hp} {xs : List V} {p q : Nat} {ws : Ws} {rs : Rs} (c : PcsAt H xs p q ws rs) (s : Same H H') : PcsAt H' xs p q ws rs := ⟨c.len, fun i x h => by
  obtain ⟨t, ys, ps, e, h1, h2, h3⟩ := c.get i x h
  exact ⟨t, ys, ps, e, s _ _ h1, h2.same s, h3⟩⟩
def spSlopeV (K : PySem.W.Frag) : Sp := fun vs H Q _ => ∃ (a b : Addr) (p q : Nat) (ws : Ws) (rs : Rs) (L n : Nat), vs = [.ref a, .ref b, .int p, .int q] ∧ p ≤ 9 ∧ q ≤ 9 ∧ 1 ≤ p + q ∧ CardAt K H a ws L n ∧ PrintAt K H b rs L n ∧ WsOk L n ws ∧ RsOk L n rs ∧
  ∀ t xs H', H t = none → Same H H' → H' t = some (.tup xs) → PcsAt H' xs p q ws rs → Q (.ref t) H'
theorem WsOk.get {L n : Nat} {ws : Ws} (W : WsOk L n ws) {i : Nat} (h : i < n) : ws[i]? = some (wAt ws i) ∧ IsW L (wAt ws i) := by
  have e : ws[i]? = some (ws[i]'(by rw [W.len]; exact h)) := List.getElem?_eq_getElem _
  rw [wAt_some e]
  exact ⟨e, W.all _ (List.mem_of_getElem? e)⟩
theorem RsOk.get {L n : Nat} {rs : Rs} (R : RsOk L n rs) {i : Nat} (h : i < n) : rs[i]? = some (rAt rs i) ∧ (rAt rs i).length = 2 * L := by
  have e : rs[i]? = some (rs[i]'(by rw [R.len]; exact h)) := List.getElem?_eq_getElem _
  rw [rAt_some e]
  exact ⟨e, R.all _ (List.mem_of_getElem? e)⟩
section
variable {P : Program} {w : World} {K : PySem.W.Frag} {mg : Str → Option Value} {base : Heap}
theorem ok_inks_of_letter (D : DefAt K mg "inks_of_letter" ["card", "printed", "letter"] s_inks_of_letter) (T : Tx K mg) (G_check_print : Glo P w K mg base (L2.CX P w) 3 "check_print" ["card", "printed"] (spChkPrint K)) : Glo P w K mg base (L2.CX P w) 4 "inks_of_letter" ["card", "printed", "letter"] (spView K) := by
  refine D.okX 3 sc_inks_of_letter (fun vs H Q E h => ?_) (fun f cdv A outer s H vs Q E hr h => ?_)
  · obtain ⟨a, b, c, ws, rs, L, n, rfl, _⟩ := h
    rfl
  · obtain ⟨a, b, c, ws, rs, L, n, rfl, Ca, Pb, W, R, q⟩ := h
    have z1 := W.n12
    have z2 := W.len
    have z3 := R.len
    have z4 := W.l6
    obtain ⟨dx, fs, p, h1, h2, h3, h4, h5⟩ := id Ca
    obtain ⟨dx', fs', p', xs, g1, g2, g3, g4, g5, g6⟩ := id Pb
    have lx := g6.len
    have tk := takes_of (X := cxOf (L2.CX P w) P w K mg base N_inks_of_letter "inks_of_letter" (defScope s_inks_of_letter) f cdv A outer s H E) (E := E) rfl rfl rfl rfl
    have po := passes_of (X := cxOf (L2.CX P w) P w K mg base N_inks_of_letter "inks_of_letter" (defScope s_inks_of_letter) f cdv A outer s H E) rfl
    refine ⟨_, (pss_cons (ps_expr (pe_g G_check_print (hr.mono (by decide)) rfl (passes_call tk fun _ _ _ _ z => z) (pa_cons (pv 0) (pa_cons (pv 1) pa_nil))))
      (pss_cons (ps_set (i := 3) sc_inks_of_letter.nd rfl (Or.inl rfl) (pe_lst pa_nil))
      (pss_cons (ps_for po rfl (pi_zipS (by rfl) T.n_zip (pa_cons (fldK (K := K) rfl (pv 0) rfl) (pa_cons (fldK (K := K) rfl (pv 1) rfl) pa_nil))) (pg_tupK (K := K) 2 rfl rfl (pgs_cons (pg_name (i := 4) sc_inks_of_letter.nd rfl (Or.inl rfl)) (pgs_cons (pg_name (i := 5) sc_inks_of_letter.nd rfl (Or.inl rfl)) pgs_nil)))
        (pss_one (ps_expr (pe_bm PySem.F.plainAttrs_list PySem.F.slot_list_append PySem.F.type_list_append mt_append (pv 3) (pa_cons (pe_callTy (tupK (K := K) rfl) (by rfl) T.n_tuple (by decide +kernel) (pa_cons (pe_lc (own := [("sign", 6), ("ink", 7)]) rfl sc_inks_of_letter.nd (pi_zipS (by rfl) T.n_zip (pa_cons (pv 4) (pa_cons (pv 5) pa_nil))) (blkOk_by (N := N_inks_of_letter) (sc := defScope s_inks_of_letter) (by decide +kernel)) (fun _ _ _ _ _ => (pg_tupK (K := K) 2 rfl rfl (pgs_cons (pg_name (i := 6) sc_inks_of_letter.nd rfl (Or.inl rfl)) (pgs_cons (pg_name (i := 7) sc_inks_of_letter.nd rfl (Or.inl rfl)) pgs_nil)))) (fun _ _ _ _ _ => (pts_one (pt_cmpR op_eq (pv 6) (pv 2) (nomark _)))) (fun _ _ _ _ _ => (pv 7))) pa_nil)) pa_nil)))))
      (pss_one (ps_ret (pe_callTy (tupK (K := K) rfl) (by rfl) T.n_tuple (by decide +kernel) (pa_cons (pv 3) pa_nil))))))), ?_⟩
    have cl1 := T.c_Card
    have cl2 := T.c_Print
    have cl3 := T.a_Card_size
    have cl4 := T.a_Card_width
    have cl5 := T.a_Card_words
    have cl6 := T.a_Print_size
    have cl7 := T.a_Print_width
    have cl8 := T.a_Print_inks
    walk_at "zz"
    refine ⟨a, b, ws, rs, L, n, L, n, rfl, Ca, Pb, .inl ⟨rfl, rfl, ?_⟩⟩
    walk_at "zz"
    refine v_lst fun M H1 nM s1 e1 => ?_
    walk_at "zz"
    refine v_zip (.tup p (wL ws)) (.tup p' xs) (s1 _ _ h5) (s1 _ _ g5) ?_
    refine v_forZ (by show (wL ws).length = xs.length; rw [wL_len]; omega) (fun i σ H' => ∃ (acc : List V) (c1 c2 c3 c4 : Option V), σ = [some (.ref a), some (.ref b), some (.str (lt c)), some (.ref M), c1, c2, c3, c4] ∧ Same H H' ∧ H' M = some (.lst acc) ∧ Tups H' acc ((keeps c ws rs).take i)) ?_ ?_ ?_ ?_
    · exact ⟨[], _, _, _, _, rfl, s1, e1, .nil⟩
    · rintro i σ H2 ⟨acc, c1, c2, c3, c4, rfl, s2, _⟩
      exact ⟨s2 _ _ h5, s2 _ _ g5⟩
    · rintro i x y TT σ H2 H3 hx hy hi ⟨acc, c1, c2, c3, c4, rfl, s2, e2, t2⟩ nT s3 eT
      have hi' : i < n := by
        have h1 : i < (wL ws).length := hi
        rw [wL_len] at h1
        omega
      obtain ⟨gw, wi⟩ := W.get hi'
      obtain ⟨gr, lr⟩ := R.get hi'
      have lw := wi.len
      have hx' : (wL ws)[i]? = some x := hx
      rw [wL_get gw] at hx'
      cases hx'
      obtain ⟨pr, gp, ep⟩ := g6.get2 gr
      have hy' : xs[i]? = some y := hy
      rw [gp] at hy'
      cases hy'
      have S3 := s2.trans s3
      have lacc : acc.length ≤ 12 := by
        rw [t2.len, List.length_take]
        omega
      have ks := keeps_snoc (c := c) gw gr
      generalize wAt ws i = v at *
      generalize rAt rs i = is at *
      have ep3 : H3 pr = some (.tup (iL is)) := S3 _ _ ep
      have e3 := s3 _ _ e2
      walk_at "zz"
      refine v_zip (.str (enc v)) (.tup pr (iL is)) trivial ep3 ?_
      refine v_lcZ (by show (enc v).cps.size = (iL is).length; rw [enc_size, iL_len]; omega) (fun N j acc2 H' => Same H3 H' ∧ acc2 = iL (keep c (v.take j) (is.take j))) ?_ ?_ ?_ ?_
      · intro N H4 n4 s4 e4
        exact ⟨s4, by simp [keep, iL]⟩
      · rintro N j acc2 H4 n4 ⟨s4, _⟩
        exact ⟨trivial, s4 _ _ ep3⟩
      · rintro N j x y TT2 acc2 H4 H5 hx hy hj n4 e4 ⟨s4, rfl⟩ nT2 s5 eT2
        have hj' : j < v.length := by
          have h1 : j < (enc v).cps.size := hj
          rwa [enc_size] at h1
        have gx : v[j]? = some v[j] := List.getElem?_eq_getElem hj'
        have gy : is[j]? = some (is[j]'(by omega)) := List.getElem?_eq_getElem _
        have hx' : ((enc v).cps[j]?.map fun c => V.str ⟨#[c]⟩) = some x := hx
        have hy' : (iL is)[j]? = some y := hy
        rw [enc_cps, gx] at hx'
        rw [iL_get (by omega : j < is.length)] at hy'
        cases hx'
        cases hy'
        have kn := keep_snoc (c := c) gx gy
        have kl := keep_len (c := c) (w := v.take j) (r := is.take j)
        rw [List.length_take] at kl
        walk_at "zz"
        rw [sign_lt]
        refine v_if (fun h1 => ?_) (fun h1 => ?_)
        · walk_at "zz"
          refine v_acc (s5 _ _ e4) (by rw [iL_len]; omega) fun H6 b6 e6 => ⟨same_but (s4.trans s5) n4 b6, ?_⟩
          rw [kn, if_pos (by simpa using h1)]
          simp [iL]
        · refine v_noacc (s5 _ _ e4) ?_
          refine ⟨s4.trans s5, ?_⟩
          rw [kn, if_neg (by simpa using h1)]
          simp
      · rintro N acc2 H4 n4 e4 ⟨s4, rfl⟩
        rw [show (Src.str (enc v)).n = v.length from enc_size v, List.take_length, show v.length = is.length by omega, List.take_length] at e4
        walk_at "zz"
        refine v_tupL (SqL.of e4) fun tt H5 n5 s5 e5 => ?_
        walk_at "zz"
        have e35 := s5 _ _ (s4 _ _ e3)
        refine v_app e35 (by omega) fun H6 b6 e6 => ?_
        refine ⟨_, _, _, _, _, rfl, same_but (S3.trans (s4.trans s5)) nM b6, e6, ?_⟩
        rw [ks]
        exact ((t2.same (s3.trans (s4.trans s5))).snoc e5).but b6 e35
    · rintro σ H2 ⟨acc, c1, c2, c3, c4, rfl, s2, e2, t2⟩
      rw [show (keeps c ws rs).take (Src.tup p (wL ws)).n = keeps c ws rs from List.take_of_length_le (by show (List.zipWith _ ws rs).length ≤ (wL ws).length; rw [List.length_zipWith, wL_len]; omega)] at t2
      walk_at "zz"
      refine v_tupL (SqL.of e2) fun t H3 n3 s3 e3 => ?_
      exact q t acc H3 (Same.free s2 n3) (s2.trans s3) e3 (t2.same s3)
theorem ok_front_view (D : DefAt K mg "front_view" ["card", "printed"] s_front_view) (T : Tx K mg) (G_inks_of_letter : Glo P w K mg base (L2.CX P w) 4 "inks_of_letter" ["card", "printed", "letter"] (spView K)) : Glo P w K mg base (L2.CX P w) 5 "front_view" ["card", "printed"] (spViewC true K) := by
  refine D.okX 4 sc_front_view (fun vs H Q E h => ?_) (fun f cdv A outer s H vs Q E hr h => ?_)
  · obtain ⟨a, b, ws, rs, L, n, rfl, _⟩ := h
    rfl
  · obtain ⟨a, b, ws, rs, L, n, rfl, Ca, Pb, W, R, q⟩ := h
    have tk := takes_of (X := cxOf (L2.CX P w) P w K mg base N_front_view "front_view" (defScope s_front_view) f cdv A outer s H E) (E := E) rfl rfl rfl rfl
    have po := passes_of (X := cxOf (L2.CX P w) P w K mg base N_front_view "front_view" (defScope s_front_view) f cdv A outer s H E) rfl
    refine ⟨_, (pss_one (ps_ret (pe_g G_inks_of_letter (hr.mono (by decide)) rfl (passes_call tk fun _ _ _ _ z => z) (pa_cons (pv 0) (pa_cons (pv 1) (pa_cons pe_str pa_nil)))))), ?_⟩
    walk_at "zz"
    exact ⟨a, b, true, ws, rs, L, n, rfl, Ca, Pb, W, R, q⟩
theorem ok_top_view (D : DefAt K mg "top_view" ["card", "printed"] s_top_view) (T : Tx K mg) (G_inks_of_letter : Glo P w K mg base (L2.CX P w) 4 "inks_of_letter" ["card", "printed", "letter"] (spView K)) : Glo P w K mg base (L2.CX P w) 5 "top_view" ["card", "printed"] (spViewC false K) := by
  refine D.okX 4 sc_top_view (fun vs H Q E h => ?_) (fun f cdv A outer s H vs Q E hr h => ?_)
  · obtain ⟨a, b, ws, rs, L, n, rfl, _⟩ := h
    rfl
  · obtain ⟨a, b, ws, rs, L, n, rfl, Ca, Pb, W, R, q⟩ := h
    have tk := takes_of (X := cxOf (L2.CX P w) P w K mg base N_top_view "top_view" (defScope s_top_view) f cdv A outer s H E) (E := E) rfl rfl rfl rfl
    have po := passes_of (X := cxOf (L2.CX P w) P w K mg base N_top_view "top_view" (defScope s_top_view) f cdv A outer s H E) rfl
    refine ⟨_, (pss_one (ps_ret (pe_g G_inks_of_letter (hr.mono (by decide)) rfl (passes_call tk fun _ _ _ _ z => z) (pa_cons (pv 0) (pa_cons (pv 1) (pa_cons pe_str pa_nil)))))), ?_⟩
    walk_at "zz"
    exact ⟨a, b, false, ws, rs, L, n, rfl, Ca, Pb, W, R, q⟩
end
end Sk
namespace Sk
open PySem PySem.Spec PyProof.Rows L2
/-! step words: z one step, zz as far as it goes, at: what stands at an address -/
local macro_rules
  | `(tactic| walk_at "zz") => `(tactic| repeat first
    | (with_reducible refine z_seq ?_) | (with_reducible refine z_asg ?_) | (with_reducible refine z_gname ?_) | (with_reducible refine z_var (by with_unfolding_all rfl) ?_)
    | (with_reducible refine z_c ?_) | (with_reducible refine z_op ?_) | (with_reducible refine z_cons ?_) | (with_reducible refine z_nil ?_)
    | (with_reducible refine z_next ?_) | (with_reducible refine z_call ?_) | (with_reducible refine z_drop ?_) | (with_reducible refine z_ret ?_)
    | (with_reducible refine z_ifs ?_) | (with_reducible refine z_un ?_) | (with_reducible refine z_chain ?_) | (with_reducible refine z_rI0 ?_)
    | (with_reducible refine z_eqI ?_) | (with_reducible refine z_neI ?_) | (with_reducible refine z_eqS ?_) | (with_reducible refine z_neS ?_)
    | (with_reducible refine z_eqB ?_) | (with_reducible refine z_neB ?_) | (with_reducible refine z_test ?_) | (with_reducible refine z_tB ?_)
    | (with_reducible refine z_bl ?_) | (with_reducible refine z_and ?_) | (with_reducible refine z_or ?_) | (with_reducible refine z_not ?_)
    | (with_reducible refine z_andV ?_) | (with_reducible refine z_orV ?_) | (with_reducible refine z_notV ?_) | (with_reducible refine z_if ?_)
    | (with_reducible refine z_cb ?_) | (with_reducible refine z_part ?_) | (with_reducible refine z_noPart ?_) | (with_reducible refine z_int ?_)
    | (with_reducible refine z_sl ?_) | (with_reducible refine z_fld ?_) | (with_reducible refine z_tup ?_) | (with_reducible refine z_lst ?_)
    | (with_reducible refine z_bm ?_) | (with_reducible refine z_bm0 ?_) | (with_reducible refine z_fldS ?_) | (with_reducible refine z_rU ?_)
    | (with_reducible refine v_intI ?_) | (with_reducible refine v_intB ?_) | (with_reducible refine v_abs ?_) | (with_reducible refine v_isN ?_)
    | (with_reducible refine v_notN ?_) | (with_reducible refine v_cnt ?_) | (with_reducible refine z_make ?_) | (with_reducible refine z_tru ?_)
    | (with_reducible refine z_m1 ?_) | (with_reducible refine z_strI ?_) | (with_reducible refine z_zS ?_) | (with_reducible refine z_eS ?_)
    | (with_reducible refine v_isII ?_) | (with_reducible refine v_isIB ?_) | (with_reducible refine v_isBI ?_) | (with_reducible refine v_isBB ?_)
    | (with_reducible refine v_isNI ?_) | (with_reducible refine v_isIT ?_) | (with_reducible refine v_isST ?_) | (with_reducible refine v_isSS ?_)
    | (with_reducible refine v_isIS ?_) | (with_reducible refine z_sub ?_) | (with_reducible refine z_gcons ?_) | (with_reducible refine z_gnil ?_)
    | (with_reducible refine z_par ?_) | (with_reducible refine v_par ?_) | (with_reducible refine z_par3 ?_) | (with_reducible refine v_par3 ?_)
    | (with_reducible refine v_ipI ?_) | (with_reducible refine z_for ?_) | (with_reducible refine z_lc ?_) | (with_reducible refine z_yes ?_)
    | (with_reducible refine z_rng1 ?_) | (with_reducible refine z_rng2 ?_) | (with_reducible refine z_list ?_) | (with_reducible refine z_tupi ?_)
    | (with_reducible refine z_stri ?_) | (with_reducible refine v_istr ?_) | (with_reducible refine iteT ?_) | (with_reducible refine iteF ?_)
    | (with_reducible refine z_nT ?_) | (with_reducible refine z_nF ?_) | (with_reducible refine z_cont ?_) | (with_reducible refine z_brk ?_)
    | (with_reducible refine z_retN ?_) | (walk_at "zn"))
  | `(tactic| walk_at "zn") => `(tactic| first
    | ((with_reducible refine' v_ixL ?k1 ?k2 ?_); (case k1 => walk_at "sq"); (case k2 => rfl)) | ((with_reducible refine' v_ixT ?k1 ?k2 ?_); (case k1 => walk_at "st"); (case k2 => rfl)) | ((with_reducible refine' v_lenL ?k1 ?_); (case k1 => walk_at "sq")) | ((with_reducible refine' v_lenT ?k1 ?_); (case k1 => walk_at "st"))
    | ((with_reducible refine' v_slS ?k1 ?_); (case k1 => (rw [enc_len]; exact small (by omega)))) | ((with_reducible refine' v_lenS ?k1 ?_); (case k1 => (rw [enc_len]; exact small (by omega)))) | ((with_reducible refine' v_slL ?k1 ?_); (case k1 => walk_at "sq")) | ((with_reducible refine' z_tyL ?k1 ?_); (case k1 => walk_at "at"))
    | ((with_reducible refine' v_fld ?k1 ?k2 ?k3 ?k4 ?_); (case k1 => walk_at "at"); (case k2 => assumption); (case k3 => assumption); (case k4 => first | assumption | rfl)) | ((with_reducible refine' v_truL ?k1 ?_); (case k1 => walk_at "at")) | ((with_reducible refine' z_wipe ?k1 ?_); (case k1 => rfl)) | ((with_reducible refine' v_gtup ?k1 ?k2 ?_); (case k1 => walk_at "st"); (case k2 => rfl))
    | ((with_reducible refine' z_aug ?k1 ?_); (case k1 => rfl)) | ((with_reducible refine' v_ilist ?k1 ?_); (case k1 => walk_at "sq")) | ((with_reducible refine' v_itup ?k1 ?_); (case k1 => walk_at "st")) | ((with_reducible refine' z_rI ?k1 ?_); (case k1 => first | (show (_ : Int) ≠ _; omega) | exact .inl ⟨by decide, by decide⟩ | exact .inr ⟨by decide, by decide⟩ | exact ⟨by decide, by decide⟩ | exact .inl ⟨by omega, by omega⟩ | exact .inr ⟨by omega, by omega⟩))
    | ((with_reducible refine' z_var ?hv ?_); (case hv => rfl)))
  | `(tactic| walk_at "at") => `(tactic| first
    | assumption
    | ((with_reducible refine' same_at ?k1 ?k2); (case k1 => assumption); (case k2 => walk_at "at"))
    | ((with_reducible refine' but_at ?k1 ?k2 ?k3); (case k1 => assumption); (case k2 => first | assumption | (apply Ne.symm; assumption)); (case k3 => walk_at "at")))
  | `(tactic| walk_at "sq") => `(tactic| first
    | assumption
    | (refine' SqL.of ?k1; (case k1 => walk_at "at"))
    | ((with_reducible refine' Same.seq ?k1 ?k2); (case k1 => assumption); (case k2 => walk_at "sq")))
  | `(tactic| walk_at "st") => `(tactic| first
    | assumption
    | (refine' SqT.of ?k1; (case k1 => walk_at "at"))
    | ((with_reducible refine' same_tup ?k1 ?k2); (case k1 => assumption); (case k2 => walk_at "st")))
  | `(tactic| walk_at "sa") => `(tactic| first
    | assumption
    | exact Same.refl _
    | (refine' Same.trans ?k1 ?k2; (case k2 => assumption); (case k1 => walk_at "sa")))
/-! Slopes. -/
abbrev s_alike_from : Stmt := top 40
abbrev N_alike_from : List Str := ["one", "other", "p", "q", "c", "step"]
theorem sc_alike_from : FnScope N_alike_from ["one", "other", "p", "q"] (defScope s_alike_from) := ⟨rfl, rfl, rfl, by decide +kernel, rfl, by decide +kernel, by decide +kernel⟩
abbrev s_alike_by : Stmt := top 43
abbrev N_alike_by : List Str := ["one", "other", "printed", "p", "q", "mine", "theirs", "c", "spot"]
theorem sc_alike_by : FnScope N_alike_by ["one", "other", "printed", "p", "q"] (defScope s_alike_by) := ⟨rfl, rfl, rfl, by decide +kernel, rfl, by decide +kernel, by decide +kernel⟩
abbrev s_alike_between : Stmt := top 44
abbrev N_alike_between : List Str := ["one", "other", "printed", "c", "row", "t"]
theorem sc_alike_between : FnScope N_alike_between ["one", "other", "printed"] (defScope s_alike_between) := ⟨rfl, rfl, rfl, by decide +kernel, rfl, by decide +kernel, by decide +kernel⟩
abbrev s_slopes_alike : Stmt := top 45
abbrev N_slopes_alike : List Str := ["one", "other", "printed", "words"]
theorem sc_slopes_alike : FnScope N_slopes_alike ["one", "other", "printed"] (defScope s_slopes_alike) := ⟨rfl, rfl, rfl, by decide +kernel, rfl, by decide +kernel, by decide +kernel⟩
def Exv (K : PySem.W.Frag) (cn : Str) (z : Str) (H : Hp) (E : XK) : Prop := ∀ d H', H d = none → Same H H' → H' d = some (.xd [("what", .str z)]) → E (.ref (He.ga K cn)) (some d) H'
theorem Exv.same {K : PySem.W.Frag} {cn z : Str} {H H1 : Hp} {E : XK} (h : Exv K cn z H E) (s : Same H H1) : Exv K cn z H1 E := fun d H' n s' e => h d H' (Same.free s n) (s.trans s') e
def spFrom (K : PySem.W.Frag) : Sp := fun vs H Q E => ∃ (a b : Addr) (x y : V) (ws us : Ws) (L n L' n' : Nat), vs = [.ref a, .ref b, x, y] ∧ CardAt K H a ws L n ∧ CardAt K H b us L' n' ∧ WsOk L n ws ∧ WsOk L' n' us ∧
  ((¬ (L' = L ∧ n' = n) ∧ Exv K "BadView" "cards" H E) ∨ (L' = L ∧ n' = n ∧ ∃ o, Slope x y o ∧ (∀ z, o = some z → Exv K "BadSlope" z H E) ∧
    (o = none → ∀ p q : Nat, x = .int p → y = .int q → ∀ v H', Same H H' → OptP H' v (if p = q then none else cell ws us) → Q v H')))
def spBy (K : PySem.W.Frag) : Sp := fun vs H Q E => ∃ (a b c : Addr) (x y : V) (ws us : Ws) (rs : Rs) (L n L' n' L'' n'' : Nat), vs = [.ref a, .ref b, .ref c, x, y] ∧ CardAt K H a ws L n ∧ CardAt K H b us L' n' ∧ PrintAt K H c rs L'' n'' ∧ WsOk L n ws ∧ WsOk L' n' us ∧ RsOk L'' n'' rs ∧
  ((¬ (L' = L ∧ n' = n) ∧ Exv K "BadView" "cards" H E) ∨ (L' = L ∧ n' = n ∧ ¬ (L'' = L ∧ n'' = n) ∧ Exv K "BadView" "print" H E) ∨ (L' = L ∧ n' = n ∧ L'' = L ∧ n'' = n ∧ ∃ o, Slope x y o ∧ (∀ z, o = some z → Exv K "BadSlope" z H E) ∧
    (o = none → ∀ p q : Nat, x = .int p → y = .int q → ∀ v H', Same H H' → OptP H' v (spot ws us rs p q) → Q v H')))
def spBetween (K : PySem.W.Frag) : Sp := fun vs H Q _ => ∃ (a b c : Addr) (ws us : Ws) (rs : Rs) (L n : Nat), vs = [.ref a, .ref b, .ref c] ∧ CardAt K H a ws L n ∧ CardAt K H b us L n ∧ PrintAt K H c rs L n ∧ WsOk L n ws ∧ WsOk L n us ∧ RsOk L n rs ∧
  ∀ (g : Bool) H', Same H H' → (g = true ↔ Agree ws us rs) → Q (.bl g) H'
def names (f t g : Bool) : List Str := (if f = true then [("front" : Str)] else []) ++ (if t = true then [("top" : Str)] else []) ++ [("even" : Str)] ++ (if g = true then [("between" : Str)] else [])
def spAll (K : PySem.W.Frag) : Sp := fun vs H Q E => ∃ (a b c : Addr) (ws us : Ws) (rs : Rs) (L n L' n' L'' n'' : Nat), vs = [.ref a, .ref b, .ref c] ∧ CardAt K H a ws L n ∧ CardAt K H b us L' n' ∧ PrintAt K H c rs L'' n'' ∧ WsOk L n ws ∧ WsOk L' n' us ∧ RsOk L'' n'' rs ∧
  ((¬ (L' = L ∧ n' = n) ∧ Exv K "BadView" "cards" H E) ∨ (L' = L ∧ n' = n ∧ ¬ (L'' = L ∧ n'' = n) ∧ Exv K "BadView" "print" H E) ∨ (L' = L ∧ n' = n ∧ L'' = L ∧ n'' = n ∧
    ∀ (g : Bool) t H', (g = true ↔ Agree ws us rs) → Same H H' → H' t = some (.tup ((names (decide (keeps true ws rs = keeps true us rs)) (decide (keeps false ws rs = keeps false us rs)) g).map .str)) → Q (.ref t) H'))
section
variable {P : Program} {w : World} {K : PySem.W.Frag} {mg : Str → Option Value} {base : Heap}
theorem ok_slope_view (D : DefAt K mg "slope_view" ["card", "printed", "p", "q"] s_slope_view) (T : Tx K mg) (G_check_print : Glo P w K mg base (L2.CX P w) 3 "check_print" ["card", "printed"] (spChkPrint K)) (G_check_slope : Glo P w K mg base (L2.CX P w) 3 "check_slope" ["p", "q"] (spChkSlope K))
    (G_column_pieces : Glo P w K mg base CX0 1 "column_pieces" ["word", "row", "p", "q"] spPieces) : Glo P w K mg base (L2.CX P w) 4 "slope_view" ["card", "printed", "p", "q"] (spSlopeV K) := by
  refine D.okX 3 sc_slope_view (fun vs H Q E h => ?_) (fun f cdv A outer s H vs Q E hr h => ?_)
  · obtain ⟨a, b, p, q, ws, rs, L, n, rfl, _⟩ := h
    rfl
  · obtain ⟨a, b, p, q, ws, rs, L, n, rfl, hp, hq, hpq, Ca, Pb, W, R, k⟩ := h
    have z1 := W.n12
    have z2 := W.len
    have z3 := R.len
    have z4 := W.l6
    obtain ⟨dx, fs, pw, h1, h2, h3, h4, h5⟩ := id Ca
    obtain ⟨dx', fs', p', xs, g1, g2, g3, g4, g5, g6⟩ := id Pb
    have lx := g6.len
    have tk := takes_of (X := cxOf (L2.CX P w) P w K mg base N_slope_view "slope_view" (defScope s_slope_view) f cdv A outer s H E) (E := E) rfl rfl rfl rfl
    have po := passes_of (X := cxOf (L2.CX P w) P w K mg base N_slope_view "slope_view" (defScope s_slope_view) f cdv A outer s H E) rfl
    refine ⟨_, (pss_cons (ps_expr (pe_g G_check_print (hr.mono (by decide)) rfl (passes_call tk fun _ _ _ _ z => z) (pa_cons (pv 0) (pa_cons (pv 1) pa_nil))))
      (pss_cons (ps_expr (pe_g G_check_slope (hr.mono (by decide)) rfl (passes_call tk fun _ _ _ _ z => z) (pa_cons (pv 2) (pa_cons (pv 3) pa_nil))))
      (pss_one (ps_ret (pe_callTy (tupK (K := K) rfl) (by rfl) T.n_tuple (by decide +kernel) (pa_cons (pe_lc (own := [("word", 4), ("row", 5)]) rfl sc_slope_view.nd (pi_zipS (by rfl) T.n_zip (pa_cons (fldK (K := K) rfl (pv 0) rfl) (pa_cons (fldK (K := K) rfl (pv 1) rfl) pa_nil))) (blkOk_by (N := N_slope_view) (sc := defScope s_slope_view) (by decide +kernel)) (fun _ _ _ _ _ => (pg_tupK (K := K) 2 rfl rfl (pgs_cons (pg_name (i := 4) sc_slope_view.nd rfl (Or.inl rfl)) (pgs_cons (pg_name (i := 5) sc_slope_view.nd rfl (Or.inl rfl)) pgs_nil)))) (fun _ _ _ _ _ => pts_nil) (fun _ _ _ _ _ => (pe_g G_column_pieces (hr.mono (by decide)) rfl pass0 (pa_cons (pv 4) (pa_cons (pv 5) (pa_cons (pv 2) (pa_cons (pv 3) pa_nil))))))) pa_nil)))))), ?_⟩
    have cl1 := T.c_Card
    have cl2 := T.c_Print
    have cl3 := T.a_Card_size
    have cl4 := T.a_Card_width
    have cl5 := T.a_Card_words
    have cl6 := T.a_Print_size
    have cl7 := T.a_Print_width
    have cl8 := T.a_Print_inks
    walk_at "zz"
    refine ⟨a, b, ws, rs, L, n, L, n, rfl, Ca, Pb, .inl ⟨rfl, rfl, ?_⟩⟩
    walk_at "zz"
    refine ⟨_, _, none, rfl, ⟨p, q, rfl, rfl, hp, hq, hpq⟩, fun _ => ?_, fun z e => (by cases e)⟩
    walk_at "zz"
    refine v_zip (.tup pw (wL ws)) (.tup p' xs) h5 g5 ?_
    refine v_lcZ (by show (wL ws).length = xs.length; rw [wL_len]; omega) (fun N i acc H' => Same H H' ∧ acc.length = i ∧ ∀ (j : Nat) (x : V), acc[j]? = some x → ∃ t ys ps, x = .ref t ∧ H' t = some (.tup ys) ∧ Tups H' ys (pcs ps) ∧ expand ps = seen p q (wAt ws j) (rAt rs j)) ?_ ?_ ?_ ?_
    · intro N H4 n4 s4 e4
      exact ⟨s4, rfl, fun j x h => by cases h⟩
    · rintro N i acc H4 n4 ⟨s4, _⟩
      exact ⟨s4 _ _ h5, s4 _ _ g5⟩
    · rintro N i x y TT acc H4 H5 hx hy hi n4 e4 ⟨s4, la, al⟩ nT s5 eT
      have hi' : i < n := by
        have h1 : i < (wL ws).length := hi
        rw [wL_len] at h1
        omega
      obtain ⟨gw, wi⟩ := W.get hi'
      obtain ⟨gr, lr⟩ := R.get hi'
      have lw := wi.len
      have hx' : (wL ws)[i]? = some x := hx
      rw [wL_get gw] at hx'
      cases hx'
      obtain ⟨pr, gp, ep⟩ := g6.get2 gr
      have hy' : xs[i]? = some y := hy
      rw [gp] at hy'
      cases hy'
      have S5 := s4.trans s5
      walk_at "zz"
      refine ⟨_, pr, _, p, q, rfl, by omega, by omega, S5 _ _ ep, hp, hq, fun t ys ps H6 n6 s6 e6 t6 ex => ?_⟩
      have e46 := s6 _ _ (s5 _ _ e4)
      refine v_acc e46 (by omega) fun H7 b7 e7 => ⟨same_but (S5.trans s6) n4 b7, by simp [la], fun j x hj => ?_⟩
      have nb : ∀ (t' : Addr) zs, H6 t' = some (.tup zs) → H7 t' = some (.tup zs) := fun t' zs e => b7 _ _ (fun e' => by rw [e', e46] at e; cases e) e
      by_cases hj2 : j < acc.length
      · rw [List.getElem?_append_left hj2] at hj
        obtain ⟨t', ys', ps', rfl, e', T', x'⟩ := al j x hj
        exact ⟨t', ys', ps', rfl, nb _ _ (s6 _ _ (s5 _ _ e')), ((T'.same s5).same s6).but b7 e46, x'⟩
      · have : j = acc.length := by
          have := (List.getElem?_eq_some_iff.mp hj).1
          simp at this
          omega
        subst this
        rw [List.getElem?_concat_length] at hj
        cases hj
        exact ⟨t, ys, ps, rfl, nb _ _ e6, t6.but b7 e46, by rw [ex, la]⟩
    · rintro N acc H4 n4 e4 ⟨s4, la, al⟩
      walk_at "zz"
      refine v_tupL (SqL.of e4) fun t H5 n5 s5 e5 => ?_
      have la' : acc.length = ws.length := by
        rw [la]
        exact wL_len ws
      exact k t acc H5 (Same.free s4 n5) (s4.trans s5) e5 ⟨la', fun j x hj => by
        obtain ⟨t', ys', ps', e1, e', T', x'⟩ := al j x hj
        exact ⟨t', ys', ps', e1, s5 _ _ e', T'.same s5, x'⟩⟩
theorem ok_alike_from (D : DefAt K mg "alike_from" ["one", "other", "p", "q"] s_alike_from) (T : Tx K mg) (G_check_cards : Glo P w K mg base (L2.CX P w) 3 "check_cards" ["one", "other"] (spChkCards K)) (G_check_slope : Glo P w K mg base (L2.CX P w) 3 "check_slope" ["p", "q"] (spChkSlope K))
    (G_first_unlike_step : Glo P w K mg base CX0 1 "first_unlike_step" ["one", "other"] spStep) : Glo P w K mg base (L2.CX P w) 4 "alike_from" ["one", "other", "p", "q"] (spFrom K) := by
  refine D.okX 3 sc_alike_from (fun vs H Q E h => ?_) (fun f cdv A outer s H vs Q E hr h => ?_)
  · obtain ⟨a, b, x, y, ws, us, L, n, L', n', rfl, _⟩ := h
    rfl
  · obtain ⟨a, b, x, y, ws, us, L, n, L', n', rfl, Ca, Cb, W, U, h⟩ := h
    have z1 := W.n12
    have z2 := W.len
    have z4 := W.l6
    obtain ⟨dx, fs, pw, h1, h2, h3, h4, h5⟩ := id Ca
    obtain ⟨dx', fs', pu, g1, g2, g3, g4, g5⟩ := id Cb
    have tk := takes_of (X := cxOf (L2.CX P w) P w K mg base N_alike_from "alike_from" (defScope s_alike_from) f cdv A outer s H E) (E := E) rfl rfl rfl rfl
    have po := passes_of (X := cxOf (L2.CX P w) P w K mg base N_alike_from "alike_from" (defScope s_alike_from) f cdv A outer s H E) rfl
    refine ⟨_, (pss_cons (ps_expr (pe_g G_check_cards (hr.mono (by decide)) rfl (passes_call tk fun _ _ _ _ z => z) (pa_cons (pv 0) (pa_cons (pv 1) pa_nil))))
      (pss_cons (ps_expr (pe_g G_check_slope (hr.mono (by decide)) rfl (passes_call tk fun _ _ _ _ z => z) (pa_cons (pv 2) (pa_cons (pv 3) pa_nil))))
      (pss_cons (ps_if (pt_cmpR op_eq (pv 2) (pv 3) (nomark _)) (pss_one (ps_ret pe_non)) pss_nil)
      (pss_cons (ps_for po rfl (pi_range1 (by rfl) T.n_range (pa_cons (fldK (K := K) rfl (pv 0) rfl) pa_nil)) (pg_name (i := 4) sc_alike_from.nd rfl (Or.inl rfl))
        (pss_cons (ps_set (i := 5) sc_alike_from.nd rfl (Or.inl rfl) (pe_g G_first_unlike_step (hr.mono (by decide)) rfl pass0 (pa_cons (pe_ix (ixT (K := K) rfl) (fldK (K := K) rfl (pv 0) rfl) (pv 4) (fun _ _ => rfl)) (pa_cons (pe_ix (ixT (K := K) rfl) (fldK (K := K) rfl (pv 1) rfl) (pv 4) (fun _ _ => rfl)) pa_nil))))
        (pss_one (ps_if (pt_cmpR op_notZ (pv 5) pe_non (nomark _)) (pss_one (ps_ret (pe_tup (pa_cons (pv 4) (pa_cons (pv 5) pa_nil))))) pss_nil))))
      (pss_one (ps_ret pe_non)))))), ?_⟩
    have cl1 := T.c_Card
    have cl2 := T.c_Print
    have cl3 := T.a_Card_size
    have cl4 := T.a_Card_width
    have cl5 := T.a_Card_words
    have cl6 := T.a_Print_size
    have cl7 := T.a_Print_width
    have cl8 := T.a_Print_inks
    walk_at "zz"
    rcases h with ⟨ne, e⟩ | ⟨rfl, rfl, o, S, e, k⟩
    · exact ⟨a, b, ws, us, L, n, L', n', rfl, Ca, Cb, .inr ⟨ne, e⟩⟩
    · refine ⟨a, b, ws, us, L', n', L', n', rfl, Ca, Cb, .inl ⟨rfl, rfl, ?_⟩⟩
      walk_at "zz"
      refine ⟨x, y, o, rfl, S, fun ho => ?_, fun z ho => e z ho⟩
      subst ho
      obtain ⟨p, q, rfl, rfl, hp, hq, hpq⟩ := S
      have kk := k rfl p q rfl rfl
      walk_at "zz"
      refine v_if (fun e1 => ?_) (fun e1 => ?_)
      · walk_at "zz"
        have e1' : p = q := by
          have := of_decide_eq_true e1
          omega
        rw [if_pos e1'] at kk
        exact kk .non H (Same.refl _) rfl
      · have e1' : p ≠ q := fun e => by simp [e] at e1
        rw [if_neg e1'] at kk
        walk_at "zz"
        refine v_rng1 n' rfl (by omega) ?_
        refine v_for0 (fun i σ H' => ∃ (c1 c2 : Option V), σ = [some (.ref a), some (.ref b), some (.int p), some (.int q), c1, c2] ∧ Same H H' ∧ ∀ c, c < i → fd (wAt ws c) (wAt us c) = none) ?_ ?_ ?_
        · exact ⟨_, _, rfl, Same.refl _, fun c hc => absurd hc (Nat.not_lt_zero _)⟩
        · rintro i σ H2 hi ⟨c1, c2, rfl, s2, hn⟩
          obtain ⟨gw, wi⟩ := W.get hi
          obtain ⟨gu, ui⟩ := U.get hi
          have lw := wi.len
          have lu := ui.len
          walk_at "zz"
          refine v_ixTn (SqT.of (s2 _ _ h5)) (wL_get gw) ?_
          walk_at "zz"
          refine v_ixTn (SqT.of (s2 _ _ g5)) (wL_get gu) ?_
          walk_at "zz"
          refine ⟨_, _, rfl, by omega, by omega, fun H3 s3 => ?_⟩
          cases hf : fd (wAt ws i) (wAt us i) with
          | none =>
            walk_at "zz"
            refine v_ifF rfl ?_
            walk_at "zz"
            refine ⟨_, _, rfl, s2.trans s3, fun c hc => ?_⟩
            by_cases e : c = i
            · rw [e]
              exact hf
            · exact hn c (by omega)
          | some t =>
            walk_at "zz"
            refine v_ifT rfl ?_
            walk_at "zz"
            refine v_tup fun t1 H4 n4 s4 e4 => ?_
            refine kk (.ref t1) H4 (s2.trans (s3.trans s4)) ?_
            rw [show cell ws us = some ((i : Int), (t : Int)) from first2_some (by omega) hn hf]
            exact ⟨t1, rfl, e4⟩
        · rintro σ H2 ⟨c1, c2, rfl, s2, hn⟩
          walk_at "zz"
          refine kk .non H2 s2 ?_
          rw [show cell ws us = none from first2_none (by rw [z2]; exact hn)]
          rfl
theorem ok_alike_by (D : DefAt K mg "alike_by" ["one", "other", "printed", "p", "q"] s_alike_by) (T : Tx K mg) (G_check_cards : Glo P w K mg base (L2.CX P w) 3 "check_cards" ["one", "other"] (spChkCards K)) (G_check_print : Glo P w K mg base (L2.CX P w) 3 "check_print" ["card", "printed"] (spChkPrint K))
    (G_check_slope : Glo P w K mg base (L2.CX P w) 3 "check_slope" ["p", "q"] (spChkSlope K)) (G_slope_view : Glo P w K mg base (L2.CX P w) 4 "slope_view" ["card", "printed", "p", "q"] (spSlopeV K)) (G_first_unlike_spot : Glo P w K mg base CX0 2 "first_unlike_spot" ["pieces", "others"] spUnlike) :
    Glo P w K mg base (L2.CX P w) 5 "alike_by" ["one", "other", "printed", "p", "q"] (spBy K) := by
  refine D.okX 4 sc_alike_by (fun vs H Q E h => ?_) (fun f cdv A outer s H vs Q E hr h => ?_)
  · obtain ⟨a, b, c, x, y, ws, us, rs, L, n, L', n', L'', n'', rfl, _⟩ := h
    rfl
  · obtain ⟨a, b, c, x, y, ws, us, rs, L, n, L', n', L'', n'', rfl, Ca, Cb, Pc, W, U, R, h⟩ := h
    have z1 := W.n12
    have z2 := W.len
    have z4 := W.l6
    obtain ⟨dx, fs, pw, h1, h2, h3, h4, h5⟩ := id Ca
    have tk := takes_of (X := cxOf (L2.CX P w) P w K mg base N_alike_by "alike_by" (defScope s_alike_by) f cdv A outer s H E) (E := E) rfl rfl rfl rfl
    have po := passes_of (X := cxOf (L2.CX P w) P w K mg base N_alike_by "alike_by" (defScope s_alike_by) f cdv A outer s H E) rfl
    refine ⟨_, (pss_cons (ps_expr (pe_g G_check_cards (hr.mono (by decide)) rfl (passes_call tk fun _ _ _ _ z => z) (pa_cons (pv 0) (pa_cons (pv 1) pa_nil))))
      (pss_cons (ps_expr (pe_g G_check_print (hr.mono (by decide)) rfl (passes_call tk fun _ _ _ _ z => z) (pa_cons (pv 0) (pa_cons (pv 2) pa_nil))))
      (pss_cons (ps_expr (pe_g G_check_slope (hr.mono (by decide)) rfl (passes_call tk fun _ _ _ _ z => z) (pa_cons (pv 3) (pa_cons (pv 4) pa_nil))))
      (pss_cons (ps_set (i := 5) sc_alike_by.nd rfl (Or.inl rfl) (pe_g G_slope_view (hr.mono (by decide)) rfl (passes_call tk fun _ _ _ _ z => z) (pa_cons (pv 0) (pa_cons (pv 2) (pa_cons (pv 3) (pa_cons (pv 4) pa_nil))))))
      (pss_cons (ps_set (i := 6) sc_alike_by.nd rfl (Or.inl rfl) (pe_g G_slope_view (hr.mono (by decide)) rfl (passes_call tk fun _ _ _ _ z => z) (pa_cons (pv 1) (pa_cons (pv 2) (pa_cons (pv 3) (pa_cons (pv 4) pa_nil))))))
      (pss_cons (ps_for po rfl (pi_range1 (by rfl) T.n_range (pa_cons (fldK (K := K) rfl (pv 0) rfl) pa_nil)) (pg_name (i := 7) sc_alike_by.nd rfl (Or.inl rfl))
        (pss_cons (ps_set (i := 8) sc_alike_by.nd rfl (Or.inl rfl) (pe_g G_first_unlike_spot (hr.mono (by decide)) rfl pass0 (pa_cons (pe_ix (ixT (K := K) rfl) (pv 5) (pv 7) (fun _ _ => rfl)) (pa_cons (pe_ix (ixT (K := K) rfl) (pv 6) (pv 7) (fun _ _ => rfl)) pa_nil))))
        (pss_one (ps_if (pt_cmpR op_notZ (pv 8) pe_non (nomark _)) (pss_one (ps_ret (pe_tup (pa_cons (pv 7) (pa_cons (pv 8) pa_nil))))) pss_nil))))
      (pss_one (ps_ret pe_non)))))))), ?_⟩
    have cl1 := T.c_Card
    have cl2 := T.c_Print
    have cl3 := T.a_Card_size
    have cl4 := T.a_Card_width
    have cl5 := T.a_Card_words
    have cl6 := T.a_Print_size
    have cl7 := T.a_Print_width
    have cl8 := T.a_Print_inks
    walk_at "zz"
    rcases h with ⟨ne, e⟩ | ⟨rfl, rfl, ne, e⟩ | ⟨rfl, rfl, rfl, rfl, o, S, e, k⟩
    · exact ⟨a, b, ws, us, L, n, L', n', rfl, Ca, Cb, .inr ⟨ne, e⟩⟩
    · refine ⟨a, b, ws, us, L', n', L', n', rfl, Ca, Cb, .inl ⟨rfl, rfl, ?_⟩⟩
      walk_at "zz"
      exact ⟨a, c, ws, rs, L', n', L'', n'', rfl, Ca, Pc, .inr ⟨ne, e⟩⟩
    · refine ⟨a, b, ws, us, L'', n'', L'', n'', rfl, Ca, Cb, .inl ⟨rfl, rfl, ?_⟩⟩
      walk_at "zz"
      refine ⟨a, c, ws, rs, L'', n'', L'', n'', rfl, Ca, Pc, .inl ⟨rfl, rfl, ?_⟩⟩
      walk_at "zz"
      refine ⟨x, y, o, rfl, S, fun ho => ?_, fun z ho => e z ho⟩
      subst ho
      obtain ⟨p, q, rfl, rfl, hp, hq, hpq⟩ := S
      have kk := k rfl p q rfl rfl
      walk_at "zz"
      refine ⟨a, c, p, q, ws, rs, L'', n'', rfl, hp, hq, hpq, Ca, Pc, W, R, fun t1 xs1 H1 n1 s1 e1 P1 => ?_⟩
      walk_at "zz"
      refine ⟨b, c, p, q, us, rs, L'', n'', rfl, hp, hq, hpq, Cb.same s1, Pc.same s1, U, R, fun t2 xs2 H2 n2 s2 e2 P2 => ?_⟩
      have S2 := s1.trans s2
      have h12 := S2 _ _ h1
      walk_at "zz"
      refine v_rng1 n'' rfl (by omega) ?_
      refine v_for0 (fun i σ H' => ∃ (c1 c2 : Option V), σ = [some (.ref a), some (.ref b), some (.ref c), some (.int p), some (.int q), some (.ref t1), some (.ref t2), c1, c2] ∧ Same H2 H' ∧ ∀ c, c < i → fd (seen p q (wAt ws c) (rAt rs c)) (seen p q (wAt us c) (rAt rs c)) = none) ?_ ?_ ?_
      · exact ⟨_, _, rfl, Same.refl _, fun c hc => absurd hc (Nat.not_lt_zero _)⟩
      · rintro i σ H3 hi ⟨c1, c2, rfl, s3, hn⟩
        obtain ⟨gw, wi⟩ := W.get hi
        obtain ⟨gu, ui⟩ := U.get hi
        obtain ⟨gr, lr⟩ := R.get hi
        have lw := wi.len
        have lu := ui.len
        have l1 := P1.len
        have l2 := P2.len
        have z5 := U.len
        have hx1 : xs1[i]? = some (xs1[i]'(by omega)) := List.getElem?_eq_getElem _
        have hx2 : xs2[i]? = some (xs2[i]'(by omega)) := List.getElem?_eq_getElem _
        obtain ⟨u1, ys1, ps1, ev1, eu1, T1, x1⟩ := P1.get i _ hx1
        obtain ⟨u2, ys2, ps2, ev2, eu2, T2, x2⟩ := P2.get i _ hx2
        rw [ev1] at hx1
        rw [ev2] at hx2
        have sm := seen_small (p := p) (q := q) (w := wAt ws i) (r := rAt rs i) (by omega) (by omega) (by omega) (by omega)
        have lens : (seen p q (wAt us i) (rAt rs i)).length = (seen p q (wAt ws i) (rAt rs i)).length := by
          rw [seen_len (by omega), seen_len (by omega), wi.cn, ui.cn, wi.cn, ui.cn]
        walk_at "zz"
        refine v_ixTn (SqT.of (s3 _ _ (s2 _ _ e1))) hx1 ?_
        walk_at "zz"
        refine v_ixTn (SqT.of (s3 _ _ e2)) hx2 ?_
        walk_at "zz"
        refine ⟨u1, u2, ys1, ys2, ps1, ps2, rfl, s3 _ _ (s2 _ _ eu1), T1.same (s2.trans s3), by rw [x1]; omega, s3 _ _ eu2, T2.same s3, by rw [x1, x2]; exact lens, fun H4 s4 => ?_⟩
        rw [x1, x2]
        cases hf : fd (seen p q (wAt ws i) (rAt rs i)) (seen p q (wAt us i) (rAt rs i)) with
        | none =>
          walk_at "zz"
          refine v_ifF rfl ?_
          walk_at "zz"
          refine ⟨_, _, rfl, s3.trans s4, fun c hc => ?_⟩
          by_cases e : c = i
          · rw [e]
            exact hf
          · exact hn c (by omega)
        | some t =>
          walk_at "zz"
          refine v_ifT rfl ?_
          walk_at "zz"
          refine v_tup fun tt H5 n5 s5 e5 => ?_
          refine kk (.ref tt) H5 (S2.trans (s3.trans (s4.trans s5))) ?_
          rw [show spot ws us rs p q = some ((i : Int), (t : Int)) from first2_some (by omega) hn hf]
          exact ⟨tt, rfl, e5⟩
      · rintro σ H3 ⟨c1, c2, rfl, s3, hn⟩
        walk_at "zz"
        refine kk .non H3 (S2.trans s3) ?_
        rw [show spot ws us rs p q = none from first2_none (by rw [z2]; exact hn)]
        rfl
theorem ok_alike_between (D : DefAt K mg "alike_between" ["one", "other", "printed"] s_alike_between) (T : Tx K mg) (G_spot_of : Glo P w K mg base CX0 1 "spot_of" ["word", "boundary", "p", "q"] spSpotOf) : Glo P w K mg base CX0 2 "alike_between" ["one", "other", "printed"] (spBetween K) := by
  refine D.ok 1 sc_alike_between (fun vs H Q E h => ?_) (fun f cdv A outer s H vs Q E hr h => ?_)
  · obtain ⟨a, b, c, ws, us, rs, L, n, rfl, _⟩ := h
    rfl
  · obtain ⟨a, b, c, ws, us, rs, L, n, rfl, Ca, Cb, Pc, W, U, R, k⟩ := h
    have z1 := W.n12
    have z2 := W.len
    have z3 := R.len
    have z4 := W.l6
    obtain ⟨dx, fs, pw, h1, h2, h3, h4, h5⟩ := id Ca
    obtain ⟨dx', fs', pu, g1, g2, g3, g4, g5⟩ := id Cb
    obtain ⟨dx'', fs'', p', xs, i1, i2, i3, i4, i5, i6⟩ := id Pc
    have lx := i6.len
    refine ⟨_, (pss_cons (ps_for PassesOwn.never rfl (pi_enumS (by rfl) T.n_enumerate (pa_cons (fldK (K := K) rfl (pv 2) rfl) pa_nil)) (pg_tupK (K := K) 2 rfl rfl (pgs_cons (pg_name (i := 3) sc_alike_between.nd rfl (Or.inl rfl)) (pgs_cons (pg_name (i := 4) sc_alike_between.nd rfl (Or.inl rfl)) pgs_nil)))
        (pss_one (ps_for PassesOwn.never rfl (pi_range2 (by rfl) T.n_range (pa_cons pe_int (pa_cons (pe_callB (lenK (K := K) rfl) (by rfl) T.n_len (by decide +kernel) (pa_cons (pv 4) pa_nil)) pa_nil))) (pg_name (i := 5) sc_alike_between.nd rfl (Or.inl rfl))
          (pss_one (ps_if (pt_cmpR op_ne (pe_ix (ixT (K := K) rfl) (pv 4) (pe_op op_sub (pv 5) pe_int) (fun _ _ => rfl)) (pe_ix (ixT (K := K) rfl) (pv 4) (pv 5) (fun _ _ => rfl)) (nomark _)) (pss_one (ps_if (pt_cmpR op_ne (pe_g G_spot_of (hr.mono (by decide)) rfl pass0 (pa_cons (pe_ix (ixT (K := K) rfl) (fldK (K := K) rfl (pv 0) rfl) (pv 3) (fun _ _ => rfl)) (pa_cons (pv 5) (pa_cons pe_int (pa_cons pe_int pa_nil))))) (pe_g G_spot_of (hr.mono (by decide)) rfl pass0 (pa_cons (pe_ix (ixT (K := K) rfl) (fldK (K := K) rfl (pv 1) rfl) (pv 3) (fun _ _ => rfl)) (pa_cons (pv 5) (pa_cons pe_int (pa_cons pe_int pa_nil))))) (nomark _)) (pss_one (ps_ret pe_bl)) pss_nil)) pss_nil)))))
      (pss_one (ps_ret pe_bl))), ?_⟩
    have cl1 := T.c_Card
    have cl2 := T.c_Print
    have cl3 := T.a_Card_size
    have cl4 := T.a_Card_width
    have cl5 := T.a_Card_words
    have cl6 := T.a_Print_size
    have cl7 := T.a_Print_width
    have cl8 := T.a_Print_inks
    walk_at "zz"
    refine v_enum (.tup p' xs) i5 ?_
    refine v_forE (fun i σ H' => ∃ (c1 c2 c3 : Option V), σ = [some (.ref a), some (.ref b), some (.ref c), c1, c2, c3] ∧ Same H H' ∧ ∀ c, c < i → ∀ t, 1 ≤ t → t < (wAt ws c).length → (rAt rs c)[t - 1]? ≠ (rAt rs c)[t]? → ((wAt ws c).take t).count true = ((wAt us c).take t).count true) ?_ ?_ ?_ ?_
    · exact ⟨_, _, _, rfl, Same.refl _, fun c hc => absurd hc (Nat.not_lt_zero _)⟩
    · rintro i σ H2 ⟨c1, c2, c3, rfl, s2, _⟩
      exact s2 _ _ i5
    · rintro i x TT σ H2 H3 hx hi ⟨c1, c2, c3, rfl, s2, hn⟩ nT s3 eT
      have hi' : i < n := by
        have h1 : i < xs.length := hi
        omega
      obtain ⟨gw, wi⟩ := W.get hi'
      obtain ⟨gu, ui⟩ := U.get hi'
      obtain ⟨gr, lr⟩ := R.get hi'
      have lw := wi.len
      have lu := ui.len
      obtain ⟨pr, gp, ep⟩ := i6.get2 gr
      have hy' : xs[i]? = some x := hx
      rw [gp] at hy'
      cases hy'
      have S3 := s2.trans s3
      have kk := k
      unfold Agree at kk
      generalize hX : wAt ws i = X at *
      generalize hY : wAt us i = Y at *
      generalize hZ : rAt rs i = Z at *
      have ep3 : H3 pr = some (.tup (iL Z)) := S3 _ _ ep
      walk_at "zz"
      refine v_rng2 1 Z.length rfl (by rw [iL_len]) (by omega) (by omega) ?_
      refine v_forR (fun j σ H' => ∃ (c2 : Option V), σ = [some (.ref a), some (.ref b), some (.ref c), some (.int (i : Nat)), some (.ref pr), c2] ∧ H' = H3 ∧ ∀ t, 1 ≤ t → t < 1 + j → Z[t - 1]? ≠ Z[t]? → (X.take t).count true = (Y.take t).count true) ?_ ?_ ?_
      · exact ⟨_, rfl, rfl, fun t h1 h2 => by omega⟩
      · rintro j σ H5 hj ⟨c4, rfl, rfl, hm⟩
        have gx : Z[j]? = some (Z[j]'(by omega)) := List.getElem?_eq_getElem _
        have gy : Z[1 + j]? = some (Z[1 + j]'(by omega)) := List.getElem?_eq_getElem _
        have next : (Z[j]'(by omega) ≠ Z[1 + j]'(by omega) → (X.take (1 + j)).count true = (Y.take (1 + j)).count true) → ∃ (c2 : Option V), [some (V.ref a), some (.ref b), some (.ref c), some (.int (i : Nat)), some (.ref pr), some (.int ((1 + j : Nat) : Int))] = [some (.ref a), some (.ref b), some (.ref c), some (.int (i : Nat)), some (.ref pr), c2] ∧ H5 = H5 ∧ ∀ t, 1 ≤ t → t < 1 + (j + 1) → Z[t - 1]? ≠ Z[t]? → (X.take t).count true = (Y.take t).count true := fun h => by
          refine ⟨_, rfl, rfl, fun t h1 h2 h3 => ?_⟩
          by_cases e : t = 1 + j
          · subst e
            rw [show 1 + j - 1 = j by omega, gx, gy] at h3
            exact h (by simpa using h3)
          · exact hm t h1 (by omega) h3
        have e1 : ((1 + j : Nat) : Int) - 1 = (j : Nat) := by omega
        walk_at "zz"
        rw [e1]
        refine v_ixTn (SqT.of ep3) (x := .int (Z[j]'(by omega))) (by unfold iL; rw [List.getElem?_map, gx]; rfl) ?_
        walk_at "zz"
        refine v_ixTn (SqT.of ep3) (x := .int (Z[1 + j]'(by omega))) (by unfold iL; rw [List.getElem?_map, gy]; rfl) ?_
        walk_at "zz"
        refine v_if (fun h1 => ?_) (fun h1 => ?_)
        · walk_at "zz"
          refine v_ixTn (SqT.of (S3 _ _ h5)) (wL_get gw) ?_
          walk_at "zz"
          refine ⟨X, 1 + j, 1, 0, rfl, by omega, by omega, by omega, by omega, ?_⟩
          walk_at "zz"
          refine v_ixTn (SqT.of (S3 _ _ g5)) (wL_get gu) ?_
          walk_at "zz"
          refine ⟨Y, 1 + j, 1, 0, rfl, by omega, by omega, by omega, by omega, ?_⟩
          walk_at "zz"
          refine v_if (fun h2 => ?_) (fun h2 => ?_)
          · walk_at "zz"
            refine k false H5 S3 ⟨fun e => (by cases e), fun e => ?_⟩
            have := e i (by omega) (1 + j) (by omega) (by rw [hX]; omega) (by rw [hZ, show 1 + j - 1 = j by omega, gx, gy]; simpa using h1)
            rw [hX, hY] at this
            simp [this] at h2
          · walk_at "zz"
            exact next fun _ => by simp at h2; omega
        · walk_at "zz"
          exact next fun e => absurd e (by simpa using h1)
      · rintro σ H5 ⟨c4, rfl, rfl, hm⟩
        walk_at "zz"
        refine ⟨_, _, _, rfl, S3, fun c hc => ?_⟩
        by_cases e : c = i
        · subst e
          rw [hX, hY, hZ]
          exact fun t h1 h2 h3 => hm t h1 (by omega) h3
        · exact hn c (by omega)
    · rintro σ H2 ⟨c1, c2, c3, rfl, s2, hn⟩
      walk_at "zz"
      exact k true H2 s2 ⟨fun _ c hc => hn c (by show c < xs.length; omega), fun _ => rfl⟩
end
end Sk
namespace Sk
open PySem PySem.Spec PyProof.Rows L2
/-! step words: z one step, zz as far as it goes, at: what stands at an address -/
local macro_rules
  | `(tactic| walk_at "zz") => `(tactic| repeat first
    | (with_reducible refine z_seq ?_) | (with_reducible refine z_asg ?_) | (with_reducible refine z_gname ?_) | (with_reducible refine z_var (by with_unfolding_all rfl) ?_)
    | (with_reducible refine z_c ?_) | (with_reducible refine z_op ?_) | (with_reducible refine z_cons ?_) | (with_reducible refine z_nil ?_)
    | (with_reducible refine z_next ?_) | (with_reducible refine z_call ?_) | (with_reducible refine z_drop ?_) | (with_reducible refine z_ret ?_)
    | (with_reducible refine z_ifs ?_) | (with_reducible refine z_un ?_) | (with_reducible refine z_chain ?_) | (with_reducible refine z_rI0 ?_)
    | (with_reducible refine z_eqI ?_) | (with_reducible refine z_neI ?_) | (with_reducible refine z_eqS ?_) | (with_reducible refine z_neS ?_)
    | (with_reducible refine z_eqB ?_) | (with_reducible refine z_neB ?_) | (with_reducible refine z_test ?_) | (with_reducible refine z_tB ?_)
    | (with_reducible refine z_bl ?_) | (with_reducible refine z_and ?_) | (with_reducible refine z_or ?_) | (with_reducible refine z_not ?_)
    | (with_reducible refine z_andV ?_) | (with_reducible refine z_orV ?_) | (with_reducible refine z_notV ?_) | (with_reducible refine z_if ?_)
    | (with_reducible refine z_cb ?_) | (with_reducible refine z_part ?_) | (with_reducible refine z_noPart ?_) | (with_reducible refine z_int ?_)
    | (with_reducible refine z_sl ?_) | (with_reducible refine z_fld ?_) | (with_reducible refine z_tup ?_) | (with_reducible refine z_lst ?_)
    | (with_reducible refine z_bm ?_) | (with_reducible refine z_bm0 ?_) | (with_reducible refine z_fldS ?_) | (with_reducible refine z_rU ?_)
    | (with_reducible refine v_intI ?_) | (with_reducible refine v_intB ?_) | (with_reducible refine v_abs ?_) | (with_reducible refine v_isN ?_)
    | (with_reducible refine v_notN ?_) | (with_reducible refine v_cnt ?_) | (with_reducible refine z_make ?_) | (with_reducible refine z_tru ?_)
    | (with_reducible refine z_m1 ?_) | (with_reducible refine z_strI ?_) | (with_reducible refine z_zS ?_) | (with_reducible refine z_eS ?_)
    | (with_reducible refine v_isII ?_) | (with_reducible refine v_isIB ?_) | (with_reducible refine v_isBI ?_) | (with_reducible refine v_isBB ?_)
    | (with_reducible refine v_isNI ?_) | (with_reducible refine v_isIT ?_) | (with_reducible refine v_isST ?_) | (with_reducible refine v_isSS ?_)
    | (with_reducible refine v_isIS ?_) | (with_reducible refine z_sub ?_) | (with_reducible refine z_gcons ?_) | (with_reducible refine z_gnil ?_)
    | (with_reducible refine z_par ?_) | (with_reducible refine v_par ?_) | (with_reducible refine z_par3 ?_) | (with_reducible refine v_par3 ?_)
    | (with_reducible refine v_ipI ?_) | (with_reducible refine z_for ?_) | (with_reducible refine z_lc ?_) | (with_reducible refine z_yes ?_)
    | (with_reducible refine z_rng1 ?_) | (with_reducible refine z_rng2 ?_) | (with_reducible refine z_list ?_) | (with_reducible refine z_tupi ?_)
    | (with_reducible refine z_stri ?_) | (with_reducible refine v_istr ?_) | (with_reducible refine iteT ?_) | (with_reducible refine iteF ?_)
    | (with_reducible refine z_nT ?_) | (with_reducible refine z_nF ?_) | (with_reducible refine z_cont ?_) | (with_reducible refine z_brk ?_)
    | (with_reducible refine z_retN ?_) | (walk_at "zn"))
  | `(tactic| walk_at "zn") => `(tactic| first
    | ((with_reducible refine' v_ixL ?k1 ?k2 ?_); (case k1 => walk_at "sq"); (case k2 => rfl)) | ((with_reducible refine' v_ixT ?k1 ?k2 ?_); (case k1 => walk_at "st"); (case k2 => rfl)) | ((with_reducible refine' v_lenL ?k1 ?_); (case k1 => walk_at "sq")) | ((with_reducible refine' v_lenT ?k1 ?_); (case k1 => walk_at "st"))
    | ((with_reducible refine' v_slS ?k1 ?_); (case k1 => (rw [enc_len]; exact small (by omega)))) | ((with_reducible refine' v_lenS ?k1 ?_); (case k1 => (rw [enc_len]; exact small (by omega)))) | ((with_reducible refine' v_slL ?k1 ?_); (case k1 => walk_at "sq")) | ((with_reducible refine' z_tyL ?k1 ?_); (case k1 => walk_at "at"))
    | ((with_reducible refine' v_fld ?k1 ?k2 ?k3 ?k4 ?_); (case k1 => walk_at "at"); (case k2 => assumption); (case k3 => assumption); (case k4 => first | assumption | rfl)) | ((with_reducible refine' v_truL ?k1 ?_); (case k1 => walk_at "at")) | ((with_reducible refine' z_wipe ?k1 ?_); (case k1 => rfl)) | ((with_reducible refine' v_gtup ?k1 ?k2 ?_); (case k1 => walk_at "st"); (case k2 => rfl))
    | ((with_reducible refine' z_aug ?k1 ?_); (case k1 => rfl)) | ((with_reducible refine' v_ilist ?k1 ?_); (case k1 => walk_at "sq")) | ((with_reducible refine' v_itup ?k1 ?_); (case k1 => walk_at "st")) | ((with_reducible refine' z_rI ?k1 ?_); (case k1 => first | (show (_ : Int) ≠ _; omega) | exact .inl ⟨by decide, by decide⟩ | exact .inr ⟨by decide, by decide⟩ | exact ⟨by decide, by decide⟩ | exact .inl ⟨by omega, by omega⟩ | exact .inr ⟨by omega, by omega⟩))
    | ((with_reducible refine' z_var ?hv ?_); (case hv => rfl)))
  | `(tactic| walk_at "at") => `(tactic| first
    | assumption
    | ((with_reducible refine' same_at ?k1 ?k2); (case k1 => assumption); (case k2 => walk_at "at"))
    | ((with_reducible refine' but_at ?k1 ?k2 ?k3); (case k1 => assumption); (case k2 => first | assumption | (apply Ne.symm; assumption)); (case k3 => walk_at "at")))
  | `(tactic| walk_at "sq") => `(tactic| first
    | assumption
    | (refine' SqL.of ?k1; (case k1 => walk_at "at"))
    | ((with_reducible refine' Same.seq ?k1 ?k2); (case k1 => assumption); (case k2 => walk_at "sq")))
  | `(tactic| walk_at "st") => `(tactic| first
    | assumption
    | (refine' SqT.of ?k1; (case k1 => walk_at "at"))
    | ((with_reducible refine' same_tup ?k1 ?k2); (case k1 => assumption); (case k2 => walk_at "st")))
  | `(tactic| walk_at "sa") => `(tactic| first
    | assumption
    | exact Same.refl _
    | (refine' Same.trans ?k1 ?k2; (case k2 => assumption); (case k1 => walk_at "sa")))
/-! slopes_alike; Print.alone. -/
open ClX (tCMeth)
section
variable {P : Program} {w : World} {K : PySem.W.Frag} {mg : Str → Option Value} {base : Heap}
theorem ok_slopes_alike (D : DefAt K mg "slopes_alike" ["one", "other", "printed"] s_slopes_alike) (T : Tx K mg) (G_check_cards : Glo P w K mg base (L2.CX P w) 3 "check_cards" ["one", "other"] (spChkCards K)) (G_check_print : Glo P w K mg base (L2.CX P w) 3 "check_print" ["card", "printed"] (spChkPrint K))
    (G_front_view : Glo P w K mg base (L2.CX P w) 5 "front_view" ["card", "printed"] (spViewC true K)) (G_top_view : Glo P w K mg base (L2.CX P w) 5 "top_view" ["card", "printed"] (spViewC false K)) (G_alike_between : Glo P w K mg base CX0 2 "alike_between" ["one", "other", "printed"] (spBetween K)) :
    Glo P w K mg base (L2.CX P w) 6 "slopes_alike" ["one", "other", "printed"] (spAll K) := by
  refine D.okX 5 sc_slopes_alike (fun vs H Q E h => ?_) (fun f cdv A outer s H vs Q E hr h => ?_)
  · obtain ⟨a, b, c, ws, us, rs, L, n, L', n', L'', n'', rfl, _⟩ := h
    rfl
  · obtain ⟨a, b, c, ws, us, rs, L, n, L', n', L'', n'', rfl, Ca, Cb, Pc, W, U, R, h⟩ := h
    have tk := takes_of (X := cxOf (L2.CX P w) P w K mg base N_slopes_alike "slopes_alike" (defScope s_slopes_alike) f cdv A outer s H E) (E := E) rfl rfl rfl rfl
    have po := passes_of (X := cxOf (L2.CX P w) P w K mg base N_slopes_alike "slopes_alike" (defScope s_slopes_alike) f cdv A outer s H E) rfl
    refine ⟨_, (pss_cons (ps_expr (pe_g G_check_cards (hr.mono (by decide)) rfl (passes_call tk fun _ _ _ _ z => z) (pa_cons (pv 0) (pa_cons (pv 1) pa_nil))))
      (pss_cons (ps_expr (pe_g G_check_print (hr.mono (by decide)) rfl (passes_call tk fun _ _ _ _ z => z) (pa_cons (pv 0) (pa_cons (pv 2) pa_nil))))
      (pss_cons (ps_set (i := 3) sc_slopes_alike.nd rfl (Or.inl rfl) (pe_lst pa_nil))
      (pss_cons (ps_if (pt_cmpR (op_eqD (hu64 hr)) (pe_g G_front_view (hr.mono (by decide)) rfl (passes_call tk fun _ _ _ _ z => z) (pa_cons (pv 0) (pa_cons (pv 2) pa_nil))) (pe_g G_front_view (hr.mono (by decide)) rfl (passes_call tk fun _ _ _ _ z => z) (pa_cons (pv 1) (pa_cons (pv 2) pa_nil))) (nomark _)) (pss_one (ps_expr (pe_bm PySem.F.plainAttrs_list PySem.F.slot_list_append PySem.F.type_list_append mt_append (pv 3) (pa_cons pe_str pa_nil)))) pss_nil)
      (pss_cons (ps_if (pt_cmpR (op_eqD (hu64 hr)) (pe_g G_top_view (hr.mono (by decide)) rfl (passes_call tk fun _ _ _ _ z => z) (pa_cons (pv 0) (pa_cons (pv 2) pa_nil))) (pe_g G_top_view (hr.mono (by decide)) rfl (passes_call tk fun _ _ _ _ z => z) (pa_cons (pv 1) (pa_cons (pv 2) pa_nil))) (nomark _)) (pss_one (ps_expr (pe_bm PySem.F.plainAttrs_list PySem.F.slot_list_append PySem.F.type_list_append mt_append (pv 3) (pa_cons pe_str pa_nil)))) pss_nil)
      (pss_cons (ps_expr (pe_bm PySem.F.plainAttrs_list PySem.F.slot_list_append PySem.F.type_list_append mt_append (pv 3) (pa_cons pe_str pa_nil)))
      (pss_cons (ps_if (pt_val (pe_g G_alike_between (hr.mono (by decide)) rfl pass0 (pa_cons (pv 0) (pa_cons (pv 1) (pa_cons (pv 2) pa_nil))))) (pss_one (ps_expr (pe_bm PySem.F.plainAttrs_list PySem.F.slot_list_append PySem.F.type_list_append mt_append (pv 3) (pa_cons pe_str pa_nil)))) pss_nil)
      (pss_one (ps_ret (pe_callTy (tupK (K := K) rfl) (by rfl) T.n_tuple (by decide +kernel) (pa_cons (pv 3) pa_nil))))))))))), ?_⟩
    walk_at "zz"
    rcases h with ⟨ne, e⟩ | ⟨rfl, rfl, ne, e⟩ | ⟨rfl, rfl, rfl, rfl, k⟩
    · exact ⟨a, b, ws, us, L, n, L', n', rfl, Ca, Cb, .inr ⟨ne, e⟩⟩
    · refine ⟨a, b, ws, us, L', n', L', n', rfl, Ca, Cb, .inl ⟨rfl, rfl, ?_⟩⟩
      walk_at "zz"
      exact ⟨a, c, ws, rs, L', n', L'', n'', rfl, Ca, Pc, .inr ⟨ne, e⟩⟩
    · refine ⟨a, b, ws, us, L'', n'', L'', n'', rfl, Ca, Cb, .inl ⟨rfl, rfl, ?_⟩⟩
      walk_at "zz"
      refine ⟨a, c, ws, rs, L'', n'', L'', n'', rfl, Ca, Pc, .inl ⟨rfl, rfl, ?_⟩⟩
      walk_at "zz"
      refine v_lst fun M H1 nM s1 e1 => ?_
      walk_at "zz"
      refine ⟨a, c, ws, rs, L'', n'', rfl, Ca.same s1, Pc.same s1, W, R, fun v1 ys1 H2 n2 s2 e2 T2 => ?_⟩
      walk_at "zz"
      refine ⟨b, c, us, rs, L'', n'', rfl, (Cb.same s1).same s2, (Pc.same s1).same s2, U, R, fun v2 ys2 H3 n3 s3 e3 T3 => ?_⟩
      have S3 := s1.trans (s2.trans s3)
      have e13 := s3 _ _ (s2 _ _ e1)
      refine v_eqII (s3 _ _ e2) (T2.same s3) e3 T3 ?_
      walk_at "zz"
      generalize hfr : decide (keeps true ws rs = keeps true us rs) = fr at k ⊢
      cases fr with
      | true =>
        walk_at "zz"
        refine v_app e13 (by simp) fun H4 b4 e4' => ?_
        have S4 : Same H H4 := same_but S3 nM b4
        obtain ⟨z1, hz1, e4⟩ : ∃ z1 : List Str, z1 = (if true = true then [("front" : Str)] else []) ∧ H4 M = some (.lst (z1.map .str)) := ⟨_, rfl, by rw [e4']; simp⟩
        walk_at "zz"
        refine ⟨a, c, ws, rs, L'', n'', rfl, Ca.same S4, Pc.same S4, W, R, fun v3 ys3 H5 n5 s5 e5 T5 => ?_⟩
        walk_at "zz"
        refine ⟨b, c, us, rs, L'', n'', rfl, (Cb.same S4).same s5, (Pc.same S4).same s5, U, R, fun v4 ys4 H6 n6 s6 e6 T6 => ?_⟩
        have S6 := S4.trans (s5.trans s6)
        have e46 := s6 _ _ (s5 _ _ e4)
        refine v_eqII (s6 _ _ e5) (T5.same s6) e6 T6 ?_
        walk_at "zz"
        generalize htp : decide (keeps false ws rs = keeps false us rs) = tp at k ⊢
        cases tp with
        | true =>
          walk_at "zz"
          refine v_app e46 (by rw [List.length_map, hz1]; decide) fun H7 b7 e7' => ?_
          have S7 : Same H H7 := same_but S6 nM b7
          obtain ⟨z2, hz2, e7⟩ : ∃ z2 : List Str, z2 = z1 ++ (if true = true then [("top" : Str)] else []) ∧ H7 M = some (.lst (z2.map .str)) := ⟨_, rfl, by rw [e7']; simp⟩
          walk_at "zz"
          refine v_app e7 (by rw [List.length_map, hz2, hz1]; decide) fun H8 b8 e8 => ?_
          have S8 : Same H H8 := same_but S7 nM b8
          walk_at "zz"
          refine ⟨a, b, c, ws, us, rs, L'', n'', rfl, Ca.same S8, Cb.same S8, Pc.same S8, W, U, R, fun g H9 s9 hg => ?_⟩
          have e9 := s9 _ _ e8
          have S9 := S8.trans s9
          walk_at "zz"
          cases g with
          | true =>
            walk_at "zz"
            refine v_app e9 (by rw [List.length_append, List.length_map, hz2, hz1]; decide) fun H10 b10 e10 => ?_
            have S10 : Same H H10 := same_but S9 nM b10
            walk_at "zz"
            refine v_tupL (SqL.of e10) fun t H11 n11 s11 e11 => ?_
            refine k true t H11 hg (S10.trans s11) ?_
            rw [e11, hz2, hz1]
            simp [names]
          | false =>
            walk_at "zz"
            refine v_tupL (SqL.of e9) fun t H11 n11 s11 e11 => ?_
            refine k false t H11 hg (S9.trans s11) ?_
            rw [e11, hz2, hz1]
            simp [names]
        | false =>
          walk_at "zz"
          have S7 := S6
          obtain ⟨z2, hz2, e7⟩ : ∃ z2 : List Str, z2 = z1 ++ (if false = true then [("top" : Str)] else []) ∧ H6 M = some (.lst (z2.map .str)) := ⟨_, rfl, by rw [e46]; simp⟩
          walk_at "zz"
          refine v_app e7 (by rw [List.length_map, hz2, hz1]; decide) fun H8 b8 e8 => ?_
          have S8 : Same H H8 := same_but S7 nM b8
          walk_at "zz"
          refine ⟨a, b, c, ws, us, rs, L'', n'', rfl, Ca.same S8, Cb.same S8, Pc.same S8, W, U, R, fun g H9 s9 hg => ?_⟩
          have e9 := s9 _ _ e8
          have S9 := S8.trans s9
          walk_at "zz"
          cases g with
          | true =>
            walk_at "zz"
            refine v_app e9 (by rw [List.length_append, List.length_map, hz2, hz1]; decide) fun H10 b10 e10 => ?_
            have S10 : Same H H10 := same_but S9 nM b10
            walk_at "zz"
            refine v_tupL (SqL.of e10) fun t H11 n11 s11 e11 => ?_
            refine k true t H11 hg (S10.trans s11) ?_
            rw [e11, hz2, hz1]
            simp [names]
          | false =>
            walk_at "zz"
            refine v_tupL (SqL.of e9) fun t H11 n11 s11 e11 => ?_
            refine k false t H11 hg (S9.trans s11) ?_
            rw [e11, hz2, hz1]
            simp [names]
      | false =>
        walk_at "zz"
        have S4 := S3
        obtain ⟨z1, hz1, e4⟩ : ∃ z1 : List Str, z1 = (if false = true then [("front" : Str)] else []) ∧ H3 M = some (.lst (z1.map .str)) := ⟨_, rfl, by rw [e13]; simp⟩
        walk_at "zz"
        refine ⟨a, c, ws, rs, L'', n'', rfl, Ca.same S4, Pc.same S4, W, R, fun v3 ys3 H5 n5 s5 e5 T5 => ?_⟩
        walk_at "zz"
        refine ⟨b, c, us, rs, L'', n'', rfl, (Cb.same S4).same s5, (Pc.same S4).same s5, U, R, fun v4 ys4 H6 n6 s6 e6 T6 => ?_⟩
        have S6 := S4.trans (s5.trans s6)
        have e46 := s6 _ _ (s5 _ _ e4)
        refine v_eqII (s6 _ _ e5) (T5.same s6) e6 T6 ?_
        walk_at "zz"
        generalize htp : decide (keeps false ws rs = keeps false us rs) = tp at k ⊢
        cases tp with
        | true =>
          walk_at "zz"
          refine v_app e46 (by rw [List.length_map, hz1]; decide) fun H7 b7 e7' => ?_
          have S7 : Same H H7 := same_but S6 nM b7
          obtain ⟨z2, hz2, e7⟩ : ∃ z2 : List Str, z2 = z1 ++ (if true = true then [("top" : Str)] else []) ∧ H7 M = some (.lst (z2.map .str)) := ⟨_, rfl, by rw [e7']; simp⟩
          walk_at "zz"
          refine v_app e7 (by rw [List.length_map, hz2, hz1]; decide) fun H8 b8 e8 => ?_
          have S8 : Same H H8 := same_but S7 nM b8
          walk_at "zz"
          refine ⟨a, b, c, ws, us, rs, L'', n'', rfl, Ca.same S8, Cb.same S8, Pc.same S8, W, U, R, fun g H9 s9 hg => ?_⟩
          have e9 := s9 _ _ e8
          have S9 := S8.trans s9
          walk_at "zz"
          cases g with
          | true =>
            walk_at "zz"
            refine v_app e9 (by rw [List.length_append, List.length_map, hz2, hz1]; decide) fun H10 b10 e10 => ?_
            have S10 : Same H H10 := same_but S9 nM b10
            walk_at "zz"
            refine v_tupL (SqL.of e10) fun t H11 n11 s11 e11 => ?_
            refine k true t H11 hg (S10.trans s11) ?_
            rw [e11, hz2, hz1]
            simp [names]
          | false =>
            walk_at "zz"
            refine v_tupL (SqL.of e9) fun t H11 n11 s11 e11 => ?_
            refine k false t H11 hg (S9.trans s11) ?_
            rw [e11, hz2, hz1]
            simp [names]
        | false =>
          walk_at "zz"
          have S7 := S6
          obtain ⟨z2, hz2, e7⟩ : ∃ z2 : List Str, z2 = z1 ++ (if false = true then [("top" : Str)] else []) ∧ H6 M = some (.lst (z2.map .str)) := ⟨_, rfl, by rw [e46]; simp⟩
          walk_at "zz"
          refine v_app e7 (by rw [List.length_map, hz2, hz1]; decide) fun H8 b8 e8 => ?_
          have S8 : Same H H8 := same_but S7 nM b8
          walk_at "zz"
          refine ⟨a, b, c, ws, us, rs, L'', n'', rfl, Ca.same S8, Cb.same S8, Pc.same S8, W, U, R, fun g H9 s9 hg => ?_⟩
          have e9 := s9 _ _ e8
          have S9 := S8.trans s9
          walk_at "zz"
          cases g with
          | true =>
            walk_at "zz"
            refine v_app e9 (by rw [List.length_append, List.length_map, hz2, hz1]; decide) fun H10 b10 e10 => ?_
            have S10 : Same H H10 := same_but S9 nM b10
            walk_at "zz"
            refine v_tupL (SqL.of e10) fun t H11 n11 s11 e11 => ?_
            refine k true t H11 hg (S10.trans s11) ?_
            rw [e11, hz2, hz1]
            simp [names]
          | false =>
            walk_at "zz"
            refine v_tupL (SqL.of e9) fun t H11 n11 s11 e11 => ?_
            refine k false t H11 hg (S9.trans s11) ?_
            rw [e11, hz2, hz1]
            simp [names]
end
end Sk
namespace Sk
open PySem PySem.Spec PyProof.Rows L2
/-! step words: z one step, zz as far as it goes, at: what stands at an address -/
local macro_rules
  | `(tactic| walk_at "zz") => `(tactic| repeat first
    | (with_reducible refine z_seq ?_) | (with_reducible refine z_asg ?_) | (with_reducible refine z_gname ?_) | (with_reducible refine z_var (by with_unfolding_all rfl) ?_)
    | (with_reducible refine z_c ?_) | (with_reducible refine z_op ?_) | (with_reducible refine z_cons ?_) | (with_reducible refine z_nil ?_)
    | (with_reducible refine z_next ?_) | (with_reducible refine z_call ?_) | (with_reducible refine z_drop ?_) | (with_reducible refine z_ret ?_)
    | (with_reducible refine z_ifs ?_) | (with_reducible refine z_un ?_) | (with_reducible refine z_chain ?_) | (with_reducible refine z_rI0 ?_)
    | (with_reducible refine z_eqI ?_) | (with_reducible refine z_neI ?_) | (with_reducible refine z_eqS ?_) | (with_reducible refine z_neS ?_)
    | (with_reducible refine z_eqB ?_) | (with_reducible refine z_neB ?_) | (with_reducible refine z_test ?_) | (with_reducible refine z_tB ?_)
    | (with_reducible refine z_bl ?_) | (with_reducible refine z_and ?_) | (with_reducible refine z_or ?_) | (with_reducible refine z_not ?_)
    | (with_reducible refine z_andV ?_) | (with_reducible refine z_orV ?_) | (with_reducible refine z_notV ?_) | (with_reducible refine z_if ?_)
    | (with_reducible refine z_cb ?_) | (with_reducible refine z_part ?_) | (with_reducible refine z_noPart ?_) | (with_reducible refine z_int ?_)
    | (with_reducible refine z_sl ?_) | (with_reducible refine z_fld ?_) | (with_reducible refine z_tup ?_) | (with_reducible refine z_lst ?_)
    | (with_reducible refine z_bm ?_) | (with_reducible refine z_bm0 ?_) | (with_reducible refine z_fldS ?_) | (with_reducible refine z_rU ?_)
    | (with_reducible refine v_intI ?_) | (with_reducible refine v_intB ?_) | (with_reducible refine v_abs ?_) | (with_reducible refine v_isN ?_)
    | (with_reducible refine v_notN ?_) | (with_reducible refine v_cnt ?_) | (with_reducible refine z_make ?_) | (with_reducible refine z_tru ?_)
    | (with_reducible refine z_m1 ?_) | (with_reducible refine z_strI ?_) | (with_reducible refine z_zS ?_) | (with_reducible refine z_eS ?_)
    | (with_reducible refine v_isII ?_) | (with_reducible refine v_isIB ?_) | (with_reducible refine v_isBI ?_) | (with_reducible refine v_isBB ?_)
    | (with_reducible refine v_isNI ?_) | (with_reducible refine v_isIT ?_) | (with_reducible refine v_isST ?_) | (with_reducible refine v_isSS ?_)
    | (with_reducible refine v_isIS ?_) | (with_reducible refine z_sub ?_) | (with_reducible refine z_gcons ?_) | (with_reducible refine z_gnil ?_)
    | (with_reducible refine z_par ?_) | (with_reducible refine v_par ?_) | (with_reducible refine z_par3 ?_) | (with_reducible refine v_par3 ?_)
    | (with_reducible refine v_ipI ?_) | (with_reducible refine z_for ?_) | (with_reducible refine z_lc ?_) | (with_reducible refine z_yes ?_)
    | (with_reducible refine z_rng1 ?_) | (with_reducible refine z_rng2 ?_) | (with_reducible refine z_list ?_) | (with_reducible refine z_tupi ?_)
    | (with_reducible refine z_stri ?_) | (with_reducible refine v_istr ?_) | (with_reducible refine iteT ?_) | (with_reducible refine iteF ?_)
    | (with_reducible refine z_nT ?_) | (with_reducible refine z_nF ?_) | (with_reducible refine z_cont ?_) | (with_reducible refine z_brk ?_)
    | (with_reducible refine z_retN ?_) | (walk_at "zn"))
  | `(tactic| walk_at "zn") => `(tactic| first
    | ((with_reducible refine' v_ixL ?k1 ?k2 ?_); (case k1 => walk_at "sq"); (case k2 => rfl)) | ((with_reducible refine' v_ixT ?k1 ?k2 ?_); (case k1 => walk_at "st"); (case k2 => rfl)) | ((with_reducible refine' v_lenL ?k1 ?_); (case k1 => walk_at "sq")) | ((with_reducible refine' v_lenT ?k1 ?_); (case k1 => walk_at "st"))
    | ((with_reducible refine' v_slS ?k1 ?_); (case k1 => (rw [enc_len]; exact small (by omega)))) | ((with_reducible refine' v_lenS ?k1 ?_); (case k1 => (rw [enc_len]; exact small (by omega)))) | ((with_reducible refine' v_slL ?k1 ?_); (case k1 => walk_at "sq")) | ((with_reducible refine' z_tyL ?k1 ?_); (case k1 => walk_at "at"))
    | ((with_reducible refine' v_fld ?k1 ?k2 ?k3 ?k4 ?_); (case k1 => walk_at "at"); (case k2 => assumption); (case k3 => assumption); (case k4 => first | assumption | rfl)) | ((with_reducible refine' v_truL ?k1 ?_); (case k1 => walk_at "at")) | ((with_reducible refine' z_wipe ?k1 ?_); (case k1 => rfl)) | ((with_reducible refine' v_gtup ?k1 ?k2 ?_); (case k1 => walk_at "st"); (case k2 => rfl))
    | ((with_reducible refine' z_aug ?k1 ?_); (case k1 => rfl)) | ((with_reducible refine' v_ilist ?k1 ?_); (case k1 => walk_at "sq")) | ((with_reducible refine' v_itup ?k1 ?_); (case k1 => walk_at "st")) | ((with_reducible refine' z_rI ?k1 ?_); (case k1 => first | (show (_ : Int) ≠ _; omega) | exact .inl ⟨by decide, by decide⟩ | exact .inr ⟨by decide, by decide⟩ | exact ⟨by decide, by decide⟩ | exact .inl ⟨by omega, by omega⟩ | exact .inr ⟨by omega, by omega⟩))
    | ((with_reducible refine' z_var ?hv ?_); (case hv => rfl)))
  | `(tactic| walk_at "at") => `(tactic| first
    | assumption
    | ((with_reducible refine' same_at ?k1 ?k2); (case k1 => assumption); (case k2 => walk_at "at"))
    | ((with_reducible refine' but_at ?k1 ?k2 ?k3); (case k1 => assumption); (case k2 => first | assumption | (apply Ne.symm; assumption)); (case k3 => walk_at "at")))
  | `(tactic| walk_at "sq") => `(tactic| first
    | assumption
    | (refine' SqL.of ?k1; (case k1 => walk_at "at"))
    | ((with_reducible refine' Same.seq ?k1 ?k2); (case k1 => assumption); (case k2 => walk_at "sq")))
  | `(tactic| walk_at "st") => `(tactic| first
    | assumption
    | (refine' SqT.of ?k1; (case k1 => walk_at "at"))
    | ((with_reducible refine' same_tup ?k1 ?k2); (case k1 => assumption); (case k2 => walk_at "st")))
  | `(tactic| walk_at "sa") => `(tactic| first
    | assumption
    | exact Same.refl _
    | (refine' Same.trans ?k1 ?k2; (case k2 => assumption); (case k1 => walk_at "sa")))
/-! _law_refused. -/
open ClX (tCMeth)
abbrev s__law_refused : Stmt := top 71
abbrev N__law_refused : List Str := ["_law_how", "_law_one", "_law_other", "_law_printed", "_law_p", "_law_q", "e"]
theorem sc__law_refused : FnScope N__law_refused ["_law_how", "_law_one", "_law_other", "_law_printed", "_law_p", "_law_q"] (defScope s__law_refused) := ⟨rfl, rfl, rfl, by decide +kernel, rfl, by decide +kernel, by decide +kernel⟩
structure XFacts (K : PySem.W.Frag) : Prop where
  bv : XfC K (He.ga K "BadView")
  bs : XfC K (He.ga K "BadSlope")
  bv_what : PySem.W.findIn K (.ref (He.ga K "BadView")) "what" = some none
  bs_what : PySem.W.findIn K (.ref (He.ga K "BadSlope")) "what" = some none
  cv : ExcC K (He.ga K "BadView")
  cs : ExcC K (He.ga K "BadSlope")
  kvs : PySem.W.kitOne K (.ref (He.ga K "BadView")) (.ref (He.ga K "BadSlope")) = some false
  ksv : PySem.W.kitOne K (.ref (He.ga K "BadSlope")) (.ref (He.ga K "BadView")) = some false
  ev : PySem.W.exmOne K (.ref (He.ga K "BadView")) (.ref (He.ga K "CardError")) = some true
  es : PySem.W.exmOne K (.ref (He.ga K "BadSlope")) (.ref (He.ga K "CardError")) = some true
section
variable {X : Cx} {K : PySem.W.Frag}
theorem pe_gS {k : Nat} {ps : List Str} {sp : Sp} {W : WX} {x : Str} {p pos : Pos} {e : Expr} {es : List Expr} {t : TA} (G : Glo X.prog X.w X.K X.mg X.base (L2.CX X.prog X.w) k x ps sp) (hr : Room k X.A) (hg : Gl X x) (tk : Takes X W)
    (ha : PA X (e :: es) t) (hdb : (x == ("__debug__" : Str)) = false := by decide) (he : starEach (e :: es) X.env = (false, eval e X.env) :: starEach es X.env := by rfl) (hpl : (backTo pos (starEach es X.env)).any (·.1) = false := by rfl) :
    PE X (.Call (.Name x p) (e :: es) [] pos) (tCallS sp (WE W) t) := by
  obtain ⟨f, fd, F, m, kp, b⟩ := G.ex
  exact pe_callS F hr hg m kp b (fun σ => passAt tk σ) ha hdb he hpl
theorem call_isXK {a : Addr} {oe : Obj} {cls : Value} {d : Option Addr} {pn : List (Addr × Obj)} (eK : X.K = K) (hz : Zc cls d oe) (hf : ∃ vs, oe.data = .fields vs) : CallR (X.suite a ((a, oe) :: pn)) (.builtin "isinstance") (rIsX K a cls d) := eK ▸ call_isX hz hf
theorem xfK {a C : Addr} {oe : Obj} {cls : Value} {d : Option Addr} {pn : List (Addr × Obj)} {e : Expr} {te : TE} {pos : Pos} {n : Str} (eK : X.K = K) (T : XfC K C) (hno : PySem.W.findIn K (.ref C) n = some none)
    (hz : Zc cls d oe) (hf : ∃ vs, oe.data = .fields vs) (he : PE (X.suite a ((a, oe) :: pn)) e te) (hb : attributeBase e n X.env (eval e X.env) = eval e X.env := by rfl) : PE (X.suite a ((a, oe) :: pn)) (.Attribute e n pos) (tXf a cls d C n te) := by
  subst eK
  exact pe_xf T hno hz hf he hb
end
section
variable {σ : L2.St} {H : Hp} {Q : VK} {D : Ends}
theorem z_callS {sp : Sp} {E : L2.St → XK} {ts : TA} (h : ts σ H fun vs H1 => sp vs H1 Q (E σ)) : tCallS sp E ts σ H Q := h
def nXf (a : Addr) (cls : Value) (d : Option Addr) (C : Addr) (f : Str) (x : V) (H1 : Hp) (Q : VK) : Prop := x = .ref a ∧ cls = .ref C ∧ ∃ (dd : Addr) (fs : List (Str × V)) (v : V), d = some dd ∧ H1 dd = some (.xd fs) ∧ fs.lookup f = some v ∧ Q v H1
theorem z_xf {a C : Addr} {cls : Value} {d : Option Addr} {f : Str} {te : TE} (h : te σ H fun x H1 => nXf a cls d C f x H1 Q) : tXf a cls d C f te σ H Q := h
theorem v_xf {a C dd : Addr} {f : Str} {fs : List (Str × V)} {v : V} (h1 : H dd = some (.xd fs)) (h2 : fs.lookup f = some v) (h : Q v H) : nXf a (.ref C) (some dd) C f (.ref a) H Q := ⟨rfl, rfl, dd, fs, v, rfl, h1, h2, h⟩
theorem v_isX {K : PySem.W.Frag} {a D dd : Addr} {fs : List (Str × V)} {C : Addr} (b : Bool) (h1 : H dd = some (.xd fs)) (E : ExcC K D) (k : PySem.W.kitOne K (.ref D) (.ref C) = some b) (h : Q (.bl b) H) : rIsX K a (.ref D) (some dd) [.ref a, .ref C] H Q :=
  ⟨D, dd, fs, .ref C, .ref C, b, rfl, rfl, h1, E, rfl, fun u e => e, k, h⟩
end
def rV (z : Str) : Option (List Str) := some [("view" : Str), z]
def rS (o : Option Str) : Option (List Str) := match o with
  | none => none
  | some z => some [("slope" : Str), z]
def spRefused (K : PySem.W.Frag) : Sp := fun vs H Q _ => ∃ (how : Str) (a b : Addr) (z x y : V) (ws us : Ws) (L n L' n' : Nat) (r : Option (List Str)), vs = [.str how, .ref a, .ref b, z, x, y] ∧ CardAt K H a ws L n ∧ CardAt K H b us L' n' ∧ WsOk L n ws ∧ WsOk L' n' us ∧
  ((how = "from" ∧ ((¬ (L' = L ∧ n' = n) ∧ r = rV "cards") ∨ (L' = L ∧ n' = n ∧ ∃ o, Slope x y o ∧ r = rS o))) ∨
    (∃ (c : Addr) (rs : Rs) (L'' n'' : Nat), z = .ref c ∧ PrintAt K H c rs L'' n'' ∧ RsOk L'' n'' rs ∧
      ((how = "by" ∧ ((¬ (L' = L ∧ n' = n) ∧ r = rV "cards") ∨ (L' = L ∧ n' = n ∧ ¬ (L'' = L ∧ n'' = n) ∧ r = rV "print") ∨ (L' = L ∧ n' = n ∧ L'' = L ∧ n'' = n ∧ ∃ o, Slope x y o ∧ r = rS o))) ∨
      (how = "all" ∧ ((¬ (L' = L ∧ n' = n) ∧ r = rV "cards") ∨ (L' = L ∧ n' = n ∧ ¬ (L'' = L ∧ n'' = n) ∧ r = rV "print") ∨ (L' = L ∧ n' = n ∧ L'' = L ∧ n'' = n ∧ r = none)))))) ∧
  ∀ v H', Same H H' → OptS H' v r → Q v H'
section
variable {P : Program} {w : World} {K : PySem.W.Frag} {mg : Str → Option Value} {base : Heap}
theorem ok__law_refused (D : DefAt K mg "_law_refused" ["_law_how", "_law_one", "_law_other", "_law_printed", "_law_p", "_law_q"] s__law_refused) (T : Tx K mg) (XF : XFacts K) (G_alike_from : Glo P w K mg base (L2.CX P w) 4 "alike_from" ["one", "other", "p", "q"] (spFrom K))
    (G_alike_by : Glo P w K mg base (L2.CX P w) 5 "alike_by" ["one", "other", "printed", "p", "q"] (spBy K)) (G_slopes_alike : Glo P w K mg base (L2.CX P w) 6 "slopes_alike" ["one", "other", "printed"] (spAll K)) :
    Glo P w K mg base CX0 7 "_law_refused" ["_law_how", "_law_one", "_law_other", "_law_printed", "_law_p", "_law_q"] (spRefused K) := by
  refine D.ok 6 sc__law_refused (fun vs H Q E h => ?_) (fun f cdv A outer s H vs Q E hr h => ?_)
  · obtain ⟨how, a, b, z, x, y, ws, us, L, n, L', n', r, rfl, _⟩ := h
    rfl
  · obtain ⟨how, a, b, z, x, y, ws, us, L, n, L', n', r, rfl, Ca, Cb, W, U, h, q⟩ := h
    refine ⟨_, (pss_cons (ps_try_as (i := 6) rfl rfl sc__law_refused.nd rfl rfl ⟨rfl, rfl, .inl T.g_CardError⟩ takes0 (fun W pn xe tk2 po2 =>
(pss_one (ps_if (pt_cmpR op_eq (pv 0) pe_str (nomark _)) (pss_one (ps_expr (pe_gS G_alike_from (hr.mono (by decide)) rfl tk2 (pa_cons (pv 1) (pa_cons (pv 2) (pa_cons (pv 4) (pa_cons (pv 5) pa_nil))))))) (pss_one (ps_if (pt_cmpR op_eq (pv 0) pe_str (nomark _)) (pss_one (ps_expr (pe_gS G_alike_by (hr.mono (by decide)) rfl tk2 (pa_cons (pv 1) (pa_cons (pv 2) (pa_cons (pv 3) (pa_cons (pv 4) (pa_cons (pv 5) pa_nil)))))))) (pss_one (ps_expr (pe_gS G_slopes_alike (hr.mono (by decide)) rfl tk2 (pa_cons (pv 1) (pa_cons (pv 2) (pa_cons (pv 3) pa_nil))))))))))) (fun a oe cls d pn hz hf =>
(pss_cons (ps_if (PW.pt (pw_and (pt_val (pe_callB (call_isXK (K := K) rfl hz hf) (by rfl) T.n_isinstance (by decide +kernel) (pa_cons (pv 6) (pa_cons (pe_glob (v := .ref (He.ga _ "BadView")) rfl T.g_BadView rfl) pa_nil)))) (pw_and1 (pt_not (pt_val (pe_callB (call_isXK (K := K) rfl hz hf) (by rfl) T.n_isinstance (by decide +kernel) (pa_cons (pv 6) (pa_cons (pe_glob (v := .ref (He.ga _ "BadSlope")) rfl T.g_BadSlope rfl) pa_nil)))))))) (pss_one (ps_ret (pe_tup (pa_cons pe_str (pa_cons (xfK (K := K) rfl XF.bv XF.bv_what hz hf (pv 6)) pa_nil))))) pss_nil)
        (pss_cons (ps_if (pt_val (pe_callB (call_isXK (K := K) rfl hz hf) (by rfl) T.n_isinstance (by decide +kernel) (pa_cons (pv 6) (pa_cons (pe_glob (v := .ref (He.ga _ "BadSlope")) rfl T.g_BadSlope rfl) pa_nil)))) (pss_one (ps_ret (pe_tup (pa_cons pe_str (pa_cons (xfK (K := K) rfl XF.bs XF.bs_what hz hf (pv 6)) pa_nil))))) pss_nil)
        (pss_one (ps_ret (pe_tup (pa_cons pe_str (pa_cons pe_str pa_nil)))))))))
      (pss_one (ps_ret pe_non))), ?_⟩
    walk_at "zz"
    rcases h with ⟨rfl, h⟩ | ⟨c, rs, L'', n'', rfl, Pc, R, ⟨rfl, h⟩ | ⟨rfl, h⟩⟩
    · refine v_ifT (by decide +kernel) ?_
      walk_at "zz"
      refine z_callS ?_
      walk_at "zz"
      refine ⟨a, b, x, y, ws, us, L, n, L', n', rfl, Ca, Cb, W, U, ?_⟩
      rcases h with ⟨ne, hre⟩ | ⟨rfl, rfl, o, S, hre⟩
      · refine .inl ⟨ne, ?_⟩
        intro d H1 nd s1 e1
        refine ⟨true, XF.ev, fun _ a1 na => ?_, fun e => by cases e⟩
        walk_at "zz"
        refine v_isX true e1 XF.cv (if_pos (beq_self_eq_true _)) ?_
        walk_at "zz"
        refine v_isX false e1 XF.cv XF.kvs ?_
        walk_at "zz"
        refine z_xf ?_
        walk_at "zz"
        refine v_xf (f := ("what" : Str)) e1 rfl ?_
        walk_at "zz"
        refine v_tup fun p H2 n2 s2 e2 => ?_
        walk_at "zz"
        exact q (.ref p) H2 (s1.trans s2) (by rw [hre]; exact ⟨p, rfl, e2⟩)
      · refine .inr ⟨rfl, rfl, o, S, fun z hz => ?_, fun ho p q' _ _ v H1 s1 _ => ?_⟩
        · subst hz
          intro d H1 nd s1 e1
          refine ⟨true, XF.es, fun _ a1 na => ?_, fun e => by cases e⟩
          walk_at "zz"
          refine v_isX false e1 XF.cs XF.ksv ?_
          walk_at "zz"
          refine v_isX true e1 XF.cs (if_pos (beq_self_eq_true _)) ?_
          walk_at "zz"
          refine z_xf ?_
          walk_at "zz"
          refine v_xf (f := ("what" : Str)) e1 rfl ?_
          walk_at "zz"
          refine v_tup fun p H2 n2 s2 e2 => ?_
          walk_at "zz"
          exact q (.ref p) H2 (s1.trans s2) (by rw [hre]; exact ⟨p, rfl, e2⟩)
        · walk_at "zz"
          subst ho
          exact q .non H1 s1 (by rw [hre]; rfl)
    · refine v_ifF (by decide +kernel) ?_
      walk_at "zz"
      refine v_ifT (by decide +kernel) ?_
      walk_at "zz"
      refine z_callS ?_
      walk_at "zz"
      refine ⟨a, b, c, x, y, ws, us, rs, L, n, L', n', L'', n'', rfl, Ca, Cb, Pc, W, U, R, ?_⟩
      rcases h with ⟨ne, hre⟩ | ⟨rfl, rfl, ne, hre⟩ | ⟨rfl, rfl, rfl, rfl, o, S, hre⟩
      · refine .inl ⟨ne, ?_⟩
        intro d H1 nd s1 e1
        refine ⟨true, XF.ev, fun _ a1 na => ?_, fun e => by cases e⟩
        walk_at "zz"
        refine v_isX true e1 XF.cv (if_pos (beq_self_eq_true _)) ?_
        walk_at "zz"
        refine v_isX false e1 XF.cv XF.kvs ?_
        walk_at "zz"
        refine z_xf ?_
        walk_at "zz"
        refine v_xf (f := ("what" : Str)) e1 rfl ?_
        walk_at "zz"
        refine v_tup fun p H2 n2 s2 e2 => ?_
        walk_at "zz"
        exact q (.ref p) H2 (s1.trans s2) (by rw [hre]; exact ⟨p, rfl, e2⟩)
      · refine .inr (.inl ⟨rfl, rfl, ne, ?_⟩)
        intro d H1 nd s1 e1
        refine ⟨true, XF.ev, fun _ a1 na => ?_, fun e => by cases e⟩
        walk_at "zz"
        refine v_isX true e1 XF.cv (if_pos (beq_self_eq_true _)) ?_
        walk_at "zz"
        refine v_isX false e1 XF.cv XF.kvs ?_
        walk_at "zz"
        refine z_xf ?_
        walk_at "zz"
        refine v_xf (f := ("what" : Str)) e1 rfl ?_
        walk_at "zz"
        refine v_tup fun p H2 n2 s2 e2 => ?_
        walk_at "zz"
        exact q (.ref p) H2 (s1.trans s2) (by rw [hre]; exact ⟨p, rfl, e2⟩)
      · refine .inr (.inr ⟨rfl, rfl, rfl, rfl, o, S, fun z hz => ?_, fun ho p q' _ _ v H1 s1 _ => ?_⟩)
        · subst hz
          intro d H1 nd s1 e1
          refine ⟨true, XF.es, fun _ a1 na => ?_, fun e => by cases e⟩
          walk_at "zz"
          refine v_isX false e1 XF.cs XF.ksv ?_
          walk_at "zz"
          refine v_isX true e1 XF.cs (if_pos (beq_self_eq_true _)) ?_
          walk_at "zz"
          refine z_xf ?_
          walk_at "zz"
          refine v_xf (f := ("what" : Str)) e1 rfl ?_
          walk_at "zz"
          refine v_tup fun p H2 n2 s2 e2 => ?_
          walk_at "zz"
          exact q (.ref p) H2 (s1.trans s2) (by rw [hre]; exact ⟨p, rfl, e2⟩)
        · walk_at "zz"
          subst ho
          exact q .non H1 s1 (by rw [hre]; rfl)
    · refine v_ifF (by decide +kernel) ?_
      walk_at "zz"
      refine v_ifF (by decide +kernel) ?_
      walk_at "zz"
      refine z_callS ?_
      walk_at "zz"
      refine ⟨a, b, c, ws, us, rs, L, n, L', n', L'', n'', rfl, Ca, Cb, Pc, W, U, R, ?_⟩
      rcases h with ⟨ne, hre⟩ | ⟨rfl, rfl, ne, hre⟩ | ⟨rfl, rfl, rfl, rfl, hre⟩
      · refine .inl ⟨ne, ?_⟩
        intro d H1 nd s1 e1
        refine ⟨true, XF.ev, fun _ a1 na => ?_, fun e => by cases e⟩
        walk_at "zz"
        refine v_isX true e1 XF.cv (if_pos (beq_self_eq_true _)) ?_
        walk_at "zz"
        refine v_isX false e1 XF.cv XF.kvs ?_
        walk_at "zz"
        refine z_xf ?_
        walk_at "zz"
        refine v_xf (f := ("what" : Str)) e1 rfl ?_
        walk_at "zz"
        refine v_tup fun p H2 n2 s2 e2 => ?_
        walk_at "zz"
        exact q (.ref p) H2 (s1.trans s2) (by rw [hre]; exact ⟨p, rfl, e2⟩)
      · refine .inr (.inl ⟨rfl, rfl, ne, ?_⟩)
        intro d H1 nd s1 e1
        refine ⟨true, XF.ev, fun _ a1 na => ?_, fun e => by cases e⟩
        walk_at "zz"
        refine v_isX true e1 XF.cv (if_pos (beq_self_eq_true _)) ?_
        walk_at "zz"
        refine v_isX false e1 XF.cv XF.kvs ?_
        walk_at "zz"
        refine z_xf ?_
        walk_at "zz"
        refine v_xf (f := ("what" : Str)) e1 rfl ?_
        walk_at "zz"
        refine v_tup fun p H2 n2 s2 e2 => ?_
        walk_at "zz"
        exact q (.ref p) H2 (s1.trans s2) (by rw [hre]; exact ⟨p, rfl, e2⟩)
      · refine .inr (.inr ⟨rfl, rfl, rfl, rfl, fun g t H1 _ s1 _ => ?_⟩)
        walk_at "zz"
        exact q .non H1 s1 (by rw [hre]; rfl)
end
end Sk
namespace Sk
open PySem PySem.Spec PyProof.Rows L2
/-! step words: z one step, zz as far as it goes, at: what stands at an address -/
local macro_rules
  | `(tactic| walk_at "zz") => `(tactic| repeat first
    | (with_reducible refine z_seq ?_) | (with_reducible refine z_asg ?_) | (with_reducible refine z_gname ?_) | (with_reducible refine z_var (by with_unfolding_all rfl) ?_)
    | (with_reducible refine z_c ?_) | (with_reducible refine z_op ?_) | (with_reducible refine z_cons ?_) | (with_reducible refine z_nil ?_)
    | (with_reducible refine z_next ?_) | (with_reducible refine z_call ?_) | (with_reducible refine z_drop ?_) | (with_reducible refine z_ret ?_)
    | (with_reducible refine z_ifs ?_) | (with_reducible refine z_un ?_) | (with_reducible refine z_chain ?_) | (with_reducible refine z_rI0 ?_)
    | (with_reducible refine z_eqI ?_) | (with_reducible refine z_neI ?_) | (with_reducible refine z_eqS ?_) | (with_reducible refine z_neS ?_)
    | (with_reducible refine z_eqB ?_) | (with_reducible refine z_neB ?_) | (with_reducible refine z_test ?_) | (with_reducible refine z_tB ?_)
    | (with_reducible refine z_bl ?_) | (with_reducible refine z_and ?_) | (with_reducible refine z_or ?_) | (with_reducible refine z_not ?_)
    | (with_reducible refine z_andV ?_) | (with_reducible refine z_orV ?_) | (with_reducible refine z_notV ?_) | (with_reducible refine z_if ?_)
    | (with_reducible refine z_cb ?_) | (with_reducible refine z_part ?_) | (with_reducible refine z_noPart ?_) | (with_reducible refine z_int ?_)
    | (with_reducible refine z_sl ?_) | (with_reducible refine z_fld ?_) | (with_reducible refine z_tup ?_) | (with_reducible refine z_lst ?_)
    | (with_reducible refine z_bm ?_) | (with_reducible refine z_bm0 ?_) | (with_reducible refine z_fldS ?_) | (with_reducible refine z_rU ?_)
    | (with_reducible refine v_intI ?_) | (with_reducible refine v_intB ?_) | (with_reducible refine v_abs ?_) | (with_reducible refine v_isN ?_)
    | (with_reducible refine v_notN ?_) | (with_reducible refine v_cnt ?_) | (with_reducible refine z_make ?_) | (with_reducible refine z_tru ?_)
    | (with_reducible refine z_m1 ?_) | (with_reducible refine z_strI ?_) | (with_reducible refine z_zS ?_) | (with_reducible refine z_eS ?_)
    | (with_reducible refine v_isII ?_) | (with_reducible refine v_isIB ?_) | (with_reducible refine v_isBI ?_) | (with_reducible refine v_isBB ?_)
    | (with_reducible refine v_isNI ?_) | (with_reducible refine v_isIT ?_) | (with_reducible refine v_isST ?_) | (with_reducible refine v_isSS ?_)
    | (with_reducible refine v_isIS ?_) | (with_reducible refine z_sub ?_) | (with_reducible refine z_gcons ?_) | (with_reducible refine z_gnil ?_)
    | (with_reducible refine z_par ?_) | (with_reducible refine v_par ?_) | (with_reducible refine z_par3 ?_) | (with_reducible refine v_par3 ?_)
    | (with_reducible refine v_ipI ?_) | (with_reducible refine z_for ?_) | (with_reducible refine z_lc ?_) | (with_reducible refine z_yes ?_)
    | (with_reducible refine z_rng1 ?_) | (with_reducible refine z_rng2 ?_) | (with_reducible refine z_list ?_) | (with_reducible refine z_tupi ?_)
    | (with_reducible refine z_stri ?_) | (with_reducible refine v_istr ?_) | (with_reducible refine iteT ?_) | (with_reducible refine iteF ?_)
    | (with_reducible refine z_nT ?_) | (with_reducible refine z_nF ?_) | (with_reducible refine z_cont ?_) | (with_reducible refine z_brk ?_)
    | (with_reducible refine z_retN ?_) | (walk_at "zn"))
  | `(tactic| walk_at "zn") => `(tactic| first
    | ((with_reducible refine' v_ixL ?k1 ?k2 ?_); (case k1 => walk_at "sq"); (case k2 => rfl)) | ((with_reducible refine' v_ixT ?k1 ?k2 ?_); (case k1 => walk_at "st"); (case k2 => rfl)) | ((with_reducible refine' v_lenL ?k1 ?_); (case k1 => walk_at "sq")) | ((with_reducible refine' v_lenT ?k1 ?_); (case k1 => walk_at "st"))
    | ((with_reducible refine' v_slS ?k1 ?_); (case k1 => (rw [enc_len]; exact small (by omega)))) | ((with_reducible refine' v_lenS ?k1 ?_); (case k1 => (rw [enc_len]; exact small (by omega)))) | ((with_reducible refine' v_slL ?k1 ?_); (case k1 => walk_at "sq")) | ((with_reducible refine' z_tyL ?k1 ?_); (case k1 => walk_at "at"))
    | ((with_reducible refine' v_fld ?k1 ?k2 ?k3 ?k4 ?_); (case k1 => walk_at "at"); (case k2 => assumption); (case k3 => assumption); (case k4 => first | assumption | rfl)) | ((with_reducible refine' v_truL ?k1 ?_); (case k1 => walk_at "at")) | ((with_reducible refine' z_wipe ?k1 ?_); (case k1 => rfl)) | ((with_reducible refine' v_gtup ?k1 ?k2 ?_); (case k1 => walk_at "st"); (case k2 => rfl))
    | ((with_reducible refine' z_aug ?k1 ?_); (case k1 => rfl)) | ((with_reducible refine' v_ilist ?k1 ?_); (case k1 => walk_at "sq")) | ((with_reducible refine' v_itup ?k1 ?_); (case k1 => walk_at "st")) | ((with_reducible refine' z_rI ?k1 ?_); (case k1 => first | (show (_ : Int) ≠ _; omega) | exact .inl ⟨by decide, by decide⟩ | exact .inr ⟨by decide, by decide⟩ | exact ⟨by decide, by decide⟩ | exact .inl ⟨by omega, by omega⟩ | exact .inr ⟨by omega, by omega⟩))
    | ((with_reducible refine' z_var ?hv ?_); (case hv => rfl)))
  | `(tactic| walk_at "at") => `(tactic| first
    | assumption
    | ((with_reducible refine' same_at ?k1 ?k2); (case k1 => assumption); (case k2 => walk_at "at"))
    | ((with_reducible refine' but_at ?k1 ?k2 ?k3); (case k1 => assumption); (case k2 => first | assumption | (apply Ne.symm; assumption)); (case k3 => walk_at "at")))
  | `(tactic| walk_at "sq") => `(tactic| first
    | assumption
    | (refine' SqL.of ?k1; (case k1 => walk_at "at"))
    | ((with_reducible refine' Same.seq ?k1 ?k2); (case k1 => assumption); (case k2 => walk_at "sq")))
  | `(tactic| walk_at "st") => `(tactic| first
    | assumption
    | (refine' SqT.of ?k1; (case k1 => walk_at "at"))
    | ((with_reducible refine' same_tup ?k1 ?k2); (case k1 => assumption); (case k2 => walk_at "st")))
  | `(tactic| walk_at "sa") => `(tactic| first
    | assumption
    | exact Same.refl _
    | (refine' Same.trans ?k1 ?k2; (case k2 => assumption); (case k1 => walk_at "sa")))
/-! Print.alone, _law_one_print. -/
open ClX (tCMeth)
theorem single_get {n L c t i : Nat} (h : i < n) : (single n L c t)[i]? = some ((List.range (2 * L)).map fun k => if i = c ∧ k = t then 1 else 0) := by
  unfold single
  rw [List.getElem?_map, List.getElem?_range h]
  rfl
theorem single_len {n L c t : Nat} : (single n L c t).length = n := by
  simp [single]
theorem single_ok {n L c t : Nat} (n1 : 1 ≤ n) (n2 : n ≤ 12) (l1 : 1 ≤ L) (l6 : L ≤ 6) : RsOk L n (single n L c t) := ⟨n1, n2, l1, l6, single_len, fun r hr => by
  obtain ⟨i, hi, rfl⟩ := List.mem_map.mp hr
  simp⟩
theorem zeros_set {L t : Nat} (h : t < 2 * L) : ((List.replicate (2 * L) (0 : Int)).map V.int).set t (.int 1) = ((List.range (2 * L)).map fun k => if k = t then (1 : Int) else 0).map V.int := by
  refine List.ext_getElem? fun k => ?_
  by_cases hk : k < 2 * L
  · rw [List.getElem?_set, List.getElem?_map, List.getElem?_map, List.getElem?_map, List.getElem?_range hk, List.getElem?_replicate]
    by_cases e : t = k
    · subst e
      simp [h]
    · simp [e, hk, Ne.symm e]
  · rw [List.getElem?_eq_none (by simp; omega), List.getElem?_eq_none (by simp; omega)]
section
variable {P : Program} {w : World} {K : PySem.W.Frag} {mg : Str → Option Value} {base : Heap}
theorem ok_Print_alone (D : CmAt K "Print" "alone" "Print.alone" ["cls", "size", "width", "column", "step"] s_Print_alone) (T : Tx K mg) (G_check_extent : Glo P w K mg base CX0 2 "check_extent" ["size", "width"] spExt) (G_is_whole : Glo P w K mg base CX0 1 "is_whole" ["thing", "low", "high"] spWhole)
    (M_Print : MkG P w K mg base CX0 3 "Print" (spPrintI K)) : GloC P w K mg base CX0 5 "Print" "alone" (spAlone K) := by
  refine D.ok 4 sc_Print_alone (fun vs H Q E h => ?_) (fun f cdv A outer s H vs Q E hr h => ?_)
  · obtain ⟨L, n, c, t, rfl, _⟩ := h
    rfl
  · obtain ⟨L, n, c, t, rfl, n1, n2, l1, l6, hc, ht, q⟩ := h
    refine ⟨_, (pss_cons (ps_expr (pe_g G_check_extent (hr.mono (by decide)) rfl pass0 (pa_cons (pv 1) (pa_cons (pv 2) pa_nil))))
      (pss_cons (ps_if (PW.pt (pw_or (pt_not (pt_val (pe_g G_is_whole (hr.mono (by decide)) rfl pass0 (pa_cons (pv 3) (pa_cons pe_int (pa_cons (pe_op op_sub (pv 2) pe_int) pa_nil)))))) (pw_or1 (pt_not (pt_val (pe_g G_is_whole (hr.mono (by decide)) rfl pass0 (pa_cons (pv 4) (pa_cons pe_int (pa_cons (pe_op op_sub (pe_op op_mul pe_int (pv 1)) pe_int) pa_nil))))))))) (pss_one ps_never) pss_nil)
      (pss_cons (ps_setLc (i := 5) (own := [("k", 6)]) rfl sc_Print_alone.nd rfl rfl (sw_true rfl rfl rfl (by decide +kernel)) (pi_range1 (by rfl) T.n_range (pa_cons (pv 2) pa_nil)) (blkOk_by (N := N_Print_alone) (sc := defScope s_Print_alone) (by decide +kernel)) (fun _ _ _ _ _ => (pg_name (i := 6) sc_Print_alone.nd rfl (Or.inl rfl))) (fun _ _ _ _ _ => pts_nil) (fun _ _ _ _ _ => (pe_op op_rep (pe_lst (pa_cons pe_int pa_nil)) (pe_op op_mul pe_int (pv 1)))))
      (pss_cons (ps_asg pe_int (pg_sub (pe_ix (ixL (K := K) rfl) (pv 5) (pv 3) (fun _ _ => rfl)) (pv 4) set_list))
      (pss_one (ps_ret (pe_mkL (i := 0) (K := K) rfl M_Print (hr.mono (by decide)) rfl (Or.inl rfl) pass0 (pa_cons (pv 5) pa_nil)))))))), ?_⟩
    walk_at "zz"
    refine ⟨L, n, rfl, n1, n2, l1, l6, ?_⟩
    walk_at "zz"
    refine ⟨_, _, _, rfl, .inl ⟨c, rfl, ?_⟩⟩
    rw [decide_eq_true (show (0 : Int) ≤ c by omega), decide_eq_true (show (c : Int) ≤ (n : Int) - 1 by omega), Bool.and_true]
    walk_at "zz"
    refine ⟨_, _, _, rfl, .inl ⟨t, rfl, ?_⟩⟩
    rw [decide_eq_true (show (0 : Int) ≤ t by omega), decide_eq_true (show (t : Int) ≤ 2 * (L : Int) - 1 by omega), Bool.and_true]
    walk_at "zz"
    refine v_rng1 n rfl (by omega) ?_
    refine v_lcR (fun M i acc H2 => Same H H2 ∧ acc.length = i ∧ ∃ ps : List Addr, acc = ps.map .ref ∧ ps.Nodup ∧ ∀ p ∈ ps, H2 p = some (.lst ((List.replicate (2 * L) (0 : Int)).map V.int)) ∧ H p = none) ?_ ?_ ?_
    · intro M H1 nM s1 e1
      exact ⟨s1, rfl, [], rfl, by simp, fun p hp => by cases hp⟩
    · rintro M i acc H2 hi nM e2 ⟨s2, la, ps, rfl, nd, al⟩
      walk_at "zz"
      refine v_lst fun z1 H3 n3 s3 e3 => ?_
      walk_at "zz"
      refine v_rep e3 (by omega) (by omega) (by simp) fun z2 H4 n4 s4 e4 => ?_
      have e4' : H4 z2 = some (.lst ((List.replicate (2 * L) (0 : Int)).map V.int)) := by
        rw [e4, rep_flat]
        have : (2 * (L : Int)).toNat = 2 * L := by omega
        rw [this]
      have S4 := s3.trans s4
      have e24 := S4 _ _ e2
      have nz2 : ∀ p ∈ ps, p ≠ z2 := fun p hp e => by
        have h1 := s3 _ _ (al p hp).1
        rw [e, n4] at h1
        cases h1
      refine v_acc e24 (by rw [la]; omega) fun H5 b5 e5 => ?_
      have keep : ∀ p, H4 p = some (.lst ((List.replicate (2 * L) (0 : Int)).map V.int)) → p ≠ M → H5 p = some (.lst ((List.replicate (2 * L) (0 : Int)).map V.int)) := fun p h1 h2 => b5 _ _ h2 h1
      have nM2 : z2 ≠ M := fun e => by
        rw [e, s3 _ _ e2] at n4
        cases n4
      refine ⟨same_but (s2.trans S4) nM b5, by simp [la], ps ++ [z2], by simp, ?_, fun p hp => ?_⟩
      · rw [List.nodup_append]
        exact ⟨nd, by simp, fun a ha b hb => by rw [List.mem_singleton.mp hb]; exact nz2 a ha⟩
      · rcases List.mem_append.mp hp with h | h
        · refine ⟨keep p (S4 _ _ (al p h).1) fun e => ?_, (al p h).2⟩
          have h1 := (al p h).2
          have h0 := (al p h).1
          rw [e] at h0
          rw [h0] at e2
          injection e2 with e2
          injection e2 with e2
          have h3 : (V.ref p) ∈ ps.map V.ref := List.mem_map_of_mem h
          rw [← e2] at h3
          obtain ⟨_, _, h4⟩ := List.mem_map.mp h3
          cases h4
        · rw [List.mem_singleton.mp h]
          exact ⟨keep z2 e4' nM2, Same.free (s2.trans s3) n4⟩
    · rintro M acc H2 nM e2 ⟨s2, la, ps, rfl, nd, al⟩
      have lps : ps.length = n := by simpa using la
      have hpc : ps[c]? = some (ps[c]'(by omega)) := List.getElem?_eq_getElem _
      obtain ⟨hal, hfree⟩ := al _ (List.mem_of_getElem? hpc)
      generalize hpc' : ps[c]'(by omega) = pc at *
      have np : pc ≠ M := fun e => by
        rw [e, e2] at hal
        injection hal with h1
        injection h1 with h1
        have h3 : (V.ref pc) ∈ ps.map V.ref := List.mem_map_of_mem (List.mem_of_getElem? hpc)
        rw [h1] at h3
        obtain ⟨_, _, h4⟩ := List.mem_map.mp h3
        cases h4
      walk_at "zz"
      refine v_ixLn (SqL.of e2) (x := .ref pc) (by rw [List.getElem?_map, hpc]; rfl) ?_
      walk_at "zz"
      refine v_setL hal (j := t) ?_ fun H3 b3 e3 => ?_
      · unfold ixN
        rw [if_pos (by omega), List.length_map, List.length_replicate, if_pos (by omega)]
        rfl
      · rw [zeros_set ht] at e3
        have S3 : Same H H3 := same_but s2 hfree b3
        walk_at "zz"
        refine z_makeL rfl ?_
        walk_at "zz"
        refine v_make fun o dx H4 n4 s4 e4 => ?_
        refine ⟨o, dx, M, ps.map .ref, single n L c t, L, n, rfl, e4, s4 _ _ (b3 _ _ np.symm e2), ⟨by rw [la, single_len], fun i x hx => ?_⟩, single_ok n1 n2 l1 l6, fun H5 b5 P5 => ⟨rfl, q o H5 (Same.free S3 n4) (S3.trans (same_but s4 n4 b5)) P5⟩⟩
        rw [List.getElem?_map] at hx
        cases hi : ps[i]? with
        | none =>
          rw [hi] at hx
          cases hx
        | some p =>
          rw [hi] at hx
          cases hx
          have hin : i < n := by
            have := (List.getElem?_eq_some_iff.mp hi).1
            omega
          refine ⟨p, _, rfl, single_get hin, .inl ?_⟩
          by_cases e : i = c
          · subst e
            rw [hpc] at hi
            cases hi
            rw [s4 _ _ e3]
            simp
          · have hp2 : p ≠ pc := fun e' => by
              subst e'
              obtain ⟨a1, a2⟩ := List.getElem?_eq_some_iff.mp hi
              obtain ⟨b1, b2⟩ := List.getElem?_eq_some_iff.mp hpc
              rcases Nat.lt_or_gt_of_ne e with h | h
              · exact List.pairwise_iff_getElem.mp nd i c a1 b1 h (a2.trans b2.symm)
              · exact List.pairwise_iff_getElem.mp nd c i b1 a1 h (b2.trans a2.symm)
            rw [s4 _ _ (b3 _ _ hp2 (al p (List.mem_of_getElem? hi)).1)]
            refine congrArg (fun z => some (HO.lst z)) (congrArg _ ?_)
            refine List.ext_getElem? fun k => ?_
            by_cases hk : k < 2 * L
            · rw [List.getElem?_map, List.getElem?_range hk, List.getElem?_replicate]
              simp [hk, e]
            · rw [List.getElem?_eq_none (by simp; omega), List.getElem?_eq_none (by simp; omega)]
end
end Sk
namespace Sk
open PySem PySem.Spec PyProof.Rows L2
/-! The plain law. -/
theorem rep_cancel {α : Type} {x : α} : ∀ {m m' : Nat} {A B : List α}, (∀ y, A.head? = some y → y ≠ x) → (∀ y, B.head? = some y → y ≠ x) → List.replicate m x ++ A = List.replicate m' x ++ B → m = m' ∧ A = B
  | 0, 0, A, B, _, _, h => ⟨rfl, by simpa using h⟩
  | 0, m' + 1, A, B, hA, _, h => by
    have h' : A = x :: (List.replicate m' x ++ B) := by simpa [List.replicate_succ] using h
    exact absurd rfl (hA x (by rw [h']; rfl))
  | m + 1, 0, A, B, _, hB, h => by
    have h' : x :: (List.replicate m x ++ A) = B := by simpa [List.replicate_succ] using h
    exact absurd rfl (hB x (by rw [← h']; rfl))
  | m + 1, m' + 1, A, B, hA, hB, h => by
    have h' : List.replicate m x ++ A = List.replicate m' x ++ B := by simpa [List.replicate_succ] using h
    obtain ⟨e, e2⟩ := rep_cancel hA hB h'
    exact ⟨by omega, e2⟩
def wd (p q : Nat) (b : Bool) : Nat := if b = true then p else q
theorem seen_cons {p q : Nat} {b : Bool} {w : List Bool} {i : Int} {r : List Int} : seen p q (b :: w) (i :: r) = List.replicate (wd p q b) i ++ seen p q w r := rfl
/-! even -/
theorem seen_even {p : Nat} : ∀ {w u : List Bool} {r : List Int}, w.length = r.length → u.length = r.length → seen p p w r = seen p p u r
  | [], [], _, _, _ => rfl
  | [], _ :: _, [], _, h => by simp at h
  | _ :: _, [], [], h, _ => by simp at h
  | b :: w, b' :: u, [], h, _ => by simp at h
  | [], _, _ :: _, h, _ => by simp at h
  | _ :: _, [], _ :: _, _, h => by simp at h
  | b :: w, b' :: u, i :: r, h1, h2 => by
    rw [seen_cons, seen_cons, seen_even (w := w) (u := u) (r := r) (by simpa using h1) (by simpa using h2)]
    cases b <;> cases b' <;> rfl
/-! front, top -/
def rep (p : Nat) : List Int → List Int
  | [] => []
  | i :: r => List.replicate p i ++ rep p r
theorem rep_inj {p : Nat} (hp : 1 ≤ p) : ∀ {xs ys : List Int}, rep p xs = rep p ys → xs = ys
  | [], [], _ => rfl
  | [], y :: ys, h => by
    have := congrArg List.length h
    simp [rep] at this
    omega
  | x :: xs, [], h => by
    have := congrArg List.length h
    simp [rep] at this
    omega
  | x :: xs, y :: ys, h => by
    obtain ⟨k, rfl⟩ : ∃ k, p = k + 1 := ⟨p - 1, by omega⟩
    have h' : List.replicate (k + 1) x ++ rep (k + 1) xs = List.replicate (k + 1) y ++ rep (k + 1) ys := h
    obtain ⟨h1, h2⟩ := List.append_inj h' (by simp)
    have hx : x = y := by
      rw [List.replicate_succ, List.replicate_succ] at h1
      exact (List.cons.inj h1).1
    rw [hx, rep_inj hp h2]
theorem seen_front {p : Nat} : ∀ {w : List Bool} {r : List Int}, seen p 0 w r = rep p (keep true w r)
  | [], r => by simp [seen, keep, rep]
  | b :: w, [] => by simp [seen, keep, rep]
  | b :: w, i :: r => by
    rw [seen_cons, seen_front (w := w) (r := r)]
    cases b <;> simp [wd, keep, rep]
theorem seen_top {q : Nat} : ∀ {w : List Bool} {r : List Int}, seen 0 q w r = rep q (keep false w r)
  | [], r => by simp [seen, keep, rep]
  | b :: w, [] => by simp [seen, keep, rep]
  | b :: w, i :: r => by
    rw [seen_cons, seen_top (w := w) (r := r)]
    cases b <;> simp [wd, keep, rep]
/-! between -/
def Cnd (p q : Nat) : Int → Nat → Nat → List Bool → List Bool → List Int → Prop
  | x, m, m', b :: w, b' :: u, i :: r => if i = x then Cnd p q x (m + wd p q b) (m' + wd p q b') w u r else m = m' ∧ Cnd p q i (wd p q b) (wd p q b') w u r
  | _, m, m', _, _, _ => m = m'
theorem head_rep {p q : Nat} {b : Bool} {i x : Int} {S : List Int} (hp : 1 ≤ p) (hq : 1 ≤ q) (h : i ≠ x) : ∀ y, (List.replicate (wd p q b) i ++ S).head? = some y → y ≠ x := by
  intro y hy
  obtain ⟨k, hk⟩ : ∃ k, wd p q b = k + 1 := ⟨wd p q b - 1, by
    have : 1 ≤ wd p q b := by unfold wd; split <;> assumption
    omega⟩
  rw [hk, List.replicate_succ] at hy
  have e : i = y := by simpa using hy
  exact e ▸ h
theorem seen_cnd {p q : Nat} (hp : 1 ≤ p) (hq : 1 ≤ q) : ∀ {w u : List Bool} {r : List Int} {x : Int} {m m' : Nat}, w.length = r.length → u.length = r.length →
    (List.replicate m x ++ seen p q w r = List.replicate m' x ++ seen p q u r ↔ Cnd p q x m m' w u r)
  | [], [], [], x, m, m', _, _ => by
    simp only [seen, List.append_nil]
    constructor
    · intro h
      have := congrArg List.length h
      exact (by simpa using this : m = m')
    · intro h
      have h' : m = m' := h
      rw [h']
  | [], _ :: _, [], _, _, _, _, h => by simp at h
  | _ :: _, _, [], _, _, _, h, _ => by simp at h
  | [], _, _ :: _, _, _, _, h, _ => by simp at h
  | _ :: _, [], _ :: _, _, _, _, _, h => by simp at h
  | b :: w, b' :: u, i :: r, x, m, m', h1, h2 => by
    have l1 : w.length = r.length := by simpa using h1
    have l2 : u.length = r.length := by simpa using h2
    rw [seen_cons, seen_cons]
    show _ ↔ (if i = x then _ else _)
    by_cases h : i = x
    · subst h
      rw [if_pos rfl, ← seen_cnd hp hq l1 l2, ← List.append_assoc, ← List.append_assoc, List.replicate_append_replicate, List.replicate_append_replicate]
    · rw [if_neg h, ← seen_cnd hp hq l1 l2]
      constructor
      · intro e
        exact rep_cancel (head_rep hp hq h) (head_rep hp hq h) e
      · rintro ⟨rfl, e⟩
        rw [e]
def tv (b : Bool) : Int := if b = true then 1 else 0
def Agr : Int → Int → List Bool → List Bool → List Int → Prop
  | x, d, b :: w, b' :: u, i :: r => (i ≠ x → d = 0) ∧ Agr i (d + tv b - tv b') w u r
  | _, d, _, _, _ => d = 0
theorem wd_sub {p q : Nat} (b b' : Bool) : (wd p q b : Int) - wd p q b' = ((p : Int) - q) * (tv b - tv b') := by
  cases b <;> cases b' <;> simp [wd, tv] <;> omega
theorem cnd_agr {p q : Nat} (hpq : p ≠ q) : ∀ {w u : List Bool} {r : List Int} {x : Int} {m m' : Nat} {d : Int}, w.length = r.length → u.length = r.length → (m : Int) - m' = ((p : Int) - q) * d → (Cnd p q x m m' w u r ↔ Agr x d w u r)
  | [], [], [], x, m, m', d, _, _, h => by
    show m = m' ↔ d = 0
    have hne : ((p : Int) - q) ≠ 0 := by omega
    constructor
    · intro e
      subst e
      rw [Int.sub_self] at h
      rcases Int.mul_eq_zero.mp h.symm with e | e
      · exact absurd e hne
      · exact e
    · intro e
      rw [e, Int.mul_zero] at h
      omega
  | [], _ :: _, [], _, _, _, _, _, h, _ => by simp at h
  | _ :: _, _, [], _, _, _, _, h, _, _ => by simp at h
  | [], _, _ :: _, _, _, _, _, h, _, _ => by simp at h
  | _ :: _, [], _ :: _, _, _, _, _, _, h, _ => by simp at h
  | b :: w, b' :: u, i :: r, x, m, m', d, h1, h2, h => by
    have l1 : w.length = r.length := by simpa using h1
    have l2 : u.length = r.length := by simpa using h2
    have hne : ((p : Int) - q) ≠ 0 := by omega
    have z : m = m' ↔ d = 0 := by
      constructor
      · intro e
        subst e
        rw [Int.sub_self] at h
        rcases Int.mul_eq_zero.mp h.symm with e | e
        · exact absurd e hne
        · exact e
      · intro e
        rw [e, Int.mul_zero] at h
        omega
    have ws := wd_sub (p := p) (q := q) b b'
    show (if i = x then _ else _) ↔ (i ≠ x → d = 0) ∧ Agr i (d + tv b - tv b') w u r
    by_cases e : i = x
    · subst e
      rw [if_pos rfl, cnd_agr hpq l1 l2 (d := d + tv b - tv b') (by
        have : ((p : Int) - q) * (d + tv b - tv b') = ((p : Int) - q) * d + ((p : Int) - q) * (tv b - tv b') := by
          rw [← Int.mul_add]
          congr 1
          omega
        rw [this]
        push_cast
        omega)]
      exact ⟨fun q => ⟨fun n => absurd rfl n, q⟩, fun q => q.2⟩
    · rw [if_neg e, z]
      constructor
      · rintro ⟨hd, q⟩
        refine ⟨fun _ => hd, ?_⟩
        rw [hd, show (0 : Int) + tv b - tv b' = tv b - tv b' by omega]
        exact (cnd_agr hpq l1 l2 ws).mp q
      · rintro ⟨hd, q⟩
        have hd' := hd e
        rw [hd', show (0 : Int) + tv b - tv b' = tv b - tv b' by omega] at q
        exact ⟨hd', (cnd_agr hpq l1 l2 ws).mpr q⟩
theorem cnt_cons (b : Bool) (w : List Bool) : (((b :: w).count true : Nat) : Int) = tv b + (w.count true : Nat) := by
  cases b <;> simp [tv] <;> omega
theorem agr_iff : ∀ {w u : List Bool} {r : List Int} {x d : Int}, w.length = r.length → u.length = r.length →
    (Agr x d w u r ↔ (∀ t, t < r.length → (x :: r)[t]? ≠ (x :: r)[t + 1]? → d + ((w.take t).count true : Nat) - ((u.take t).count true : Nat) = 0) ∧ d + (w.count true : Nat) - (u.count true : Nat) = 0)
  | [], [], [], x, d, _, _ => by
    show d = 0 ↔ _
    simp
  | [], _ :: _, [], _, _, _, h => by simp at h
  | _ :: _, _, [], _, _, h, _ => by simp at h
  | [], _, _ :: _, _, _, h, _ => by simp at h
  | _ :: _, [], _ :: _, _, _, _, h => by simp at h
  | b :: w, b' :: u, i :: r, x, d, h1, h2 => by
    have l1 : w.length = r.length := by simpa using h1
    have l2 : u.length = r.length := by simpa using h2
    show (i ≠ x → d = 0) ∧ Agr i (d + tv b - tv b') w u r ↔ _
    rw [agr_iff l1 l2]
    constructor
    · rintro ⟨h0, ht, he⟩
      refine ⟨fun t hlt hne => ?_, by rw [cnt_cons, cnt_cons]; omega⟩
      cases t with
      | zero =>
        have : i ≠ x := fun e => hne (by simp [e])
        simp [h0 this]
      | succ t =>
        have := ht t (by simpa using hlt) (by simpa using hne)
        rw [List.take_succ_cons, List.take_succ_cons, cnt_cons, cnt_cons]
        omega
    · rintro ⟨ht, he⟩
      rw [cnt_cons, cnt_cons] at he
      refine ⟨fun hne => ?_, fun t hlt hne => ?_, by omega⟩
      · have := ht 0 (by simp) (by simpa using fun e : x = i => hne e.symm)
        simpa using this
      · have := ht (t + 1) (by simpa using hlt) (by simpa using hne)
        rw [List.take_succ_cons, List.take_succ_cons, cnt_cons, cnt_cons] at this
        omega
/-- one column -/
theorem seen_between {p q : Nat} (hp : 1 ≤ p) (hq : 1 ≤ q) (hpq : p ≠ q) {w u : List Bool} {r : List Int} (h1 : w.length = r.length) (h2 : u.length = r.length) (hc : w.count true = u.count true) :
    seen p q w r = seen p q u r ↔ ∀ t, 1 ≤ t → t < w.length → r[t - 1]? ≠ r[t]? → (w.take t).count true = (u.take t).count true := by
  match w, u, r, h1, h2, hc with
  | [], [], [], _, _, _ => simp [seen]
  | [], _ :: _, [], _, h, _ => simp at h
  | _ :: _, _, [], h, _, _ => simp at h
  | [], _, _ :: _, h, _, _ => simp at h
  | _ :: _, [], _ :: _, _, h, _ => simp at h
  | b :: w, b' :: u, i :: r, h1, h2, hc =>
    have l1 : w.length = r.length := by simpa using h1
    have l2 : u.length = r.length := by simpa using h2
    have hc' : (((b :: w).count true : Nat) : Int) = ((b' :: u).count true : Nat) := by rw [hc]
    rw [cnt_cons, cnt_cons] at hc'
    rw [seen_cons, seen_cons, seen_cnd hp hq l1 l2, cnd_agr hpq l1 l2 (wd_sub b b'), agr_iff l1 l2]
    constructor
    · rintro ⟨ht, _⟩ t t1 tl hne
      obtain ⟨k, rfl⟩ : ∃ k, t = k + 1 := ⟨t - 1, by omega⟩
      have := ht k (by simp at tl; omega) (by simpa using hne)
      have e : (((b :: w).take (k + 1)).count true : Int) = (((b' :: u).take (k + 1)).count true : Nat) := by
        rw [List.take_succ_cons, List.take_succ_cons, cnt_cons, cnt_cons]
        omega
      exact Int.ofNat.inj e
    · intro h
      refine ⟨fun t hlt hne => ?_, by omega⟩
      have := h (t + 1) (by omega) (by simp; omega) (by simpa using hne)
      have e : (((b :: w).take (t + 1)).count true : Int) = (((b' :: u).take (t + 1)).count true : Nat) := by rw [this]
      rw [List.take_succ_cons, List.take_succ_cons, cnt_cons, cnt_cons] at e
      omega
/-! ### all the columns -/
theorem FitR.lens {L n : Nat} {ws us : Ws} {rs : Rs} (F : Fit L n ws us) (R : FitR L n rs) {c : Nat} (h : c < n) : (wAt ws c).length = (rAt rs c).length ∧ (wAt us c).length = (rAt rs c).length ∧ (wAt ws c).count true = (wAt us c).count true := by
  obtain ⟨_, w1⟩ := F.gw h
  obtain ⟨_, w2⟩ := F.swap.gw h
  obtain ⟨_, l3⟩ := R.gr h
  exact ⟨by rw [w1.len, l3], by rw [w2.len, l3], by rw [w1.cnt, w2.cnt]⟩
theorem spot_none {L n : Nat} {ws us : Ws} {rs : Rs} {p q : Nat} (F : Fit L n ws us) (R : FitR L n rs) : spot ws us rs p q = none ↔ ∀ c, c < n → seen p q (wAt ws c) (rAt rs c) = seen p q (wAt us c) (rAt rs c) := by
  unfold spot
  rw [first2_none_iff, F.w]
  have key : ∀ c, c < n → (fd (seen p q (wAt ws c) (rAt rs c)) (seen p q (wAt us c) (rAt rs c)) = none ↔ seen p q (wAt ws c) (rAt rs c) = seen p q (wAt us c) (rAt rs c)) := fun c hc => by
    obtain ⟨h1, h2, h3⟩ := R.lens F hc
    obtain ⟨_, w1⟩ := F.gw hc
    obtain ⟨_, w2⟩ := F.swap.gw hc
    refine fd_none ?_
    rw [seen_len (by omega), seen_len (by omega), w1.cn, w2.cn, w1.cn, w2.cn]
  exact ⟨fun h c hc => (key c hc).mp (h c hc), fun h c hc => (key c hc).mpr (h c hc)⟩
theorem spot_even {L n : Nat} {ws us : Ws} {rs : Rs} {p : Nat} (F : Fit L n ws us) (R : FitR L n rs) : spot ws us rs p p = none :=
  (spot_none F R).mpr fun c hc => by
    obtain ⟨h1, h2, _⟩ := R.lens F hc
    exact seen_even h1 h2
theorem keeps_eq {L n : Nat} {ws us : Ws} {rs : Rs} (b : Bool) (F : Fit L n ws us) (R : FitR L n rs) : keeps b ws rs = keeps b us rs ↔ ∀ c, c < n → keep b (wAt ws c) (rAt rs c) = keep b (wAt us c) (rAt rs c) := by
  have g : ∀ (vs : Ws) {c : Nat}, Fit L n vs vs → c < n → (keeps b vs rs)[c]? = some (keep b (wAt vs c) (rAt rs c)) := fun vs c V hc => by
    unfold keeps
    rw [List.getElem?_zipWith, (V.gw hc).1, (R.gr hc).1]
  constructor
  · intro h c hc
    have h1 := g ws F.self hc
    have h2 := g us F.swap.self hc
    rw [h, h2] at h1
    exact (Option.some.inj h1).symm
  · intro h
    refine List.ext_getElem? fun c => ?_
    by_cases hc : c < n
    · rw [g ws F.self hc, g us F.swap.self hc, h c hc]
    · have l1 : (keeps b ws rs).length ≤ n := by unfold keeps; rw [List.length_zipWith, F.w]; omega
      have l2 : (keeps b us rs).length ≤ n := by unfold keeps; rw [List.length_zipWith, F.u]; omega
      rw [List.getElem?_eq_none (by omega), List.getElem?_eq_none (by omega)]
theorem spot_front {L n : Nat} {ws us : Ws} {rs : Rs} {p : Nat} (hp : 1 ≤ p) (F : Fit L n ws us) (R : FitR L n rs) : spot ws us rs p 0 = none ↔ keeps true ws rs = keeps true us rs := by
  rw [spot_none F R, keeps_eq true F R]
  refine ⟨fun h c hc => ?_, fun h c hc => ?_⟩
  · have := h c hc
    rw [seen_front, seen_front] at this
    exact rep_inj hp this
  · rw [seen_front, seen_front, h c hc]
theorem spot_top {L n : Nat} {ws us : Ws} {rs : Rs} {q : Nat} (hq : 1 ≤ q) (F : Fit L n ws us) (R : FitR L n rs) : spot ws us rs 0 q = none ↔ keeps false ws rs = keeps false us rs := by
  rw [spot_none F R, keeps_eq false F R]
  refine ⟨fun h c hc => ?_, fun h c hc => ?_⟩
  · have := h c hc
    rw [seen_top, seen_top] at this
    exact rep_inj hq this
  · rw [seen_top, seen_top, h c hc]
theorem spot_between {L n : Nat} {ws us : Ws} {rs : Rs} {p q : Nat} (hp : 1 ≤ p) (hq : 1 ≤ q) (hpq : p ≠ q) (F : Fit L n ws us) (R : FitR L n rs) : spot ws us rs p q = none ↔ Agree ws us rs := by
  rw [spot_none F R]
  unfold Agree
  rw [F.w]
  refine ⟨fun h c hc => ?_, fun h c hc => ?_⟩
  · obtain ⟨h1, h2, h3⟩ := R.lens F hc
    exact (seen_between hp hq hpq h1 h2 h3).mp (h c hc)
  · obtain ⟨h1, h2, h3⟩ := R.lens F hc
    exact (seen_between hp hq hpq h1 h2 h3).mpr (h c hc)
/-! ### a single inked cell -/
theorem seen_zero {p q : Nat} {x : Int} : ∀ {w : List Bool}, seen p q w (List.replicate w.length x) = List.replicate (p * w.count true + q * w.count false) x
  | [] => by simp [seen]
  | b :: w => by
    rw [List.length_cons, List.replicate_succ, seen_cons, seen_zero (w := w), List.replicate_append_replicate]
    congr 1
    cases b <;> simp [wd, Nat.mul_add] <;> omega
theorem seen_app {p q : Nat} : ∀ {w u : List Bool} {r s : List Int}, w.length = r.length → seen p q (w ++ u) (r ++ s) = seen p q w r ++ seen p q u s
  | [], _, [], _, _ => by simp [seen]
  | [], _, _ :: _, _, h => by simp at h
  | _ :: _, _, [], _, h => by simp at h
  | b :: w, u, i :: r, s, h => by
    rw [List.cons_append, List.cons_append, seen_cons, seen_cons, seen_app (by simpa using h), List.append_assoc]
def dotRow (N t : Nat) : List Int := List.replicate t 0 ++ [1] ++ List.replicate (N - t - 1) 0
theorem dot_eq {N t : Nat} (h : t < N) : ((List.range N).map fun k => if k = t then (1 : Int) else 0) = dotRow N t := by
  refine List.ext_getElem? fun k => ?_
  unfold dotRow
  by_cases hk : k < N
  · rw [List.getElem?_map, List.getElem?_range hk]
    by_cases h1 : k < t
    · rw [List.getElem?_append_left (by simp; omega), List.getElem?_append_left (by simpa using h1), List.getElem?_replicate, if_pos h1]
      simp
      omega
    · by_cases h2 : k = t
      · subst h2
        rw [List.getElem?_append_left (by simp), List.getElem?_append_right (by simp)]
        simp
      · rw [List.getElem?_append_right (by simp; omega), List.getElem?_replicate, if_pos (by simp; omega)]
        simp [h2]
  · rw [List.getElem?_eq_none (by simp; omega), List.getElem?_eq_none (by simp; omega)]
theorem seen_dot {p q t : Nat} {w : List Bool} {b : Bool} (h : w[t]? = some b) : seen p q w (dotRow w.length t) = List.replicate (p * (w.take t).count true + q * (w.take t).count false) 0 ++ (List.replicate (wd p q b) 1 ++ List.replicate (p * (w.drop (t + 1)).count true + q * (w.drop (t + 1)).count false) 0) := by
  obtain ⟨hl, _⟩ := List.getElem?_eq_some_iff.mp h
  have e : w = w.take t ++ ([b] ++ w.drop (t + 1)) := by
    have : w.take (t + 1) = w.take t ++ [b] := by rw [List.take_add_one, h]; rfl
    rw [← List.append_assoc, ← this, List.take_append_drop]
  have lt : (w.take t).length = t := by rw [List.length_take]; omega
  have ld : (w.drop (t + 1)).length = w.length - t - 1 := by rw [List.length_drop]; omega
  unfold dotRow
  generalize hN : w.length - t - 1 = N at *
  conv => lhs; rw [e]
  rw [List.append_assoc, seen_app (by rw [List.length_replicate]; exact lt), seen_app (by rfl)]
  have e1 := seen_zero (p := p) (q := q) (x := 0) (w := w.take t)
  rw [lt] at e1
  have e2 := seen_zero (p := p) (q := q) (x := 0) (w := w.drop (t + 1))
  rw [ld] at e2
  rw [e1, e2]
  simp [seen, wd]
theorem cnt_other (w : List Bool) : w.count false = w.length - w.count true := by
  have : w.count true + w.count false = w.length := by
    induction w with
    | nil => rfl
    | cons a v ih => cases a <;> simp <;> omega
  omega
theorem spot_single {L n : Nat} {ws us : Ws} {p q c0 t0 t : Nat} (F : Fit L n ws us) (hpq : p ≠ q) (hcell : cell ws us = some ((c0 : Int), (t0 : Int))) (ht : t ≤ t0) :
    c0 < n ∧ t0 < 2 * L ∧ ((spot ws us (single n L c0 t) p q = none) ↔ t < t0) := by
  obtain ⟨i, j, e1, e2, hi, hg, hb⟩ := first2_of hcell
  have e1' : c0 = i := by omega
  have e2' : t0 = j := by omega
  subst e1' e2'
  rw [F.w] at hi
  obtain ⟨hj, hd, hs⟩ := first_of hg
  obtain ⟨gw, W⟩ := F.gw hi
  obtain ⟨gu, U⟩ := F.swap.gw hi
  have lw := W.len
  have lu := U.len
  refine ⟨hi, by omega, ?_⟩
  have R : FitR L n (single n L c0 t) := ⟨single_len, fun r hr => by
    obtain ⟨i, hi, rfl⟩ := List.mem_map.mp hr
    simp⟩
  have rAt_ : ∀ c, c < n → rAt (single n L c0 t) c = if c = c0 then dotRow (2 * L) t else List.replicate (2 * L) 0 := fun c hc => by
    rw [rAt_some (single_get hc)]
    by_cases e : c = c0
    · rw [if_pos e, ← dot_eq (by omega : t < 2 * L)]
      simp [e]
    · rw [if_neg e]
      refine List.ext_getElem? fun k => ?_
      by_cases hk : k < 2 * L
      · rw [List.getElem?_map, List.getElem?_range hk, List.getElem?_replicate]
        simp [hk, e]
      · rw [List.getElem?_eq_none (by simp; omega), List.getElem?_eq_none (by simp; omega)]
  obtain ⟨bx, gx⟩ : ∃ b, (wAt ws c0)[t]? = some b := ⟨_, List.getElem?_eq_getElem (by omega)⟩
  obtain ⟨bY, gy⟩ : ∃ b, (wAt us c0)[t]? = some b := ⟨_, List.getElem?_eq_getElem (by omega)⟩
  have sw := seen_dot (p := p) (q := q) gx
  have su := seen_dot (p := p) (q := q) gy
  rw [lw] at sw
  rw [lu] at su
  have same : ∀ k, k < t0 → (wAt ws c0)[k]? = (wAt us c0)[k]? := fun k hk => by
    have := hs k hk
    simpa using this
  rw [spot_none F R]
  constructor
  · intro h
    by_cases e : t = t0
    · subst e
      have h1 := h c0 hi
      rw [rAt_ c0 hi, if_pos rfl, sw, su] at h1
      have h2 := congrArg (List.count (1 : Int)) h1
      simp only [List.count_append, List.count_replicate] at h2
      have hne : bx ≠ bY := fun e => by
        rw [gx, gy, e] at hd
        simp at hd
      have h3 : wd p q bx = wd p q bY := by simpa using h2
      cases bx <;> cases bY <;> simp [wd] at h3 hne <;> omega
    · omega
  · intro hlt c hc
    rw [rAt_ c hc]
    by_cases e : c = c0
    · subst e
      rw [if_pos rfl, sw, su]
      have et : (wAt ws c).take t = (wAt us c).take t := by
        refine List.ext_getElem? fun k => ?_
        by_cases hk : k < t
        · rw [List.getElem?_take_of_lt hk, List.getElem?_take_of_lt hk]
          exact same k (by omega)
        · rw [List.getElem?_eq_none (by simp; omega), List.getElem?_eq_none (by simp; omega)]
      have eb : bx = bY := by
        have := same t hlt
        rw [gx, gy] at this
        exact Option.some.inj this
      have et1 : (wAt ws c).take (t + 1) = (wAt us c).take (t + 1) := by
        rw [List.take_add_one, List.take_add_one, et, gx, gy, eb]
      have ed : ∀ b, ((wAt ws c).drop (t + 1)).count b = ((wAt us c).drop (t + 1)).count b := fun b => by
        have a1 : (wAt ws c).count b = ((wAt ws c).take (t + 1)).count b + ((wAt ws c).drop (t + 1)).count b := by rw [← List.count_append, List.take_append_drop]
        have a2 : (wAt us c).count b = ((wAt us c).take (t + 1)).count b + ((wAt us c).drop (t + 1)).count b := by rw [← List.count_append, List.take_append_drop]
        rw [W.cn, et1] at a1
        rw [U.cn] at a2
        omega
      rw [et, eb, ed true, ed false]
    · rw [if_neg e]
      obtain ⟨_, W'⟩ := F.gw hc
      obtain ⟨_, U'⟩ := F.swap.gw hc
      have z1 := seen_zero (p := p) (q := q) (x := 0) (w := wAt ws c)
      have z2 := seen_zero (p := p) (q := q) (x := 0) (w := wAt us c)
      rw [W'.len, W'.cn, W'.cn] at z1
      rw [U'.len, U'.cn, U'.cn] at z2
      rw [z1, z2]
end Sk
namespace Sk
open PySem PySem.Spec PyProof.Rows L2
/-! step words: z one step, zz as far as it goes, at: what stands at an address -/
local macro_rules
  | `(tactic| walk_at "zz") => `(tactic| repeat first
    | (with_reducible refine z_seq ?_) | (with_reducible refine z_asg ?_) | (with_reducible refine z_gname ?_) | (with_reducible refine z_var (by with_unfolding_all rfl) ?_)
    | (with_reducible refine z_c ?_) | (with_reducible refine z_op ?_) | (with_reducible refine z_cons ?_) | (with_reducible refine z_nil ?_)
    | (with_reducible refine z_next ?_) | (with_reducible refine z_call ?_) | (with_reducible refine z_drop ?_) | (with_reducible refine z_ret ?_)
    | (with_reducible refine z_ifs ?_) | (with_reducible refine z_un ?_) | (with_reducible refine z_chain ?_) | (with_reducible refine z_rI0 ?_)
    | (with_reducible refine z_eqI ?_) | (with_reducible refine z_neI ?_) | (with_reducible refine z_eqS ?_) | (with_reducible refine z_neS ?_)
    | (with_reducible refine z_eqB ?_) | (with_reducible refine z_neB ?_) | (with_reducible refine z_test ?_) | (with_reducible refine z_tB ?_)
    | (with_reducible refine z_bl ?_) | (with_reducible refine z_and ?_) | (with_reducible refine z_or ?_) | (with_reducible refine z_not ?_)
    | (with_reducible refine z_andV ?_) | (with_reducible refine z_orV ?_) | (with_reducible refine z_notV ?_) | (with_reducible refine z_if ?_)
    | (with_reducible refine z_cb ?_) | (with_reducible refine z_part ?_) | (with_reducible refine z_noPart ?_) | (with_reducible refine z_int ?_)
    | (with_reducible refine z_sl ?_) | (with_reducible refine z_fld ?_) | (with_reducible refine z_tup ?_) | (with_reducible refine z_lst ?_)
    | (with_reducible refine z_bm ?_) | (with_reducible refine z_bm0 ?_) | (with_reducible refine z_fldS ?_) | (with_reducible refine z_rU ?_)
    | (with_reducible refine v_intI ?_) | (with_reducible refine v_intB ?_) | (with_reducible refine v_abs ?_) | (with_reducible refine v_isN ?_)
    | (with_reducible refine v_notN ?_) | (with_reducible refine v_cnt ?_) | (with_reducible refine z_make ?_) | (with_reducible refine z_tru ?_)
    | (with_reducible refine z_m1 ?_) | (with_reducible refine z_strI ?_) | (with_reducible refine z_zS ?_) | (with_reducible refine z_eS ?_)
    | (with_reducible refine v_isII ?_) | (with_reducible refine v_isIB ?_) | (with_reducible refine v_isBI ?_) | (with_reducible refine v_isBB ?_)
    | (with_reducible refine v_isNI ?_) | (with_reducible refine v_isIT ?_) | (with_reducible refine v_isST ?_) | (with_reducible refine v_isSS ?_)
    | (with_reducible refine v_isIS ?_) | (with_reducible refine z_sub ?_) | (with_reducible refine z_gcons ?_) | (with_reducible refine z_gnil ?_)
    | (with_reducible refine z_par ?_) | (with_reducible refine v_par ?_) | (with_reducible refine z_par3 ?_) | (with_reducible refine v_par3 ?_)
    | (with_reducible refine v_ipI ?_) | (with_reducible refine z_for ?_) | (with_reducible refine z_lc ?_) | (with_reducible refine z_yes ?_)
    | (with_reducible refine z_rng1 ?_) | (with_reducible refine z_rng2 ?_) | (with_reducible refine z_list ?_) | (with_reducible refine z_tupi ?_)
    | (with_reducible refine z_stri ?_) | (with_reducible refine v_istr ?_) | (with_reducible refine iteT ?_) | (with_reducible refine iteF ?_)
    | (with_reducible refine z_nT ?_) | (with_reducible refine z_nF ?_) | (with_reducible refine z_cont ?_) | (with_reducible refine z_brk ?_)
    | (with_reducible refine z_retN ?_) | (walk_at "zn"))
  | `(tactic| walk_at "zn") => `(tactic| first
    | ((with_reducible refine' v_ixL ?k1 ?k2 ?_); (case k1 => walk_at "sq"); (case k2 => rfl)) | ((with_reducible refine' v_ixT ?k1 ?k2 ?_); (case k1 => walk_at "st"); (case k2 => rfl)) | ((with_reducible refine' v_lenL ?k1 ?_); (case k1 => walk_at "sq")) | ((with_reducible refine' v_lenT ?k1 ?_); (case k1 => walk_at "st"))
    | ((with_reducible refine' v_slS ?k1 ?_); (case k1 => (rw [enc_len]; exact small (by omega)))) | ((with_reducible refine' v_lenS ?k1 ?_); (case k1 => (rw [enc_len]; exact small (by omega)))) | ((with_reducible refine' v_slL ?k1 ?_); (case k1 => walk_at "sq")) | ((with_reducible refine' z_tyL ?k1 ?_); (case k1 => walk_at "at"))
    | ((with_reducible refine' v_fld ?k1 ?k2 ?k3 ?k4 ?_); (case k1 => walk_at "at"); (case k2 => assumption); (case k3 => assumption); (case k4 => first | assumption | rfl)) | ((with_reducible refine' v_truL ?k1 ?_); (case k1 => walk_at "at")) | ((with_reducible refine' z_wipe ?k1 ?_); (case k1 => rfl)) | ((with_reducible refine' v_gtup ?k1 ?k2 ?_); (case k1 => walk_at "st"); (case k2 => rfl))
    | ((with_reducible refine' z_aug ?k1 ?_); (case k1 => rfl)) | ((with_reducible refine' v_ilist ?k1 ?_); (case k1 => walk_at "sq")) | ((with_reducible refine' v_itup ?k1 ?_); (case k1 => walk_at "st")) | ((with_reducible refine' z_rI ?k1 ?_); (case k1 => first | (show (_ : Int) ≠ _; omega) | exact .inl ⟨by decide, by decide⟩ | exact .inr ⟨by decide, by decide⟩ | exact ⟨by decide, by decide⟩ | exact .inl ⟨by omega, by omega⟩ | exact .inr ⟨by omega, by omega⟩))
    | ((with_reducible refine' z_var ?hv ?_); (case hv => rfl)))
  | `(tactic| walk_at "at") => `(tactic| first
    | assumption
    | ((with_reducible refine' same_at ?k1 ?k2); (case k1 => assumption); (case k2 => walk_at "at"))
    | ((with_reducible refine' but_at ?k1 ?k2 ?k3); (case k1 => assumption); (case k2 => first | assumption | (apply Ne.symm; assumption)); (case k3 => walk_at "at")))
  | `(tactic| walk_at "sq") => `(tactic| first
    | assumption
    | (refine' SqL.of ?k1; (case k1 => walk_at "at"))
    | ((with_reducible refine' Same.seq ?k1 ?k2); (case k1 => assumption); (case k2 => walk_at "sq")))
  | `(tactic| walk_at "st") => `(tactic| first
    | assumption
    | (refine' SqT.of ?k1; (case k1 => walk_at "at"))
    | ((with_reducible refine' same_tup ?k1 ?k2); (case k1 => assumption); (case k2 => walk_at "st")))
  | `(tactic| walk_at "sa") => `(tactic| first
    | assumption
    | exact Same.refl _
    | (refine' Same.trans ?k1 ?k2; (case k2 => assumption); (case k1 => walk_at "sa")))
/-! _law_one_print, _law_all_prints. -/
open ClX (tCMeth)
abbrev s__law_one_print : Stmt := top 70
abbrev N__law_one_print : List Str := ["_law_one", "_law_other", "_law_printed", "_law_words", "_law_others", "_law_rows", "_law_p", "_law_q", "_law_told", "_law_due", "_law_kind_here"]
theorem sc__law_one_print : FnScope N__law_one_print ["_law_one", "_law_other", "_law_printed", "_law_words", "_law_others", "_law_rows", "_law_p", "_law_q"] (defScope s__law_one_print) := ⟨rfl, rfl, rfl, by decide +kernel, rfl, by decide +kernel, by decide +kernel⟩
theorem in_front (f t g : Bool) : inV (.str "front") ((names f t g).map .str) = f := by cases f <;> cases t <;> cases g <;> decide +kernel
theorem in_top (f t g : Bool) : inV (.str "top") ((names f t g).map .str) = t := by cases f <;> cases t <;> cases g <;> decide +kernel
theorem in_even (f t g : Bool) : inV (.str "even") ((names f t g).map .str) = true := by cases f <;> cases t <;> cases g <;> decide +kernel
theorem in_between (f t g : Bool) : inV (.str "between") ((names f t g).map .str) = g := by cases f <;> cases t <;> cases g <;> decide +kernel
theorem flat_names (f t g : Bool) : ((names f t g).map V.str).all flatV = true := by cases f <;> cases t <;> cases g <;> decide +kernel
theorem fin1 {P R : Prop} [Decidable P] [Decidable R] (h : P ↔ R) : (decide R == decide P) = true := by
  by_cases hp : P
  · rw [decide_eq_true hp, decide_eq_true (h.mp hp)]
    rfl
  · rw [decide_eq_false hp, decide_eq_false (fun r => hp (h.mpr r))]
    rfl
theorem fin2 {P R : Prop} [Decidable P] {g : Bool} (h : P ↔ R) (hg : g = true ↔ R) : (g == decide P) = true := by
  by_cases hp : P
  · rw [decide_eq_true hp, hg.mpr (h.mp hp)]
    rfl
  · rw [decide_eq_false hp]
    cases g with
    | false => rfl
    | true => exact absurd (h.mpr (hg.mp rfl)) hp
theorem Fit.wok {L n : Nat} {ws us : Ws} (F : Fit L n ws us) : WsOk L n ws := ⟨F.n1, F.n12, F.l1, F.l6, F.w, F.ww⟩
theorem FitR.rok {L n : Nat} {ws us : Ws} {rs : Rs} (F : Fit L n ws us) (R : FitR L n rs) : RsOk L n rs := ⟨F.n1, F.n12, F.l1, F.l6, R.r, R.rr⟩
/-- both cards, the print, and the lists that they were made of -/
structure Set_ (K : PySem.W.Frag) (H : Hp) (a b l1 l2 : Addr) (L n : Nat) (ws us : Ws) : Prop where
  F : Fit L n ws us
  a : CardAt K H a ws L n
  b : CardAt K H b us L n
  l1 : H l1 = some (.lst (wL ws))
  l2 : H l2 = some (.lst (wL us))
theorem Set_.same {K : PySem.W.Frag} {H H' : Hp} {a b l1 l2 : Addr} {L n : Nat} {ws us : Ws} (S : Set_ K H a b l1 l2 L n ws us) (s : Same H H') : Set_ K H' a b l1 l2 L n ws us := ⟨S.F, S.a.same s, S.b.same s, s _ _ S.l1, s _ _ S.l2⟩
structure Rows (K : PySem.W.Frag) (H : Hp) (c l3 : Addr) (L n : Nat) (rs : Rs) : Prop where
  R : FitR L n rs
  c : PrintAt K H c rs L n
  l3 : ∃ xs, H l3 = some (.lst xs) ∧ Lsts H xs rs
theorem Rows.same {K : PySem.W.Frag} {H H' : Hp} {c l3 : Addr} {L n : Nat} {rs : Rs} (S : Rows K H c l3 L n rs) (s : Same H H') : Rows K H' c l3 L n rs := by
  obtain ⟨xs, h1, h2⟩ := S.l3
  exact ⟨S.R, S.c.same s, xs, s _ _ h1, h2.same s⟩
def spOne (K : PySem.W.Frag) : Sp := fun vs H Q _ => ∃ (a b c l1 l2 l3 : Addr) (p q L n : Nat) (ws us : Ws) (rs : Rs), vs = [.ref a, .ref b, .ref c, .ref l1, .ref l2, .ref l3, .int p, .int q] ∧ Set_ K H a b l1 l2 L n ws us ∧ Rows K H c l3 L n rs ∧ p ≤ 9 ∧ q ≤ 9 ∧ 1 ≤ p + q ∧ ∀ H', Same H H' → Q (.bl true) H'
section
variable {P : Program} {w : World} {K : PySem.W.Frag} {mg : Str → Option Value} {base : Heap}
theorem ok__law_one_print (D : DefAt K mg "_law_one_print" ["_law_one", "_law_other", "_law_printed", "_law_words", "_law_others", "_law_rows", "_law_p", "_law_q"] s__law_one_print) (T : Tx K mg)
    (G_alike_by : Glo P w K mg base (L2.CX P w) 5 "alike_by" ["one", "other", "printed", "p", "q"] (spBy K)) (G_slopes_alike : Glo P w K mg base (L2.CX P w) 6 "slopes_alike" ["one", "other", "printed"] (spAll K))
    (G__law_first_spot : Glo P w K mg base CX0 2 "_law_first_spot" ["_law_words", "_law_others", "_law_rows", "_law_p", "_law_q"] spSpot) (G__law_same : Glo P w K mg base CX0 3 "_law_same" ["_law_told", "_law_due"] (spSame K)) :
    Glo P w K mg base CX0 7 "_law_one_print" ["_law_one", "_law_other", "_law_printed", "_law_words", "_law_others", "_law_rows", "_law_p", "_law_q"] (spOne K) := by
  refine D.ok 6 sc__law_one_print (fun vs H Q E h => ?_) (fun f cdv A outer s H vs Q E hr h => ?_)
  · obtain ⟨a, b, c, l1, l2, l3, p, q, L, n, ws, us, rs, rfl, _⟩ := h
    rfl
  · obtain ⟨a, b, c, l1, l2, l3, p, q, L, n, ws, us, rs, rfl, S, R, hp, hq, hpq, k⟩ := h
    refine ⟨_, (pss_cons (ps_par (i := 8) (j := 9) (by rfl) sc__law_one_print.nd rfl rfl (by decide) rfl rfl (pa_cons (pe_g G_alike_by (hr.mono (by decide)) rfl passL (pa_cons (pv 0) (pa_cons (pv 1) (pa_cons (pv 2) (pa_cons (pv 6) (pa_cons (pv 7) pa_nil)))))) (pa_cons (pe_g G__law_first_spot (hr.mono (by decide)) rfl pass0 (pa_cons (pv 3) (pa_cons (pv 4) (pa_cons (pv 5) (pa_cons (pv 6) (pa_cons (pv 7) pa_nil)))))) pa_nil)) (by rfl))
      (pss_cons (ps_if (PW.pt (pw_or (pt_cmpR op_ne (pe_cmpR op_isZ (pv 8) pe_non (nomark _)) (pe_cmpR op_isZ (pv 9) pe_non (nomark _)) (nomark _)) (pw_or1 (PW.pt (pw_and (pt_cmpR op_notZ (pv 9) pe_non (nomark _)) (pw_and1 (pt_not (pt_val (pe_g G__law_same (hr.mono (by decide)) rfl pass0 (pa_cons (pv 8) (pa_cons (pv 9) pa_nil))))))))))) (pss_one (ps_ret pe_bl)) pss_nil)
      (pss_cons (ps_if (pt_cmpR op_eq (pv 6) (pv 7) (nomark _)) (pss_one (ps_set (i := 10) sc__law_one_print.nd rfl (Or.inl rfl) pe_str)) (pss_one (ps_if (PW.pt (pw_or (pt_cmpR op_eq (pv 6) pe_int (nomark _)) (pw_or1 (pt_cmpR op_eq (pv 7) pe_int (nomark _))))) (pss_one (ps_set (i := 10) sc__law_one_print.nd rfl (Or.inl rfl) (pe_ifExp (pt_cmpR op_eq (pv 7) pe_int (nomark _)) pe_str pe_str))) (pss_one (ps_set (i := 10) sc__law_one_print.nd rfl (Or.inl rfl) pe_str)))))
      (pss_one (ps_ret (pe_cmpR op_eq (pe_cmpR op_in_seq (pv 10) (pe_g G_slopes_alike (hr.mono (by decide)) rfl passL (pa_cons (pv 0) (pa_cons (pv 1) (pa_cons (pv 2) pa_nil)))) (by with_unfolding_all rfl)) (pe_cmpR op_isZ (pv 9) pe_non (nomark _)) (nomark _))))))), ?_⟩
    walk_at "zz"
    refine ⟨a, b, c, .int p, .int q, ws, us, rs, L, n, L, n, L, n, rfl, S.a, S.b, R.c, S.F.wok, S.F.swap.wok, R.R.rok S.F, .inr (.inr ⟨rfl, rfl, rfl, rfl, none, ⟨p, q, rfl, rfl, hp, hq, hpq⟩, fun z h => (by cases h), fun _ p' q' e1 e2 v H1 s1 o1 => ?_⟩)⟩
    obtain rfl : p = p' := by
      injection e1
      omega
    obtain rfl : q = q' := by
      injection e2
      omega
    have S1 := S.same s1
    have R1 := R.same s1
    obtain ⟨xs, h3, h4⟩ := R1.l3
    walk_at "zz"
    refine ⟨l1, l2, l3, xs, L, n, ws, us, rs, p, q, rfl, S.F, R.R, by omega, by omega, S1.l1, S1.l2, h3, h4, fun y H2 s2 o2 => ?_⟩
    have S2 := S1.same s2
    have R2 := R1.same s2
    have o1' := o1.same s2
    have ev := spot_even (p := p) S.F R.R
    have fr : 1 ≤ p → (spot ws us rs p 0 = none ↔ _) := fun h => spot_front h S.F R.R
    have tp : 1 ≤ q → (spot ws us rs 0 q = none ↔ _) := fun h => spot_top h S.F R.R
    have bt : 1 ≤ p → 1 ≤ q → p ≠ q → (spot ws us rs p q = none ↔ _) := fun h1 h2 h3 => spot_between h1 h2 h3 S.F R.R
    walk_at "zz"
    rw [o1'.isN, o2.isN]
    refine v_ifF (by simp) ?_
    walk_at "zz"
    rw [o2.isN]
    generalize hO : spot ws us rs p q = O at *
    have bo : p = 0 ∨ q = 0 → p ≠ q → (q = 0 → (O = none ↔ keeps true ws rs = keeps true us rs)) ∧ (q ≠ 0 → (O = none ↔ keeps false ws rs = keeps false us rs)) := fun h hne => by
      refine ⟨fun h0 => ?_, fun h0 => ?_⟩
      · subst h0
        rw [← hO]
        exact fr (by omega)
      · have hp0 : p = 0 := by omega
        subst hp0
        rw [← hO]
        exact tp (by omega)
    have eo : p = q → O = none := fun h => by
      subst h
      rw [← hO]
      exact ev
    clear ev fr tp hO
    cases O with
    | none =>
      refine v_ifF (by simp) ?_
      walk_at "zz"
      refine v_if (fun h5 => ?_) (fun h5 => ?_)
      · have h5' := eo (by have := of_decide_eq_true h5; omega)
        walk_at "zz"
        refine ⟨a, b, c, ws, us, rs, L, n, L, n, L, n, rfl, S2.a, S2.b, R2.c, S2.F.wok, S2.F.swap.wok, R2.R.rok S2.F, .inr (.inr ⟨rfl, rfl, rfl, rfl, fun g t H3 hg s3 e3 => ?_⟩)⟩
        walk_at "zz"
        refine ⟨t, _, rfl, .inr (SqT.of e3), rfl, flat_names _ _ _, ?_⟩
        walk_at "zz"
        rw [(o2.same s3).isN]
        refine (congrArg (fun z => Q (V.bl z) H3) (?_ : _ = true)).mpr (k _ (s1.trans (s2.trans s3)))
        show (inV (.str "even") _ == _) = true
        rw [in_even, decide_eq_true h5']
        rfl
      · have hne : p ≠ q := fun e => by simp [e] at h5
        walk_at "zz"
        have z1 : p = 0 ∨ q = 0 → _ := fun h => bo h hne
        have isf : q = 0 → ∀ (H3 : Hp) (t : Addr) (g : Bool) (e3 : H3 t = some (HO.tup ((names (decide (keeps true ws rs = keeps true us rs)) (decide (keeps false ws rs = keeps false us rs)) g).map .str))), (inV (.str "front") ((names (decide (keeps true ws rs = keeps true us rs)) (decide (keeps false ws rs = keeps false us rs)) g).map .str) == decide (_ = none)) = true := fun h0 H3 t g _ => by
          rw [in_front]
          exact fin1 ((z1 (.inr h0)).1 h0)
        have ist : p = 0 → ∀ (H3 : Hp) (t : Addr) (g : Bool) (e3 : H3 t = some (HO.tup ((names (decide (keeps true ws rs = keeps true us rs)) (decide (keeps false ws rs = keeps false us rs)) g).map .str))), (inV (.str "top") ((names (decide (keeps true ws rs = keeps true us rs)) (decide (keeps false ws rs = keeps false us rs)) g).map .str) == decide (_ = none)) = true := fun h0 H3 t g _ => by
          rw [in_top]
          exact fin1 ((z1 (.inl h0)).2 (by omega))
        refine v_if (fun h6 => ?_) (fun h6 => ?_)
        · have hp0 : p = 0 := by have := of_decide_eq_true h6; omega
          walk_at "zz"
          refine v_ifF (by simp; omega) ?_
          walk_at "zz"
          refine ⟨a, b, c, ws, us, rs, L, n, L, n, L, n, rfl, S2.a, S2.b, R2.c, S2.F.wok, S2.F.swap.wok, R2.R.rok S2.F, .inr (.inr ⟨rfl, rfl, rfl, rfl, fun g t H3 hg s3 e3 => ?_⟩)⟩
          walk_at "zz"
          refine ⟨t, _, rfl, .inr (SqT.of e3), rfl, flat_names _ _ _, ?_⟩
          walk_at "zz"
          rw [(o2.same s3).isN]
          exact (congrArg (fun z => Q (V.bl z) H3) (ist hp0 H3 t g e3)).mpr (k _ (s1.trans (s2.trans s3)))
        · have hp0 : p ≠ 0 := fun e => by simp [e] at h6
          walk_at "zz"
          refine v_if (fun h7 => ?_) (fun h7 => ?_)
          · have hq0 : q = 0 := by have := of_decide_eq_true h7; omega
            walk_at "zz"
            refine v_ifT (by simp; omega) ?_
            walk_at "zz"
            refine ⟨a, b, c, ws, us, rs, L, n, L, n, L, n, rfl, S2.a, S2.b, R2.c, S2.F.wok, S2.F.swap.wok, R2.R.rok S2.F, .inr (.inr ⟨rfl, rfl, rfl, rfl, fun g t H3 hg s3 e3 => ?_⟩)⟩
            walk_at "zz"
            refine ⟨t, _, rfl, .inr (SqT.of e3), rfl, flat_names _ _ _, ?_⟩
            walk_at "zz"
            rw [(o2.same s3).isN]
            exact (congrArg (fun z => Q (V.bl z) H3) (isf hq0 H3 t g e3)).mpr (k _ (s1.trans (s2.trans s3)))
          · have hq0 : q ≠ 0 := fun e => by simp [e] at h7
            walk_at "zz"
            refine ⟨a, b, c, ws, us, rs, L, n, L, n, L, n, rfl, S2.a, S2.b, R2.c, S2.F.wok, S2.F.swap.wok, R2.R.rok S2.F, .inr (.inr ⟨rfl, rfl, rfl, rfl, fun g t H3 hg s3 e3 => ?_⟩)⟩
            walk_at "zz"
            refine ⟨t, _, rfl, .inr (SqT.of e3), rfl, flat_names _ _ _, ?_⟩
            walk_at "zz"
            rw [(o2.same s3).isN]
            refine (congrArg (fun z => Q (V.bl z) H3) (?_ : _ = true)).mpr (k _ (s1.trans (s2.trans s3)))
            show (inV (.str "between") _ == _) = true
            rw [in_between]
            exact fin2 (bt (by omega) (by omega) hne) hg
    | some ij =>
      obtain ⟨i, j⟩ := ij
      obtain ⟨p1, rfl, e1'⟩ := id o1'
      refine v_ifT (by simp) ?_
      walk_at "zz"
      refine ⟨p1, _, y, dO (some (i, j)), dO (some (i, j)), rfl, e1', ?_, o1'.dp, o2.dp, shO _, shO _, ?_⟩
      · intro x hx
        simp at hx
        rcases hx with h | h <;> exact .inl ⟨_, h⟩
      · rw [eqv_dO, decide_eq_true rfl]
        walk_at "zz"
        refine v_if (fun h5 => ?_) (fun h5 => ?_)
        · have h5' := eo (by have := of_decide_eq_true h5; omega)
          walk_at "zz"
          refine ⟨a, b, c, ws, us, rs, L, n, L, n, L, n, rfl, S2.a, S2.b, R2.c, S2.F.wok, S2.F.swap.wok, R2.R.rok S2.F, .inr (.inr ⟨rfl, rfl, rfl, rfl, fun g t H3 hg s3 e3 => ?_⟩)⟩
          walk_at "zz"
          refine ⟨t, _, rfl, .inr (SqT.of e3), rfl, flat_names _ _ _, ?_⟩
          walk_at "zz"
          rw [(o2.same s3).isN]
          refine (congrArg (fun z => Q (V.bl z) H3) (?_ : _ = true)).mpr (k _ (s1.trans (s2.trans s3)))
          show (inV (.str "even") _ == _) = true
          rw [in_even, decide_eq_true h5']
          rfl
        · have hne : p ≠ q := fun e => by simp [e] at h5
          walk_at "zz"
          have z1 : p = 0 ∨ q = 0 → _ := fun h => bo h hne
          have isf : q = 0 → ∀ (H3 : Hp) (t : Addr) (g : Bool) (e3 : H3 t = some (HO.tup ((names (decide (keeps true ws rs = keeps true us rs)) (decide (keeps false ws rs = keeps false us rs)) g).map .str))), (inV (.str "front") ((names (decide (keeps true ws rs = keeps true us rs)) (decide (keeps false ws rs = keeps false us rs)) g).map .str) == decide (_ = none)) = true := fun h0 H3 t g _ => by
            rw [in_front]
            exact fin1 ((z1 (.inr h0)).1 h0)
          have ist : p = 0 → ∀ (H3 : Hp) (t : Addr) (g : Bool) (e3 : H3 t = some (HO.tup ((names (decide (keeps true ws rs = keeps true us rs)) (decide (keeps false ws rs = keeps false us rs)) g).map .str))), (inV (.str "top") ((names (decide (keeps true ws rs = keeps true us rs)) (decide (keeps false ws rs = keeps false us rs)) g).map .str) == decide (_ = none)) = true := fun h0 H3 t g _ => by
            rw [in_top]
            exact fin1 ((z1 (.inl h0)).2 (by omega))
          refine v_if (fun h6 => ?_) (fun h6 => ?_)
          · have hp0 : p = 0 := by have := of_decide_eq_true h6; omega
            walk_at "zz"
            refine v_ifF (by simp; omega) ?_
            walk_at "zz"
            refine ⟨a, b, c, ws, us, rs, L, n, L, n, L, n, rfl, S2.a, S2.b, R2.c, S2.F.wok, S2.F.swap.wok, R2.R.rok S2.F, .inr (.inr ⟨rfl, rfl, rfl, rfl, fun g t H3 hg s3 e3 => ?_⟩)⟩
            walk_at "zz"
            refine ⟨t, _, rfl, .inr (SqT.of e3), rfl, flat_names _ _ _, ?_⟩
            walk_at "zz"
            rw [(o2.same s3).isN]
            exact (congrArg (fun z => Q (V.bl z) H3) (ist hp0 H3 t g e3)).mpr (k _ (s1.trans (s2.trans s3)))
          · have hp0 : p ≠ 0 := fun e => by simp [e] at h6
            walk_at "zz"
            refine v_if (fun h7 => ?_) (fun h7 => ?_)
            · have hq0 : q = 0 := by have := of_decide_eq_true h7; omega
              walk_at "zz"
              refine v_ifT (by simp; omega) ?_
              walk_at "zz"
              refine ⟨a, b, c, ws, us, rs, L, n, L, n, L, n, rfl, S2.a, S2.b, R2.c, S2.F.wok, S2.F.swap.wok, R2.R.rok S2.F, .inr (.inr ⟨rfl, rfl, rfl, rfl, fun g t H3 hg s3 e3 => ?_⟩)⟩
              walk_at "zz"
              refine ⟨t, _, rfl, .inr (SqT.of e3), rfl, flat_names _ _ _, ?_⟩
              walk_at "zz"
              rw [(o2.same s3).isN]
              exact (congrArg (fun z => Q (V.bl z) H3) (isf hq0 H3 t g e3)).mpr (k _ (s1.trans (s2.trans s3)))
            · have hq0 : q ≠ 0 := fun e => by simp [e] at h7
              walk_at "zz"
              refine ⟨a, b, c, ws, us, rs, L, n, L, n, L, n, rfl, S2.a, S2.b, R2.c, S2.F.wok, S2.F.swap.wok, R2.R.rok S2.F, .inr (.inr ⟨rfl, rfl, rfl, rfl, fun g t H3 hg s3 e3 => ?_⟩)⟩
              walk_at "zz"
              refine ⟨t, _, rfl, .inr (SqT.of e3), rfl, flat_names _ _ _, ?_⟩
              walk_at "zz"
              rw [(o2.same s3).isN]
              refine (congrArg (fun z => Q (V.bl z) H3) (?_ : _ = true)).mpr (k _ (s1.trans (s2.trans s3)))
              show (inV (.str "between") _ == _) = true
              rw [in_between]
              exact fin2 (bt (by omega) (by omega) hne) hg
end
end Sk
namespace Sk
open PySem PySem.Spec PyProof.Rows L2
/-! step words: z one step, zz as far as it goes, at: what stands at an address -/
local macro_rules
  | `(tactic| walk_at "zz") => `(tactic| repeat first
    | (with_reducible refine z_seq ?_) | (with_reducible refine z_asg ?_) | (with_reducible refine z_gname ?_) | (with_reducible refine z_var (by with_unfolding_all rfl) ?_)
    | (with_reducible refine z_c ?_) | (with_reducible refine z_op ?_) | (with_reducible refine z_cons ?_) | (with_reducible refine z_nil ?_)
    | (with_reducible refine z_next ?_) | (with_reducible refine z_call ?_) | (with_reducible refine z_drop ?_) | (with_reducible refine z_ret ?_)
    | (with_reducible refine z_ifs ?_) | (with_reducible refine z_un ?_) | (with_reducible refine z_chain ?_) | (with_reducible refine z_rI0 ?_)
    | (with_reducible refine z_eqI ?_) | (with_reducible refine z_neI ?_) | (with_reducible refine z_eqS ?_) | (with_reducible refine z_neS ?_)
    | (with_reducible refine z_eqB ?_) | (with_reducible refine z_neB ?_) | (with_reducible refine z_test ?_) | (with_reducible refine z_tB ?_)
    | (with_reducible refine z_bl ?_) | (with_reducible refine z_and ?_) | (with_reducible refine z_or ?_) | (with_reducible refine z_not ?_)
    | (with_reducible refine z_andV ?_) | (with_reducible refine z_orV ?_) | (with_reducible refine z_notV ?_) | (with_reducible refine z_if ?_)
    | (with_reducible refine z_cb ?_) | (with_reducible refine z_part ?_) | (with_reducible refine z_noPart ?_) | (with_reducible refine z_int ?_)
    | (with_reducible refine z_sl ?_) | (with_reducible refine z_fld ?_) | (with_reducible refine z_tup ?_) | (with_reducible refine z_lst ?_)
    | (with_reducible refine z_bm ?_) | (with_reducible refine z_bm0 ?_) | (with_reducible refine z_fldS ?_) | (with_reducible refine z_rU ?_)
    | (with_reducible refine v_intI ?_) | (with_reducible refine v_intB ?_) | (with_reducible refine v_abs ?_) | (with_reducible refine v_isN ?_)
    | (with_reducible refine v_notN ?_) | (with_reducible refine v_cnt ?_) | (with_reducible refine z_make ?_) | (with_reducible refine z_tru ?_)
    | (with_reducible refine z_m1 ?_) | (with_reducible refine z_strI ?_) | (with_reducible refine z_zS ?_) | (with_reducible refine z_eS ?_)
    | (with_reducible refine v_isII ?_) | (with_reducible refine v_isIB ?_) | (with_reducible refine v_isBI ?_) | (with_reducible refine v_isBB ?_)
    | (with_reducible refine v_isNI ?_) | (with_reducible refine v_isIT ?_) | (with_reducible refine v_isST ?_) | (with_reducible refine v_isSS ?_)
    | (with_reducible refine v_isIS ?_) | (with_reducible refine z_sub ?_) | (with_reducible refine z_gcons ?_) | (with_reducible refine z_gnil ?_)
    | (with_reducible refine z_par ?_) | (with_reducible refine v_par ?_) | (with_reducible refine z_par3 ?_) | (with_reducible refine v_par3 ?_)
    | (with_reducible refine v_ipI ?_) | (with_reducible refine z_for ?_) | (with_reducible refine z_lc ?_) | (with_reducible refine z_yes ?_)
    | (with_reducible refine z_rng1 ?_) | (with_reducible refine z_rng2 ?_) | (with_reducible refine z_list ?_) | (with_reducible refine z_tupi ?_)
    | (with_reducible refine z_stri ?_) | (with_reducible refine v_istr ?_) | (with_reducible refine iteT ?_) | (with_reducible refine iteF ?_)
    | (with_reducible refine z_nT ?_) | (with_reducible refine z_nF ?_) | (with_reducible refine z_cont ?_) | (with_reducible refine z_brk ?_)
    | (with_reducible refine z_retN ?_) | (walk_at "zn"))
  | `(tactic| walk_at "zn") => `(tactic| first
    | ((with_reducible refine' v_ixL ?k1 ?k2 ?_); (case k1 => walk_at "sq"); (case k2 => rfl)) | ((with_reducible refine' v_ixT ?k1 ?k2 ?_); (case k1 => walk_at "st"); (case k2 => rfl)) | ((with_reducible refine' v_lenL ?k1 ?_); (case k1 => walk_at "sq")) | ((with_reducible refine' v_lenT ?k1 ?_); (case k1 => walk_at "st"))
    | ((with_reducible refine' v_slS ?k1 ?_); (case k1 => (rw [enc_len]; exact small (by omega)))) | ((with_reducible refine' v_lenS ?k1 ?_); (case k1 => (rw [enc_len]; exact small (by omega)))) | ((with_reducible refine' v_slL ?k1 ?_); (case k1 => walk_at "sq")) | ((with_reducible refine' z_tyL ?k1 ?_); (case k1 => walk_at "at"))
    | ((with_reducible refine' v_fld ?k1 ?k2 ?k3 ?k4 ?_); (case k1 => walk_at "at"); (case k2 => assumption); (case k3 => assumption); (case k4 => first | assumption | rfl)) | ((with_reducible refine' v_truL ?k1 ?_); (case k1 => walk_at "at")) | ((with_reducible refine' z_wipe ?k1 ?_); (case k1 => rfl)) | ((with_reducible refine' v_gtup ?k1 ?k2 ?_); (case k1 => walk_at "st"); (case k2 => rfl))
    | ((with_reducible refine' z_aug ?k1 ?_); (case k1 => rfl)) | ((with_reducible refine' v_ilist ?k1 ?_); (case k1 => walk_at "sq")) | ((with_reducible refine' v_itup ?k1 ?_); (case k1 => walk_at "st")) | ((with_reducible refine' z_rI ?k1 ?_); (case k1 => first | (show (_ : Int) ≠ _; omega) | exact .inl ⟨by decide, by decide⟩ | exact .inr ⟨by decide, by decide⟩ | exact ⟨by decide, by decide⟩ | exact .inl ⟨by omega, by omega⟩ | exact .inr ⟨by omega, by omega⟩))
    | ((with_reducible refine' z_var ?hv ?_); (case hv => rfl)))
  | `(tactic| walk_at "at") => `(tactic| first
    | assumption
    | ((with_reducible refine' same_at ?k1 ?k2); (case k1 => assumption); (case k2 => walk_at "at"))
    | ((with_reducible refine' but_at ?k1 ?k2 ?k3); (case k1 => assumption); (case k2 => first | assumption | (apply Ne.symm; assumption)); (case k3 => walk_at "at")))
  | `(tactic| walk_at "sq") => `(tactic| first
    | assumption
    | (refine' SqL.of ?k1; (case k1 => walk_at "at"))
    | ((with_reducible refine' Same.seq ?k1 ?k2); (case k1 => assumption); (case k2 => walk_at "sq")))
  | `(tactic| walk_at "st") => `(tactic| first
    | assumption
    | (refine' SqT.of ?k1; (case k1 => walk_at "at"))
    | ((with_reducible refine' same_tup ?k1 ?k2); (case k1 => assumption); (case k2 => walk_at "st")))
  | `(tactic| walk_at "sa") => `(tactic| first
    | assumption
    | exact Same.refl _
    | (refine' Same.trans ?k1 ?k2; (case k2 => assumption); (case k1 => walk_at "sa")))
/-! _law_all_prints. -/
open ClX (tCMeth)
abbrev s__law_all_prints : Stmt := top 69
abbrev N__law_all_prints : List Str := ["_law_one", "_law_other", "_law_words", "_law_others", "_law_p", "_law_q", "_law_told", "_law_due", "_law_t", "_law_alone", "_law_rows", "_law_spot", "_law_c", "_law_k"]
theorem sc__law_all_prints : FnScope N__law_all_prints ["_law_one", "_law_other", "_law_words", "_law_others", "_law_p", "_law_q"] (defScope s__law_all_prints) := ⟨rfl, rfl, rfl, by decide +kernel, rfl, by decide +kernel, by decide +kernel⟩
theorem Lsts.but_ne {H H' : Hp} {l : Addr} {rs : List V} {ls : Rs} (t : Lsts H rs ls) (s : But l H H') (hl : V.ref l ∉ rs) : Lsts H' rs ls := by
  induction t with
  | nil => exact .nil
  | cons h t ih =>
    rw [List.mem_cons] at hl
    exact .cons (s _ _ (fun e => hl (.inl (by rw [e]))) h) (ih fun e => hl (.inr e))
def spAllP (K : PySem.W.Frag) : Sp := fun vs H Q _ => ∃ (a b l1 l2 : Addr) (p q L n : Nat) (ws us : Ws), vs = [.ref a, .ref b, .ref l1, .ref l2, .int p, .int q] ∧ Set_ K H a b l1 l2 L n ws us ∧ p ≤ 9 ∧ q ≤ 9 ∧ 1 ≤ p + q ∧ ∀ H', Same H H' → Q (.bl true) H'
section
variable {P : Program} {w : World} {K : PySem.W.Frag} {mg : Str → Option Value} {base : Heap}
theorem ok__law_all_prints (D : DefAt K mg "_law_all_prints" ["_law_one", "_law_other", "_law_words", "_law_others", "_law_p", "_law_q"] s__law_all_prints) (T : Tx K mg)
    (G_alike_from : Glo P w K mg base (L2.CX P w) 4 "alike_from" ["one", "other", "p", "q"] (spFrom K)) (G_alike_by : Glo P w K mg base (L2.CX P w) 5 "alike_by" ["one", "other", "printed", "p", "q"] (spBy K))
    (G__law_first_cell : Glo P w K mg base CX0 1 "_law_first_cell" ["_law_words", "_law_others"] spCell) (G__law_first_spot : Glo P w K mg base CX0 2 "_law_first_spot" ["_law_words", "_law_others", "_law_rows", "_law_p", "_law_q"] spSpot)
    (G__law_same : Glo P w K mg base CX0 3 "_law_same" ["_law_told", "_law_due"] (spSame K)) (G_Print_alone : GloC P w K mg base CX0 5 "Print" "alone" (spAlone K)) :
    Glo P w K mg base CX0 6 "_law_all_prints" ["_law_one", "_law_other", "_law_words", "_law_others", "_law_p", "_law_q"] (spAllP K) := by
  refine D.ok 5 sc__law_all_prints (fun vs H Q E h => ?_) (fun f cdv A outer s H vs Q E hr h => ?_)
  · obtain ⟨a, b, l1, l2, p, q, L, n, ws, us, rfl, _⟩ := h
    rfl
  · obtain ⟨a, b, l1, l2, p, q, L, n, ws, us, rfl, S, hp, hq, hpq, k⟩ := h
    refine ⟨_, (pss_cons (ps_asg (pe_tup (pa_cons (pe_g G_alike_from (hr.mono (by decide)) rfl passL (pa_cons (pv 0) (pa_cons (pv 1) (pa_cons (pv 4) (pa_cons (pv 5) pa_nil))))) (pa_cons (pe_g G__law_first_cell (hr.mono (by decide)) rfl pass0 (pa_cons (pv 2) (pa_cons (pv 3) pa_nil))) pa_nil))) (pg_tupK (K := K) 2 rfl rfl (pgs_cons (pg_name (i := 6) sc__law_all_prints.nd rfl (Or.inl rfl)) (pgs_cons (pg_name (i := 7) sc__law_all_prints.nd rfl (Or.inr rfl)) pgs_nil))))
      (pss_cons (ps_if (PW.pt (pw_or (pt_cmpR op_eq (pv 4) (pv 5) (nomark _)) (pw_or1 (pt_cmpR op_isZ (pv 7) pe_non (nomark _))))) (pss_one (ps_ret (pe_cmpR op_isZ (pv 6) pe_non (nomark _)))) pss_nil)
      (pss_cons (ps_if (pt_not (pt_val (pe_g G__law_same (hr.mono (by decide)) rfl pass0 (pa_cons (pv 6) (pa_cons (pv 7) pa_nil))))) (pss_one (ps_ret pe_bl)) pss_nil)
      (pss_cons (ps_for PassesOwn.never rfl (pi_range1 (by rfl) T.n_range (pa_cons (pe_op op_add (pe_ix (ixT (K := K) rfl) (pv 7) pe_int (fun _ _ => rfl)) pe_int) pa_nil)) (pg_name (i := 8) sc__law_all_prints.nd rfl (Or.inr rfl))
        (pss_cons (ps_set (i := 9) sc__law_all_prints.nd rfl (Or.inl rfl) (pe_cmg (K := K) rfl (pe_glob (v := .ref (He.ga K "Print")) rfl T.g_Print rfl) G_Print_alone (hr.mono (by decide)) pass0 (pa_cons (fldK (K := K) rfl (pv 0) rfl) (pa_cons (fldK (K := K) rfl (pv 0) rfl) (pa_cons (pe_ix (ixT (K := K) rfl) (pv 7) pe_int (fun _ _ => rfl)) (pa_cons (pv 8) pa_nil))))))
        (pss_cons (ps_setLc (i := 10) (own := [("_law_c", 12)]) rfl sc__law_all_prints.nd rfl rfl (sw_true rfl rfl rfl (by decide +kernel)) (pi_range1 (by rfl) T.n_range (pa_cons (fldK (K := K) rfl (pv 0) rfl) pa_nil)) (blkOk_by (N := N__law_all_prints) (sc := defScope s__law_all_prints) (by decide +kernel)) (fun _ _ _ _ _ => (pg_name (i := 12) sc__law_all_prints.nd rfl (Or.inr rfl))) (fun _ _ _ _ _ => pts_nil) (fun _ _ _ _ _ => (pe_lc (own := [("_law_k", 13)]) rfl sc__law_all_prints.nd (pi_range1 (by rfl) T.n_range (pa_cons (pe_op op_mul pe_int (fldK (K := K) rfl (pv 0) rfl)) pa_nil)) (blkOk_by (N := N__law_all_prints) (sc := { kind := .function, names := [(".0", .local), ("_law_c", .cell), ("range", .globalImplicit), ("_law_due", .cell), ("_law_one", .cell), ("_law_t", .cell)], isGenerator := false, isCoroutine := false }) (by decide +kernel)) (fun _ _ _ _ _ => (pg_name (i := 13) sc__law_all_prints.nd rfl (Or.inl rfl))) (fun _ _ _ _ _ => pts_nil) (fun _ _ _ _ _ => (pe_callTy call_intN (by rfl) T.n_int (by decide +kernel) (pa_cons (pe_and (pe_cmpR op_eq (pv 12) (pe_ix (ixT (K := K) rfl) (pv 7) pe_int (fun _ _ => rfl)) (nomark _)) (pe_one (pe_cmpR op_eq (pv 13) (pv 8) (nomark _)))) pa_nil))))))
        (pss_cons (ps_set (i := 11) sc__law_all_prints.nd rfl (Or.inl rfl) (pe_g G__law_first_spot (hr.mono (by decide)) rfl pass0 (pa_cons (pv 2) (pa_cons (pv 3) (pa_cons (pv 10) (pa_cons (pv 4) (pa_cons (pv 5) pa_nil)))))))
        (pss_one (ps_if (PW.pt (pw_or (pt_cmpR (op_neD (hu64 hr)) (pe_g G_alike_by (hr.mono (by decide)) rfl passL (pa_cons (pv 0) (pa_cons (pv 1) (pa_cons (pv 9) (pa_cons (pv 4) (pa_cons (pv 5) pa_nil)))))) (pv 11) (nomark _)) (pw_or1 (pt_cmpR op_ne (pe_cmpR op_isZ (pv 11) pe_non (nomark _)) (pe_cmpR op_lt (pv 8) (pe_ix (ixT (K := K) rfl) (pv 7) pe_int (fun _ _ => rfl)) (nomark _)) (nomark _))))) (pss_one (ps_ret pe_bl)) pss_nil))))))
      (pss_one (ps_ret pe_bl)))))), ?_⟩
    walk_at "zz"
    refine ⟨a, b, .int p, .int q, ws, us, L, n, L, n, rfl, S.a, S.b, S.F.wok, S.F.swap.wok, .inr ⟨rfl, rfl, none, ⟨p, q, rfl, rfl, hp, hq, hpq⟩, fun z h => (by cases h), fun _ p' q' e1 e2 v H1 s1 o1 => ?_⟩⟩
    obtain rfl : p = p' := by
      injection e1
      omega
    obtain rfl : q = q' := by
      injection e2
      omega
    have S1 := S.same s1
    walk_at "zz"
    refine ⟨l1, l2, L, n, ws, us, rfl, S.F, S1.l1, S1.l2, fun y H1b s1b o1b => ?_⟩
    walk_at "zz"
    refine v_tup fun tq H2 nq sq eq => ?_
    have s2 := s1b.trans sq
    have o2 := o1b.same sq
    have S2 := S1.same s2
    have o1' := o1.same s2
    walk_at "zz"
    refine v_if (fun h1 => ?_) (fun h1 => ?_)
    · have e : p = q := by have := of_decide_eq_true h1; omega
      rw [if_pos e] at o1'
      have e' : v = .non := o1'
      subst e'
      walk_at "zz"
      exact k _ (s1.trans s2)
    · have hne : p ≠ q := fun e => by simp [e] at h1
      rw [if_neg hne] at o1'
      walk_at "zz"
      rw [o2.isN]
      cases hcell : cell ws us with
      | none =>
        rw [hcell] at o1' o2
        have e' : v = .non := o1'
        subst e'
        refine v_ifT (by simp) ?_
        walk_at "zz"
        exact k _ (s1.trans s2)
      | some ij =>
        obtain ⟨i', j'⟩ := ij
        obtain ⟨c0, t0, rfl, rfl, _⟩ := first2_of hcell
        rw [hcell] at o1' o2
        obtain ⟨p1, rfl, ep1⟩ := id o1'
        obtain ⟨p2, rfl, ep2⟩ := id o2
        obtain ⟨hc0, ht0, _⟩ := spot_single S.F hne hcell (Nat.le_refl t0)
        have F := S.F
        have g1 := F.l1
        have g2 := F.l6
        have g3 := F.n1
        have g4 := F.n12
        refine v_ifF (by simp) ?_
        walk_at "zz"
        refine ⟨p1, _, .ref p2, dO (some (c0, t0)), dO (some (c0, t0)), rfl, ep1, ?_, o1'.dp, o2.dp, shO _, shO _, ?_⟩
        · intro x hx
          simp at hx
          rcases hx with h | h <;> exact .inl ⟨_, h⟩
        · rw [eqv_dO, decide_eq_true rfl]
          walk_at "zz"
          refine v_rng1 (t0 + 1) (by omega) (by omega) ?_
          refine v_for0 (fun i σ H' => ∃ (c1 c2 c3 c4 c5 c6 : Option V), σ = [some (.ref a), some (.ref b), some (.ref l1), some (.ref l2), some (.int p), some (.int q), some (.ref p1), some (.ref p2), c1, c2, c3, c4, c5, c6] ∧ Same H2 H') ?_ ?_ ?_
          · exact ⟨_, _, _, _, _, _, rfl, Same.refl _⟩
          · rintro t σ H3 ht ⟨c1, c2, c3, c4, c5, c6, rfl, s3⟩
            have S3 := S2.same s3
            obtain ⟨dx, fs, pw, h1', h2', h3', h4', h5'⟩ := id S3.a
            have ep3 := s3 _ _ ep2
            have cl1 := T.c_Card
            have cl3 := T.a_Card_size
            have cl4 := T.a_Card_width
            walk_at "zz"
            refine z_cm ?_
            walk_at "zz"
            refine v_cm ?_
            walk_at "zz"
            refine ⟨L, n, c0, t, rfl, g3, g4, g1, g2, hc0, by omega, fun al H4 n4 s4 P4 => ?_⟩
            have S4 := S3.same s4
            have h14 := s4 _ _ h1'
            have ep4 := s4 _ _ ep3
            walk_at "zz"
            refine v_rng1 n rfl (by omega) ?_
            refine v_lcR (fun M i acc H' => Same H4 H' ∧ Lsts H' acc ((single n L c0 t).take i) ∧ V.ref M ∉ acc) ?_ ?_ ?_
            · intro M H5 nM s5 e5
              exact ⟨s5, .nil, by simp⟩
            · rintro M i acc H5 hi nM e5 ⟨s5, t5, nin⟩
              have h15 := s5 _ _ h14
              have ep5 := s5 _ _ ep4
              walk_at "zz"
              refine v_rng1 (2 * L) (by omega) (by omega) ?_
              refine v_lcR (fun N j acc2 H' => Same H5 H' ∧ acc2 = iL (((List.range (2 * L)).map fun k => if i = c0 ∧ k = t then (1 : Int) else 0).take j)) ?_ ?_ ?_
              · intro N H6 nN s6 e6
                exact ⟨s6, by simp [iL]⟩
              · rintro N j acc2 H6 hj nN e6 ⟨s6, rfl⟩
                have ep6 := s6 _ _ ep5
                have step : ∀ x : Int, x = (if i = c0 ∧ j = t then (1 : Int) else 0) → nAcc (fun N j acc2 H' => Same H5 H' ∧ acc2 = iL (((List.range (2 * L)).map fun k => if i = c0 ∧ k = t then (1 : Int) else 0).take j)) N (j + 1) (.int x) H6 := fun x hx => by
                  refine v_acc e6 (by rw [iL_len, List.length_take]; simp; omega) fun H7 b7 e7 => ⟨same_but s6 nN b7, ?_⟩
                  rw [List.take_add_one, List.getElem?_map, List.getElem?_range hj, hx]
                  simp [iL]
                walk_at "zz"
                refine v_if (fun h8 => ?_) (fun h8 => ?_)
                · have e8 : i = c0 := by have := of_decide_eq_true h8; omega
                  walk_at "zz"
                  refine step _ ?_
                  by_cases e9 : j = t
                  · simp [e8, e9]
                  · have : ¬ ((j : Int) = (t : Int)) := by omega
                    simp [e9, this]
                · have e8 : i ≠ c0 := fun e => by simp [e] at h8
                  walk_at "zz"
                  refine step _ ?_
                  simp [e8]
              · rintro N acc2 H6 nN e6 ⟨s6, rfl⟩
                rw [List.take_of_length_le (by simp)] at e6
                refine v_acc (s6 _ _ e5) (by rw [t5.len, List.length_take]; omega) fun H7 b7 e7 => ⟨same_but (s5.trans s6) nM b7, ?_, ?_⟩
                rotate_left
                · have nNM : N ≠ M := fun e => by
                    rw [e, e5] at nN
                    cases nN
                  intro hm
                  rcases List.mem_append.mp hm with h | h
                  · exact nin h
                  · have := List.mem_singleton.mp h
                    cases this
                    exact nNM rfl
                rw [List.take_add_one, single_get hi]
                have e56 := s6 _ _ e5
                have nNM : N ≠ M := fun e => by
                  rw [e, e5] at nN
                  cases nN
                refine Lsts.snoc ?_ (b7 _ _ nNM e6)
                exact (t5.same s6).but_ne b7 nin
            · rintro M acc H5 nM e5 ⟨s5, t5, _⟩
              rw [List.take_of_length_le (by rw [single_len]; exact Nat.le_refl _)] at t5
              have S5 := S4.same s5
              have Rs : FitR L n (single n L c0 t) := ⟨single_len, (single_ok g3 g4 g1 g2).all⟩
              walk_at "zz"
              refine ⟨l1, l2, M, acc, L, n, ws, us, single n L c0 t, p, q, rfl, F, Rs, by omega, by omega, S5.l1, S5.l2, e5, t5, fun y2 H6 s6 o6 => ?_⟩
              have S6 := S5.same s6
              have ep6 := s6 _ _ (s5 _ _ ep4)
              have P6 := (P4.same s5).same s6
              obtain ⟨_, _, hiff⟩ := spot_single F hne hcell (show t ≤ t0 by omega)
              walk_at "zz"
              refine ⟨a, b, al, .int p, .int q, ws, us, single n L c0 t, L, n, L, n, L, n, rfl, S6.a, S6.b, P6, F.wok, F.swap.wok, single_ok g3 g4 g1 g2, .inr (.inr ⟨rfl, rfl, rfl, rfl, none, ⟨p, q, rfl, rfl, hp, hq, hpq⟩, fun z h => (by cases h), fun _ p' q' e1 e2 v2 H7 s7 o7 => ?_⟩)⟩
              obtain rfl : p = p' := by
                injection e1
                omega
              obtain rfl : q = q' := by
                injection e2
                omega
              have ep7 := s7 _ _ ep6
              walk_at "zz"
              refine v_neO o7 (o6.same s7) ?_
              walk_at "zz"
              refine v_ifF (by simp) ?_
              walk_at "zz"
              rw [(o6.same s7).isN]
              refine v_ifF ?_ ?_
              · rw [Bool.not_eq_false', beq_iff_eq]
                by_cases e9 : t < t0
                · rw [decide_eq_true (hiff.mpr e9), decide_eq_true (show (t : Int) < t0 by omega)]
                · rw [decide_eq_false (fun z => e9 (hiff.mp z)), decide_eq_false (show ¬ (t : Int) < t0 by omega)]
              · walk_at "zz"
                exact ⟨_, _, _, _, _, _, rfl, s3.trans (s4.trans (s5.trans (s6.trans s7)))⟩
          · rintro σ H3 ⟨c1, c2, c3, c4, c5, c6, rfl, s3⟩
            walk_at "zz"
            exact k _ (s1.trans (s2.trans s3))
end
end Sk
namespace Sk
open PySem PySem.Spec PyProof.Rows L2
/-! step words: z one step, zz as far as it goes, at: what stands at an address -/
local macro_rules
  | `(tactic| walk_at "zz") => `(tactic| repeat first
    | (with_reducible refine z_seq ?_) | (with_reducible refine z_asg ?_) | (with_reducible refine z_gname ?_) | (with_reducible refine z_var (by with_unfolding_all rfl) ?_)
    | (with_reducible refine z_c ?_) | (with_reducible refine z_op ?_) | (with_reducible refine z_cons ?_) | (with_reducible refine z_nil ?_)
    | (with_reducible refine z_next ?_) | (with_reducible refine z_call ?_) | (with_reducible refine z_drop ?_) | (with_reducible refine z_ret ?_)
    | (with_reducible refine z_ifs ?_) | (with_reducible refine z_un ?_) | (with_reducible refine z_chain ?_) | (with_reducible refine z_rI0 ?_)
    | (with_reducible refine z_eqI ?_) | (with_reducible refine z_neI ?_) | (with_reducible refine z_eqS ?_) | (with_reducible refine z_neS ?_)
    | (with_reducible refine z_eqB ?_) | (with_reducible refine z_neB ?_) | (with_reducible refine z_test ?_) | (with_reducible refine z_tB ?_)
    | (with_reducible refine z_bl ?_) | (with_reducible refine z_and ?_) | (with_reducible refine z_or ?_) | (with_reducible refine z_not ?_)
    | (with_reducible refine z_andV ?_) | (with_reducible refine z_orV ?_) | (with_reducible refine z_notV ?_) | (with_reducible refine z_if ?_)
    | (with_reducible refine z_cb ?_) | (with_reducible refine z_part ?_) | (with_reducible refine z_noPart ?_) | (with_reducible refine z_int ?_)
    | (with_reducible refine z_sl ?_) | (with_reducible refine z_fld ?_) | (with_reducible refine z_tup ?_) | (with_reducible refine z_lst ?_)
    | (with_reducible refine z_bm ?_) | (with_reducible refine z_bm0 ?_) | (with_reducible refine z_fldS ?_) | (with_reducible refine z_rU ?_)
    | (with_reducible refine v_intI ?_) | (with_reducible refine v_intB ?_) | (with_reducible refine v_abs ?_) | (with_reducible refine v_isN ?_)
    | (with_reducible refine v_notN ?_) | (with_reducible refine v_cnt ?_) | (with_reducible refine z_make ?_) | (with_reducible refine z_tru ?_)
    | (with_reducible refine z_m1 ?_) | (with_reducible refine z_strI ?_) | (with_reducible refine z_zS ?_) | (with_reducible refine z_eS ?_)
    | (with_reducible refine v_isII ?_) | (with_reducible refine v_isIB ?_) | (with_reducible refine v_isBI ?_) | (with_reducible refine v_isBB ?_)
    | (with_reducible refine v_isNI ?_) | (with_reducible refine v_isIT ?_) | (with_reducible refine v_isST ?_) | (with_reducible refine v_isSS ?_)
    | (with_reducible refine v_isIS ?_) | (with_reducible refine z_sub ?_) | (with_reducible refine z_gcons ?_) | (with_reducible refine z_gnil ?_)
    | (with_reducible refine z_par ?_) | (with_reducible refine v_par ?_) | (with_reducible refine z_par3 ?_) | (with_reducible refine v_par3 ?_)
    | (with_reducible refine v_ipI ?_) | (with_reducible refine z_for ?_) | (with_reducible refine z_lc ?_) | (with_reducible refine z_yes ?_)
    | (with_reducible refine z_rng1 ?_) | (with_reducible refine z_rng2 ?_) | (with_reducible refine z_list ?_) | (with_reducible refine z_tupi ?_)
    | (with_reducible refine z_stri ?_) | (with_reducible refine v_istr ?_) | (with_reducible refine iteT ?_) | (with_reducible refine iteF ?_)
    | (with_reducible refine z_nT ?_) | (with_reducible refine z_nF ?_) | (with_reducible refine z_cont ?_) | (with_reducible refine z_brk ?_)
    | (with_reducible refine z_retN ?_) | (walk_at "zn"))
  | `(tactic| walk_at "zn") => `(tactic| first
    | ((with_reducible refine' v_ixL ?k1 ?k2 ?_); (case k1 => walk_at "sq"); (case k2 => rfl)) | ((with_reducible refine' v_ixT ?k1 ?k2 ?_); (case k1 => walk_at "st"); (case k2 => rfl)) | ((with_reducible refine' v_lenL ?k1 ?_); (case k1 => walk_at "sq")) | ((with_reducible refine' v_lenT ?k1 ?_); (case k1 => walk_at "st"))
    | ((with_reducible refine' v_slS ?k1 ?_); (case k1 => (rw [enc_len]; exact small (by omega)))) | ((with_reducible refine' v_lenS ?k1 ?_); (case k1 => (rw [enc_len]; exact small (by omega)))) | ((with_reducible refine' v_slL ?k1 ?_); (case k1 => walk_at "sq")) | ((with_reducible refine' z_tyL ?k1 ?_); (case k1 => walk_at "at"))
    | ((with_reducible refine' v_fld ?k1 ?k2 ?k3 ?k4 ?_); (case k1 => walk_at "at"); (case k2 => assumption); (case k3 => assumption); (case k4 => first | assumption | rfl)) | ((with_reducible refine' v_truL ?k1 ?_); (case k1 => walk_at "at")) | ((with_reducible refine' z_wipe ?k1 ?_); (case k1 => rfl)) | ((with_reducible refine' v_gtup ?k1 ?k2 ?_); (case k1 => walk_at "st"); (case k2 => rfl))
    | ((with_reducible refine' z_aug ?k1 ?_); (case k1 => rfl)) | ((with_reducible refine' v_ilist ?k1 ?_); (case k1 => walk_at "sq")) | ((with_reducible refine' v_itup ?k1 ?_); (case k1 => walk_at "st")) | ((with_reducible refine' z_rI ?k1 ?_); (case k1 => first | (show (_ : Int) ≠ _; omega) | exact .inl ⟨by decide, by decide⟩ | exact .inr ⟨by decide, by decide⟩ | exact ⟨by decide, by decide⟩ | exact .inl ⟨by omega, by omega⟩ | exact .inr ⟨by omega, by omega⟩))
    | ((with_reducible refine' z_var ?hv ?_); (case hv => rfl)))
  | `(tactic| walk_at "at") => `(tactic| first
    | assumption
    | ((with_reducible refine' same_at ?k1 ?k2); (case k1 => assumption); (case k2 => walk_at "at"))
    | ((with_reducible refine' but_at ?k1 ?k2 ?k3); (case k1 => assumption); (case k2 => first | assumption | (apply Ne.symm; assumption)); (case k3 => walk_at "at")))
  | `(tactic| walk_at "sq") => `(tactic| first
    | assumption
    | (refine' SqL.of ?k1; (case k1 => walk_at "at"))
    | ((with_reducible refine' Same.seq ?k1 ?k2); (case k1 => assumption); (case k2 => walk_at "sq")))
  | `(tactic| walk_at "st") => `(tactic| first
    | assumption
    | (refine' SqT.of ?k1; (case k1 => walk_at "at"))
    | ((with_reducible refine' same_tup ?k1 ?k2); (case k1 => assumption); (case k2 => walk_at "st")))
  | `(tactic| walk_at "sa") => `(tactic| first
    | assumption
    | exact Same.refl _
    | (refine' Same.trans ?k1 ?k2; (case k2 => assumption); (case k1 => walk_at "sa")))
/-! _law_wrong. -/
open ClX (tCMeth)
abbrev s__law_wrong : Stmt := top 72
abbrev N__law_wrong : List Str := ["_law_bag_here", "_law_one", "_law_printed", "_law_size", "_law_width", "_law_word_here", "_law_odd", "_law_misfit", "_law_bad", "_law_p", "_law_q", "_law_what", "_law_first", "_law_second", "_law_due"]
theorem sc__law_wrong : FnScope N__law_wrong ["_law_bag_here", "_law_one", "_law_printed"] (defScope s__law_wrong) := ⟨rfl, rfl, rfl, by decide +kernel, rfl, by decide +kernel, by decide +kernel⟩
def peak (L : Nat) : List Bool := List.replicate L true ++ List.replicate L false
theorem six {L : Nat} (h : 1 ≤ L) (h6 : L ≤ 6) : L = 1 ∨ L = 2 ∨ L = 3 ∨ L = 4 ∨ L = 5 ∨ L = 6 := by omega
theorem peak_ok {L : Nat} (h : 1 ≤ L) (h6 : L ≤ 6) : IsW L (peak L) := by
  rcases six h h6 with rfl | rfl | rfl | rfl | rfl | rfl <;> exact ⟨rfl, rfl, by decide⟩
theorem mul_d {L : Nat} (h : 1 ≤ L) (h6 : L ≤ 6) : Txt.mul "d" (L : Int) = enc (List.replicate L true) := by
  rcases six h h6 with rfl | rfl | rfl | rfl | rfl | rfl <;> decide +kernel
theorem mul_o {L : Nat} (h : 1 ≤ L) (h6 : L ≤ 6) : Txt.mul "o" (L : Int) = enc (List.replicate L false) := by
  rcases six h h6 with rfl | rfl | rfl | rfl | rfl | rfl <;> decide +kernel
theorem inner {L : Nat} (h : 2 ≤ L) (h6 : L ≤ 6) : cutS (enc (peak L)) (some 1) (some (-1)) = enc (peak (L - 1)) := by
  rcases six (by omega) h6 with rfl | rfl | rfl | rfl | rfl | rfl
  · omega
  all_goals decide +kernel
theorem mulok_d {L : Nat} (h : 1 ≤ L) (h6 : L ≤ 6) : MulOk "d" (L : Int) := by
  rcases six h h6 with rfl | rfl | rfl | rfl | rfl | rfl <;> exact ⟨by decide +kernel, by decide +kernel, by decide +kernel⟩
theorem mulok_o {L : Nat} (h : 1 ≤ L) (h6 : L ≤ 6) : MulOk "o" (L : Int) := by
  rcases six h h6 with rfl | rfl | rfl | rfl | rfl | rfl <;> exact ⟨by decide +kernel, by decide +kernel, by decide +kernel⟩
def lay (o : Option (List Str)) : Prop := ∀ zs, o = some zs → PyData.canLayAll0 (zs.map .str) = true
theorem lay_cards : lay (rV "cards") := by
  rintro zs h
  cases h
  decide +kernel
theorem lay_print : lay (rV "print") := by
  rintro zs h
  cases h
  decide +kernel
def WS (o : Option Str) : Prop := o = none ∨ o = some "both" ∨ o = some "p" ∨ o = some "q"
theorem lay_rS {o : Option Str} (h : WS o) : lay (rS o) := by
  rcases h with rfl | rfl | rfl | rfl
  · intro zs h
    cases h
  all_goals
    intro zs h
    cases h
    decide +kernel
def what_ (o : Option Str) : V := match o with
  | none => .non
  | some z => .str z
/-- a slope and what is wrong with it -/
def Triple (H : Hp) (v : V) : Prop := ∃ p x y o, v = .ref p ∧ H p = some (.tup [x, y, what_ o]) ∧ Slope x y o ∧ WS o
theorem Triple.same {H H' : Hp} {v : V} (t : Triple H v) (s : Same H H') : Triple H' v := by
  obtain ⟨p, x, y, o, e, h, r⟩ := t
  exact ⟨p, x, y, o, e, s _ _ h, r⟩
theorem Triple.but {H H' : Hp} {v : V} {l : Addr} {xs : List V} (t : Triple H v) (s : But l H H') (hl : H l = some (.lst xs)) : Triple H' v := by
  obtain ⟨p, x, y, o, e, h, r⟩ := t
  exact ⟨p, x, y, o, e, s _ _ (fun e => by rw [e, hl] at h; cases h) h, r⟩
theorem rep_words (k : Nat) (v : List Bool) : (List.replicate k [encV v]).flatten = wL (List.replicate k v) := by
  induction k with
  | zero => rfl
  | succ k ih =>
    rw [List.replicate_succ, List.flatten_cons, ih, List.replicate_succ]
    rfl
def Pair2 (a o : Addr) (H : Hp) (v : V) : Prop := ∃ p x y, v = .ref p ∧ H p = some (.tup [.ref x, .ref y]) ∧ ((a = x ∧ o = y) ∨ (o = x ∧ a = y))
theorem Pair2.same {a o : Addr} {H H' : Hp} {v : V} (t : Pair2 a o H v) (s : Same H H') : Pair2 a o H' v := by
  obtain ⟨p, x, y, e, h, r⟩ := t
  exact ⟨p, x, y, e, s _ _ h, r⟩
def spWrong (K : PySem.W.Frag) : Sp := fun vs H Q _ => ∃ (b a c : Addr) (ws : Ws) (rs : Rs) (L n : Nat), vs = [.ref b, .ref a, .ref c] ∧ Bag H b ∧ CardAt K H a ws L n ∧ PrintAt K H c rs L n ∧ WsOk L n ws ∧ RsOk L n rs ∧ ∀ H', Q (.bl true) H'
section
variable {P : Program} {w : World} {K : PySem.W.Frag} {mg : Str → Option Value} {base : Heap}
theorem ok__law_wrong (D : DefAt K mg "_law_wrong" ["_law_bag_here", "_law_one", "_law_printed"] s__law_wrong) (T : Tx K mg)
    (G__law_card : Glo P w K mg base CX0 6 "_law_card" ["_law_words", "_law_marks_here"] (spCard K)) (M_Print : MkG P w K mg base CX0 3 "Print" (spPrintI K)) (G__law_take : Glo P w K mg base CX0 1 "_law_take" ["_law_bag_here", "_law_many"] spTake) (G__law_pick : Glo P w K mg base CX0 2 "_law_pick" ["_law_bag_here", "_law_some"] spPick)
    (G__law_refused : Glo P w K mg base CX0 7 "_law_refused" ["_law_how", "_law_one", "_law_other", "_law_printed", "_law_p", "_law_q"] (spRefused K)) :
    Glo P w K mg base CX0 8 "_law_wrong" ["_law_bag_here", "_law_one", "_law_printed"] (spWrong K) := by
  refine D.ok 7 sc__law_wrong (fun vs H Q E h => ?_) (fun f cdv A outer s H vs Q E hr h => ?_)
  · obtain ⟨b, a, c, ws, rs, L, n, rfl, _⟩ := h
    rfl
  · obtain ⟨b, a, c, ws, rs, L, n, rfl, B, Ca, Pc, W, R, k⟩ := h
    have l1 := W.l1
    have l6 := W.l6
    have n1 := W.n1
    have n12 := W.n12
    obtain ⟨dx, fs, pw, h1, h2, h3, h4, h5⟩ := id Ca
    obtain ⟨dx', fs', p', xs, g1, g2, g3, g4, g5, g6⟩ := id Pc
    have cl1 := T.c_Card
    have cl2 := T.c_Print
    have cl3 := T.a_Card_size
    have cl4 := T.a_Card_width
    have cl8 := T.a_Print_inks
    refine ⟨_, (pss_cons (ps_par (i := 3) (j := 4) (by rfl) sc__law_wrong.nd rfl rfl (by decide) rfl rfl (pa_cons (fldK (K := K) rfl (pv 1) rfl) (pa_cons (fldK (K := K) rfl (pv 1) rfl) pa_nil)) (by rfl))
      (pss_cons (ps_set (i := 5) sc__law_wrong.nd rfl (Or.inl rfl) (pe_op op_addS (pe_op op_mulS pe_str (pv 3)) (pe_op op_mulS pe_str (pv 3))))
      (pss_cons (ps_if (pt_cmpR op_lt (pv 4) pe_int (nomark _)) (pss_one (ps_par (i := 6) (j := 7) (by rfl) sc__law_wrong.nd rfl rfl (by decide) rfl rfl (pa_cons (pe_g G__law_card (hr.mono (by decide)) rfl pass0 (pa_cons (pe_op op_rep (pe_lst (pa_cons (pv 5) pa_nil)) (pe_op op_add (pv 4) pe_int)) (pa_cons (pe_lst pa_nil) pa_nil))) (pa_cons (pe_mkg (K := K) rfl M_Print (hr.mono (by decide)) rfl pass0 (pa_cons (pe_op op_cat (pe_callTy (lstK (K := K) rfl) (by rfl) T.n_list (by decide +kernel) (pa_cons (fldK (K := K) rfl (pv 2) rfl) pa_nil)) (pe_lst (pa_cons (pe_ix (ixT (K := K) rfl) (fldK (K := K) rfl (pv 2) rfl) pe_int (fun _ _ => rfl)) pa_nil))) pa_nil)) pa_nil)) (by rfl))) (pss_one (ps_par (i := 6) (j := 7) (by rfl) sc__law_wrong.nd rfl rfl (by decide) rfl rfl (pa_cons (pe_g G__law_card (hr.mono (by decide)) rfl pass0 (pa_cons (pe_op op_rep (pe_lst (pa_cons (pv 5) pa_nil)) (pe_op op_sub (pv 4) pe_int)) (pa_cons (pe_lst pa_nil) pa_nil))) (pa_cons (pe_mkg (K := K) rfl M_Print (hr.mono (by decide)) rfl pass0 (pa_cons (pe_slice sl_list (pe_callTy (lstK (K := K) rfl) (by rfl) T.n_list (by decide +kernel) (pa_cons (fldK (K := K) rfl (pv 2) rfl) pa_nil)) (po_some pe_int) po_none) pa_nil)) pa_nil)) (by rfl))))
      (pss_cons (ps_if (PW.pt (pw_and (pt_cmpR op_gt (pv 3) pe_int (nomark _)) (pw_and1 (pt_cmpR op_eq (pe_g G__law_take (hr.mono (by decide)) rfl pass0 (pa_cons (pv 0) (pa_cons pe_int pa_nil))) pe_int (nomark _))))) (pss_one (ps_set (i := 6) sc__law_wrong.nd rfl (Or.inl rfl) (pe_g G__law_card (hr.mono (by decide)) rfl pass0 (pa_cons (pe_op op_rep (pe_lst (pa_cons (pe_slice sl_str (pv 5) (po_some pe_int) (po_some (pe_un un_neg pe_int))) pa_nil)) (pv 4)) (pa_cons (pe_lst pa_nil) pa_nil))))) pss_nil)
      (pss_cons (ps_set (i := 8) sc__law_wrong.nd rfl (Or.inl rfl) (pe_g G__law_pick (hr.mono (by decide)) rfl pass0 (pa_cons (pv 0) (pa_cons (pe_lst (pa_cons (pe_tup (pa_cons pe_int (pa_cons pe_int (pa_cons pe_str pa_nil)))) (pa_cons (pe_tup (pa_cons pe_int (pa_cons pe_int (pa_cons pe_str pa_nil)))) (pa_cons (pe_tup (pa_cons (pe_un un_neg pe_int) (pa_cons pe_int (pa_cons pe_str pa_nil)))) (pa_cons (pe_tup (pa_cons pe_int (pa_cons pe_non (pa_cons pe_str pa_nil)))) (pa_cons (pe_tup (pa_cons pe_bl (pa_cons pe_int (pa_cons pe_str pa_nil)))) pa_nil)))))) pa_nil))))
      (pss_cons (ps_for PassesOwn.never rfl (pi_tup (pe_tup (pa_cons (pe_tup (pa_cons pe_int (pa_cons pe_int (pa_cons pe_non pa_nil)))) (pa_cons (pv 8) pa_nil)))) (pg_tupK (K := K) 3 rfl rfl (pgs_cons (pg_name (i := 9) sc__law_wrong.nd rfl (Or.inl rfl)) (pgs_cons (pg_name (i := 10) sc__law_wrong.nd rfl (Or.inl rfl)) (pgs_cons (pg_name (i := 11) sc__law_wrong.nd rfl (Or.inl rfl)) pgs_nil))))
        (pss_cons (ps_for PassesOwn.never rfl (pi_tup (pe_tup (pa_cons (pe_tup (pa_cons (pv 1) (pa_cons (pv 6) pa_nil))) (pa_cons (pe_tup (pa_cons (pv 6) (pa_cons (pv 1) pa_nil))) pa_nil)))) (pg_tupK (K := K) 2 rfl rfl (pgs_cons (pg_name (i := 12) sc__law_wrong.nd rfl (Or.inl rfl)) (pgs_cons (pg_name (i := 13) sc__law_wrong.nd rfl (Or.inl rfl)) pgs_nil)))
          (pss_cons (ps_if (pt_cmpR (op_neD (hu64 hr)) (pe_g G__law_refused (hr.mono (by decide)) rfl pass0 (pa_cons pe_str (pa_cons (pv 12) (pa_cons (pv 13) (pa_cons pe_non (pa_cons (pv 9) (pa_cons (pv 10) pa_nil))))))) (pe_tup (pa_cons pe_str (pa_cons pe_str pa_nil))) (nomark _)) (pss_one (ps_ret pe_bl)) pss_nil)
          (pss_one (ps_if (pt_cmpR (op_neD (hu64 hr)) (pe_g G__law_refused (hr.mono (by decide)) rfl pass0 (pa_cons pe_str (pa_cons (pv 12) (pa_cons (pv 13) (pa_cons (pv 7) (pa_cons (pv 9) (pa_cons (pv 10) pa_nil))))))) (pe_tup (pa_cons pe_str (pa_cons pe_str pa_nil))) (nomark _)) (pss_one (ps_ret pe_bl)) pss_nil))))
        (pss_cons (ps_if (pt_cmpR (op_neD (hu64 hr)) (pe_g G__law_refused (hr.mono (by decide)) rfl pass0 (pa_cons pe_str (pa_cons (pv 1) (pa_cons (pv 1) (pa_cons (pv 7) (pa_cons (pv 9) (pa_cons (pv 10) pa_nil))))))) (pe_tup (pa_cons pe_str (pa_cons pe_str pa_nil))) (nomark _)) (pss_one (ps_ret pe_bl)) pss_nil)
        (pss_cons (ps_set (i := 14) sc__law_wrong.nd rfl (Or.inl rfl) (pe_ifExp (pt_cmpR op_isZ (pv 11) pe_non (nomark _)) pe_non (pe_tup (pa_cons pe_str (pa_cons (pv 11) pa_nil)))))
        (pss_one (ps_if (PW.pt (pw_or (pt_cmpR (op_neD (hu64 hr)) (pe_g G__law_refused (hr.mono (by decide)) rfl pass0 (pa_cons pe_str (pa_cons (pv 1) (pa_cons (pv 1) (pa_cons pe_non (pa_cons (pv 9) (pa_cons (pv 10) pa_nil))))))) (pv 14) (nomark _)) (pw_or1 (pt_cmpR (op_neD (hu64 hr)) (pe_g G__law_refused (hr.mono (by decide)) rfl pass0 (pa_cons pe_str (pa_cons (pv 1) (pa_cons (pv 1) (pa_cons (pv 2) (pa_cons (pv 9) (pa_cons (pv 10) pa_nil))))))) (pv 14) (nomark _))))) (pss_one (ps_ret pe_bl)) pss_nil))))))
      (pss_cons (ps_if (pt_cmpR (op_neD (hu64 hr)) (pe_g G__law_refused (hr.mono (by decide)) rfl pass0 (pa_cons pe_str (pa_cons (pv 6) (pa_cons (pv 1) (pa_cons (pv 7) (pa_cons pe_int (pa_cons pe_int pa_nil))))))) (pe_tup (pa_cons pe_str (pa_cons pe_str pa_nil))) (nomark _)) (pss_one (ps_ret pe_bl)) pss_nil)
      (pss_one (ps_ret (pe_and (pe_cmpR (op_eqD (hu64 hr)) (pe_g G__law_refused (hr.mono (by decide)) rfl pass0 (pa_cons pe_str (pa_cons (pv 1) (pa_cons (pv 1) (pa_cons (pv 7) (pa_cons pe_int (pa_cons pe_int pa_nil))))))) (pe_tup (pa_cons pe_str (pa_cons pe_str pa_nil))) (nomark _)) (pe_one (pe_cmpR op_isZ (pe_g G__law_refused (hr.mono (by decide)) rfl pass0 (pa_cons pe_str (pa_cons (pv 1) (pa_cons (pv 1) (pa_cons (pv 2) (pa_cons pe_int (pa_cons pe_int pa_nil))))))) pe_non (nomark _))))))))))))), ?_⟩
    walk_at "zz"
    refine ⟨_, _, rfl, rfl, mulok_d l1 l6, ?_⟩
    rw [mul_d l1 l6]
    walk_at "zz"
    refine ⟨_, _, rfl, rfl, mulok_o l1 l6, ?_⟩
    rw [mul_o l1 l6]
    refine v_addS (by rw [enc_len, enc_len]; simp; omega) ?_
    rw [enc_app, show List.replicate L true ++ List.replicate L false = peak L from rfl]
    have pk := peak_ok l1 l6
    have lpk := pk.len
    -- what is odd, what fits not
    walk_at "zz"
    refine v_if (fun h6 => ?_) (fun h6 => ?_)
    · have hn : n < 12 := by have := of_decide_eq_true h6; omega
      walk_at "zz"
      refine v_lst fun w1 I1 m1 s1 e1 => ?_
      walk_at "zz"
      refine v_rep e1 (by omega) (by omega) (by simp) fun w2 I2 m2 s2 e2 => ?_
      have e2' : I2 w2 = some (.lst (wL (List.replicate (n + 1) (peak L)))) := by
        rw [e2]
        have : ((n : Int) + 1).toNat = n + 1 := by omega
        rw [this]
        exact congrArg (fun z => some (HO.lst z)) (rep_words _ _)
      walk_at "zz"
      refine v_lst fun w3 I3 m3 s3 e3 => ?_
      walk_at "zz"
      have U : WsOk L (n + 1) (List.replicate (n + 1) (peak L)) := ⟨by omega, by omega, l1, l6, by simp, fun w' hw => by rw [(List.mem_replicate.mp hw).2]; exact pk⟩
      refine ⟨w2, w3, [], _, [], L, n + 1, rfl, s3 _ _ e2', U, e3, .nil, ⟨by simp, by simp, fun m hm => by cases hm⟩, fun o I4 m4 s4 Co => ?_⟩
      have S4 : Same H I4 := s1.trans (s2.trans (s3.trans s4))
      have g14 := S4 _ _ g1
      have g54 := S4 _ _ g5
      walk_at "zz"
      refine v_lstT (SqT.of g54) fun y1 I5 m5 s5 e5 => ?_
      have g15 := s5 _ _ g14
      have g55 := s5 _ _ g54
      obtain ⟨r0, hr0⟩ : ∃ r, rs[0]? = some r := ⟨_, List.getElem?_eq_getElem (by rw [R.len]; omega)⟩
      obtain ⟨q0, hq0, eq0⟩ := g6.get2 hr0
      walk_at "zz"
      refine v_ixT (SqT.of g55) (i := 0) (v := .ref q0) (atI_nat (j := 0) hq0) ?_
      walk_at "zz"
      refine v_lst fun y2 I6 m6 s6 e6 => ?_
      walk_at "zz"
      have lx := g6.len
      have lr := R.len
      refine v_cat (s6 _ _ e5) e6 (by simp; omega) fun y3 I7 m7 s7 e7 => ?_
      have S7 : Same H I7 := S4.trans (s5.trans (s6.trans s7))
      walk_at "zz"
      refine v_make fun mf dm I8 m8 s8 e8 => ?_
      have R2 : RsOk L (n + 1) (rs ++ [r0]) := ⟨by omega, by omega, l1, l6, by simp [lr], fun r hr => by
        rcases List.mem_append.mp hr with h | h
        · exact R.all r h
        · rw [List.mem_singleton.mp h]
          exact R.all _ (List.mem_of_getElem? hr0)⟩
      have t8 : Tups I8 (xs ++ [.ref q0]) (rs ++ [r0]) := Tups.snoc (g6.same (S7.trans s8)) (s8 _ _ (S7 _ _ eq0))
      refine ⟨mf, dm, y3, _, rs ++ [r0], L, n + 1, rfl, e8, s8 _ _ e7, t8.sqs, R2, fun HK b9 PmK => ⟨rfl, ?_⟩⟩
      have S9 : Same I7 HK := same_but s8 m8 b9
      have SM : Same H HK := S7.trans S9
      have CoM := Co.same ((s5.trans (s6.trans s7)).trans S9)
      generalize hN : n + 1 = n2 at *
      have neN : n2 ≠ n := by omega
      generalize List.replicate n2 (peak L) = us at *
      generalize rs ++ [r0] = rs2 at *
      walk_at "zz"
      refine v_if (fun h7 => ?_) (fun h7 => ?_)
      · have hL2 : 2 ≤ L := by have := of_decide_eq_true h7; omega
        walk_at "zz"
        refine ⟨b, 2, rfl, by omega, by decide, B.same SM, fun u HN u0 u1 bN BN => ?_⟩
        obtain ⟨y1', y2', y3', hy'⟩ := B.same SM
        have CaN := (Ca.same SM).but bN hy'
        have PcN := (Pc.same SM).but bN hy'
        have CoN := CoM.but bN hy'
        have PmN := PmK.but bN hy'
        walk_at "zz"
        refine v_if (fun h8 => ?_) (fun h8 => ?_)
        · walk_at "zz"
          rw [inner hL2 l6]
          walk_at "zz"
          refine v_lst fun w5 K1 m5 s5 e5 => ?_
          walk_at "zz"
          refine v_rep e5 (by omega) (by omega) (by simp) fun w6 K2 m6 s6 e6 => ?_
          have e6' : K2 w6 = some (.lst (wL (List.replicate n (peak (L - 1))))) := by
            rw [e6, Int.toNat_natCast]
            exact congrArg (fun z => some (HO.lst z)) (rep_words _ _)
          walk_at "zz"
          refine v_lst fun w7 K3 m7 s7 e7 => ?_
          walk_at "zz"
          have pk2 := peak_ok (L := L - 1) (by omega) (by omega)
          have U2 : WsOk (L - 1) n (List.replicate n (peak (L - 1))) := ⟨n1, n12, by omega, by omega, by simp, fun w' hw => by rw [(List.mem_replicate.mp hw).2]; exact pk2⟩
          refine ⟨w6, w7, [], _, [], L - 1, n, rfl, s7 _ _ e6', U2, e7, .nil, ⟨by simp, by simp, fun m hm => by cases hm⟩, fun o2 HK2 m8 s8 CoK => ?_⟩
          have SN : Same HN HK2 := s5.trans (s6.trans (s7.trans s8))
          have CaK := CaN.same SN
          have PcK := PcN.same SN
          have PmK2 := PmN.same SN
          have BK := BN.same SN
          have neO : ¬ (L - 1 = L ∧ n = n) := by omega
          have neO' : ¬ (L = L - 1 ∧ n = n) := by omega
          have UU := U2
          generalize List.replicate n (peak (L - 1)) = us2 at *
          generalize L - 1 = L2 at *
          clear U CoM CoN pk2
          generalize o2 = od at *
          walk_at "zz"
          refine v_tup fun b1 J1 m1 s1' f1 => ?_
          walk_at "zz"
          refine v_tup fun b2 J2 m2 s2' f2 => ?_
          walk_at "zz"
          refine v_tup fun b3 J3 m3 s3' f3 => ?_
          walk_at "zz"
          refine v_tup fun b4 J4 m4 s4' f4 => ?_
          walk_at "zz"
          refine v_tup fun b5 J5 m5 s5' f5 => ?_
          walk_at "zz"
          refine v_lst fun bl J6 m6 s6' f6 => ?_
          have SJ := s1'.trans (s2'.trans (s3'.trans (s4'.trans (s5'.trans s6'))))
          have BJ := BK.same SJ
          have t1 : Triple J6 (.ref b1) := ⟨b1, _, _, some "both", rfl, s6' _ _ (s5' _ _ (s4' _ _ (s3' _ _ (s2' _ _ f1)))), .inr (.inr ⟨rfl, rfl, rfl⟩), .inr (.inl rfl)⟩
          have t2 : Triple J6 (.ref b2) := ⟨b2, _, _, some "p", rfl, s6' _ _ (s5' _ _ (s4' _ _ (s3' _ _ f2))), .inl ⟨rfl, .inl ⟨10, rfl, by decide⟩⟩, .inr (.inr (.inl rfl))⟩
          have t3 : Triple J6 (.ref b3) := ⟨b3, _, _, some "p", rfl, s6' _ _ (s5' _ _ (s4' _ _ f3)), .inl ⟨rfl, .inl ⟨-1, rfl, by decide⟩⟩, .inr (.inr (.inl rfl))⟩
          have t4 : Triple J6 (.ref b4) := ⟨b4, _, _, some "q", rfl, s6' _ _ (s5' _ _ f4), .inr (.inl ⟨rfl, ⟨3, rfl, by decide⟩, .inr (.inr rfl)⟩), .inr (.inr (.inr rfl))⟩
          have t5 : Triple J6 (.ref b5) := ⟨b5, _, _, some "p", rfl, s6' _ _ f5, .inl ⟨rfl, .inr (.inl ⟨true, rfl⟩)⟩, .inr (.inr (.inl rfl))⟩
          walk_at "zz"
          refine ⟨b, bl, _, rfl, f6, (BK.same (s1'.trans (s2'.trans (s3'.trans (s4'.trans s5'))))).ne m6, by simp, by simp, BJ, fun bad J7 hbad s7' B7 => ?_⟩
          have tb : Triple J7 bad := by
            have tb6 : Triple J6 bad := by
              simp only [List.mem_cons, List.mem_nil_iff, or_false] at hbad
              rcases hbad with rfl | rfl | rfl | rfl | rfl <;> assumption
            obtain ⟨z1, z2, z3, hz⟩ := BJ
            exact tb6.but s7' hz
          obtain ⟨z1, z2, z3, hz⟩ := id BJ
          have Ca7 := (CaK.same SJ).but s7' hz
          have Co7 := (CoK.same SJ).but s7' hz
          have Pc7 := (PcK.same SJ).but s7' hz
          have Pm7 := (PmK2.same SJ).but s7' hz
          walk_at "zz"
          refine v_tup fun t0 J8 m8 s8' f8 => ?_
          have t80 : Triple J8 (.ref t0) := ⟨t0, _, _, none, rfl, f8, ⟨1, 0, rfl, rfl, by decide, by decide, by decide⟩, .inl rfl⟩
          have t81 := tb.same s8'
          walk_at "zz"
          refine v_tup fun tt J9 m9 s9' f9 => ?_
          have S9 := s8'.trans s9'
          have Ca9 := Ca7.same S9
          have Co9 := Co7.same S9
          have Pc9 := Pc7.same S9
          have Pm9 := Pm7.same S9
          have t90 := t80.same s9'
          have t91 := t81.same s9'
          walk_at "zz"
          refine v_forT (xs := [.ref t0, bad]) (fun i σ H' => ∃ (c9 c10 c11 c12 c13 c14 : Option V), σ = [some (.ref b), some (.ref a), some (.ref c), some (.int L), some (.int n), some (encV (peak L)), some (.ref od), some (.ref mf), some bad, c9, c10, c11, c12, c13, c14] ∧ Same J9 H') ?_ ?_ ?_ ?_
          · exact ⟨_, _, _, _, _, _, rfl, Same.refl _⟩
          · rintro i σ H' ⟨c9, c10, c11, c12, c13, c14, rfl, s⟩
            exact SqT.of (s _ _ f9)
          · rintro i v σ J10 hv ⟨c9, c10, c11, c12, c13, c14, rfl, s10'⟩
            have tv : Triple J10 v := by
              match i, hv with
              | 0, hv => cases hv; exact t90.same s10'
              | 1, hv => cases hv; exact t91.same s10'
              | i + 2, hv => cases hv
            obtain ⟨pv, x, y, oo, rfl, hpv, Sl, Wo⟩ := tv
            have Ca10 := Ca9.same s10'
            have Co10 := Co9.same s10'
            have Pc10 := Pc9.same s10'
            have Pm10 := Pm9.same s10'
            walk_at "zz"
            refine v_tup fun i1 J11 m11 s11 f11 => ?_
            walk_at "zz"
            refine v_tup fun i2 J12 m12 s12 f12 => ?_
            walk_at "zz"
            refine v_tup fun i3 J13 m13 s13 f13 => ?_
            have S13 := s11.trans (s12.trans s13)
            have Ca13 := Ca10.same S13
            have Co13 := Co10.same S13
            have Pc13 := Pc10.same S13
            have Pm13 := Pm10.same S13
            have fi1 : Pair2 a od J13 (.ref i1) := ⟨i1, _, _, rfl, s13 _ _ (s12 _ _ f11), .inl ⟨rfl, rfl⟩⟩
            have fi2 : Pair2 a od J13 (.ref i2) := ⟨i2, _, _, rfl, s13 _ _ f12, .inr ⟨rfl, rfl⟩⟩
            walk_at "zz"
            refine v_forT (xs := [.ref i1, .ref i2]) (fun i σ H' => ∃ (c12 c13 c14 : Option V), σ = [some (.ref b), some (.ref a), some (.ref c), some (.int L), some (.int n), some (encV (peak L)), some (.ref od), some (.ref mf), some bad, some x, some y, some (what_ oo), c12, c13, c14] ∧ Same J13 H') ?_ ?_ ?_ ?_
            · exact ⟨_, _, _, rfl, Same.refl _⟩
            · rintro i σ H' ⟨c12, c13, c14, rfl, s⟩
              exact SqT.of (s _ _ f13)
            · rintro i v σ J14 hv ⟨c12, c13, c14, rfl, s14'⟩
              have fv : Pair2 a od J14 v := by
                match i, hv with
                | 0, hv => cases hv; exact fi1.same s14'
                | 1, hv => cases hv; exact fi2.same s14'
                | i + 2, hv => cases hv
              obtain ⟨pq, u1', u2', rfl, hpq, fs2⟩ := fv
              have Ca14 := Ca13.same s14'
              have Co14 := Co13.same s14'
              have Pm14 := Pm13.same s14'
              rcases fs2 with ⟨rfl, rfl⟩ | ⟨rfl, rfl⟩
              · walk_at "zz"
                refine ⟨_, a, od, _, x, y, ws, _, L, n, _, _, rV "cards", rfl, Ca14, Co14, W, UU, .inl ⟨rfl, .inl ⟨neO, rfl⟩⟩, fun v1 J15 s15 o15 => ?_⟩
                walk_at "zz"
                refine v_tup fun d1 J16 m16 s16 f16 => ?_
                walk_at "zz"
                refine v_neOS (o15.same s16) (o' := rV "cards") ⟨d1, rfl, f16⟩ lay_cards lay_cards ?_
                walk_at "zz"
                refine v_ifF (by simp) ?_
                walk_at "zz"
                refine ⟨_, a, od, _, x, y, ws, _, L, n, _, _, rV "cards", rfl, (Ca14.same s15).same s16, (Co14.same s15).same s16, W, UU, .inr ⟨mf, _, _, _, rfl, (Pm14.same s15).same s16, R2, .inl ⟨rfl, .inl ⟨neO, rfl⟩⟩⟩, fun v2 J17 s17 o17 => ?_⟩
                walk_at "zz"
                refine v_tup fun d2 J18 m18 s18 f18 => ?_
                walk_at "zz"
                refine v_neOS (o17.same s18) (o' := rV "cards") ⟨d2, rfl, f18⟩ lay_cards lay_cards ?_
                walk_at "zz"
                refine v_ifF (by simp) ?_
                walk_at "zz"
                exact ⟨_, _, _, rfl, s14'.trans (s15.trans (s16.trans (s17.trans s18)))⟩
              · walk_at "zz"
                refine ⟨_, od, a, _, x, y, _, ws, _, _, L, n, rV "cards", rfl, Co14, Ca14, UU, W, .inl ⟨rfl, .inl ⟨neO', rfl⟩⟩, fun v1 J15 s15 o15 => ?_⟩
                walk_at "zz"
                refine v_tup fun d1 J16 m16 s16 f16 => ?_
                walk_at "zz"
                refine v_neOS (o15.same s16) (o' := rV "cards") ⟨d1, rfl, f16⟩ lay_cards lay_cards ?_
                walk_at "zz"
                refine v_ifF (by simp) ?_
                walk_at "zz"
                refine ⟨_, od, a, _, x, y, _, ws, _, _, L, n, rV "cards", rfl, (Co14.same s15).same s16, (Ca14.same s15).same s16, UU, W, .inr ⟨mf, _, _, _, rfl, (Pm14.same s15).same s16, R2, .inl ⟨rfl, .inl ⟨neO', rfl⟩⟩⟩, fun v2 J17 s17 o17 => ?_⟩
                walk_at "zz"
                refine v_tup fun d2 J18 m18 s18 f18 => ?_
                walk_at "zz"
                refine v_neOS (o17.same s18) (o' := rV "cards") ⟨d2, rfl, f18⟩ lay_cards lay_cards ?_
                walk_at "zz"
                refine v_ifF (by simp) ?_
                walk_at "zz"
                exact ⟨_, _, _, rfl, s14'.trans (s15.trans (s16.trans (s17.trans s18)))⟩
            · rintro σ J14 ⟨c12, c13, c14, rfl, s14'⟩
              have Ca14 := Ca13.same s14'
              have Pm14 := Pm13.same s14'
              have Pc14 := Pc13.same s14'
              walk_at "zz"
              refine ⟨_, a, a, _, x, y, ws, ws, L, n, L, n, rV "print", rfl, Ca14, Ca14, W, W, .inr ⟨mf, _, _, _, rfl, Pm14, R2, .inl ⟨rfl, .inr (.inl ⟨rfl, rfl, fun z => neN z.2, rfl⟩)⟩⟩, fun v1 J15 s15 o15 => ?_⟩
              walk_at "zz"
              refine v_tup fun d1 J16 m16 s16 f16 => ?_
              walk_at "zz"
              refine v_neOS (o15.same s16) (o' := rV "print") ⟨d1, rfl, f16⟩ lay_print lay_print ?_
              walk_at "zz"
              refine v_ifF (by simp) ?_
              walk_at "zz"
              have S16 := s15.trans s16
              have S10 : Same J9 J16 := s10'.trans (S13.trans (s14'.trans S16))
              have Ca16 := Ca14.same S16
              have Pc16 := Pc14.same S16
              cases oo with
              | none =>
                refine v_ifT (by rfl) ?_
                walk_at "zz"
                have S10' := S10
                have Ca16' := Ca16
                have Pc16' := Pc16
                have od16 : OptS J16 V.non (rS none) := rfl
                refine ⟨_, a, a, _, x, y, ws, ws, L, n, L, n, rS none, rfl, Ca16', Ca16', W, W, .inl ⟨rfl, .inr ⟨rfl, rfl, _, Sl, rfl⟩⟩, fun v2 J17 s17 o17 => ?_⟩
                walk_at "zz"
                refine v_neOS o17 (od16.same s17) (lay_rS Wo) (lay_rS Wo) ?_
                rw [decide_eq_true rfl]
                walk_at "zz"
                refine ⟨_, a, a, _, x, y, ws, ws, L, n, L, n, rS none, rfl, Ca16'.same s17, Ca16'.same s17, W, W, .inr ⟨c, _, _, _, rfl, Pc16'.same s17, R, .inl ⟨rfl, .inr (.inr ⟨rfl, rfl, rfl, rfl, _, Sl, rfl⟩)⟩⟩, fun v3 J18 s18 o18 => ?_⟩
                walk_at "zz"
                refine v_neOS o18 ((od16.same s17).same s18) (lay_rS Wo) (lay_rS Wo) ?_
                rw [decide_eq_true rfl]
                walk_at "zz"
                exact ⟨_, _, _, _, _, _, rfl, S10'.trans (s17.trans s18)⟩
              | some z =>
                refine v_ifF (by rfl) ?_
                walk_at "zz"
                refine v_tup fun du J16b mb sb eb => ?_
                walk_at "zz"
                have S10' := S10.trans sb
                have Ca16' := Ca16.same sb
                have Pc16' := Pc16.same sb
                have od16 : OptS J16b (.ref du) (rS (some z)) := ⟨du, rfl, eb⟩
                refine ⟨_, a, a, _, x, y, ws, ws, L, n, L, n, rS (some z), rfl, Ca16', Ca16', W, W, .inl ⟨rfl, .inr ⟨rfl, rfl, _, Sl, rfl⟩⟩, fun v2 J17 s17 o17 => ?_⟩
                walk_at "zz"
                refine v_neOS o17 (od16.same s17) (lay_rS Wo) (lay_rS Wo) ?_
                rw [decide_eq_true rfl]
                walk_at "zz"
                refine ⟨_, a, a, _, x, y, ws, ws, L, n, L, n, rS (some z), rfl, Ca16'.same s17, Ca16'.same s17, W, W, .inr ⟨c, _, _, _, rfl, Pc16'.same s17, R, .inl ⟨rfl, .inr (.inr ⟨rfl, rfl, rfl, rfl, _, Sl, rfl⟩)⟩⟩, fun v3 J18 s18 o18 => ?_⟩
                walk_at "zz"
                refine v_neOS o18 ((od16.same s17).same s18) (lay_rS Wo) (lay_rS Wo) ?_
                rw [decide_eq_true rfl]
                walk_at "zz"
                exact ⟨_, _, _, _, _, _, rfl, S10'.trans (s17.trans s18)⟩
          · rintro σ J10 ⟨c9, c10, c11, c12, c13, c14, rfl, s10'⟩
            have Ca10 := Ca9.same s10'
            have Co10 := Co9.same s10'
            have Pc10 := Pc9.same s10'
            have Pm10 := Pm9.same s10'
            walk_at "zz"
            refine ⟨_, od, a, _, _, _, _, ws, _, _, L, n, rV "cards", rfl, Co10, Ca10, UU, W, .inr ⟨mf, _, _, _, rfl, Pm10, R2, .inr ⟨rfl, .inl ⟨neO', rfl⟩⟩⟩, fun v1 J15 s15 o15 => ?_⟩
            walk_at "zz"
            refine v_tup fun d1 J16 m16 s16 f16 => ?_
            walk_at "zz"
            refine v_neOS (o15.same s16) (o' := rV "cards") ⟨d1, rfl, f16⟩ lay_cards lay_cards ?_
            walk_at "zz"
            refine v_ifF (by simp) ?_
            walk_at "zz"
            have S16 := s15.trans s16
            have Ca16 := Ca10.same S16
            refine ⟨_, a, a, _, _, _, ws, ws, L, n, L, n, rV "print", rfl, Ca16, Ca16, W, W, .inr ⟨mf, _, _, _, rfl, Pm10.same S16, R2, .inr ⟨rfl, .inr (.inl ⟨rfl, rfl, fun z => neN z.2, rfl⟩)⟩⟩, fun v2 J17 s17 o17 => ?_⟩
            walk_at "zz"
            refine v_tup fun d2 J18 m18 s18 f18 => ?_
            walk_at "zz"
            refine v_eqOS (o17.same s18) (o' := rV "print") ⟨d2, rfl, f18⟩ lay_print lay_print ?_
            rw [decide_eq_true rfl]
            walk_at "zz"
            have S18 := S16.trans (s17.trans s18)
            have Ca18 := Ca10.same S18
            refine ⟨_, a, a, _, _, _, ws, ws, L, n, L, n, none, rfl, Ca18, Ca18, W, W, .inr ⟨c, _, _, _, rfl, Pc10.same S18, R, .inr ⟨rfl, .inr (.inr ⟨rfl, rfl, rfl, rfl, rfl⟩)⟩⟩, fun v3 J19 s19 o19 => ?_⟩
            have e19 : v3 = .non := o19
            subst e19
            walk_at "zz"
            exact k _
        · have CaK := CaN
          have PcK := PcN
          have PmK2 := PmN
          have BK := BN
          have CoK := CoN
          have neO : ¬ (L = L ∧ n2 = n) := by omega
          have neO' : ¬ (L = L ∧ n = n2) := by omega
          have UU := U
          generalize o = od at *
          walk_at "zz"
          refine v_tup fun b1 J1 m1 s1' f1 => ?_
          walk_at "zz"
          refine v_tup fun b2 J2 m2 s2' f2 => ?_
          walk_at "zz"
          refine v_tup fun b3 J3 m3 s3' f3 => ?_
          walk_at "zz"
          refine v_tup fun b4 J4 m4 s4' f4 => ?_
          walk_at "zz"
          refine v_tup fun b5 J5 m5 s5' f5 => ?_
          walk_at "zz"
          refine v_lst fun bl J6 m6 s6' f6 => ?_
          have SJ := s1'.trans (s2'.trans (s3'.trans (s4'.trans (s5'.trans s6'))))
          have BJ := BK.same SJ
          have t1 : Triple J6 (.ref b1) := ⟨b1, _, _, some "both", rfl, s6' _ _ (s5' _ _ (s4' _ _ (s3' _ _ (s2' _ _ f1)))), .inr (.inr ⟨rfl, rfl, rfl⟩), .inr (.inl rfl)⟩
          have t2 : Triple J6 (.ref b2) := ⟨b2, _, _, some "p", rfl, s6' _ _ (s5' _ _ (s4' _ _ (s3' _ _ f2))), .inl ⟨rfl, .inl ⟨10, rfl, by decide⟩⟩, .inr (.inr (.inl rfl))⟩
          have t3 : Triple J6 (.ref b3) := ⟨b3, _, _, some "p", rfl, s6' _ _ (s5' _ _ (s4' _ _ f3)), .inl ⟨rfl, .inl ⟨-1, rfl, by decide⟩⟩, .inr (.inr (.inl rfl))⟩
          have t4 : Triple J6 (.ref b4) := ⟨b4, _, _, some "q", rfl, s6' _ _ (s5' _ _ f4), .inr (.inl ⟨rfl, ⟨3, rfl, by decide⟩, .inr (.inr rfl)⟩), .inr (.inr (.inr rfl))⟩
          have t5 : Triple J6 (.ref b5) := ⟨b5, _, _, some "p", rfl, s6' _ _ f5, .inl ⟨rfl, .inr (.inl ⟨true, rfl⟩)⟩, .inr (.inr (.inl rfl))⟩
          walk_at "zz"
          refine ⟨b, bl, _, rfl, f6, (BK.same (s1'.trans (s2'.trans (s3'.trans (s4'.trans s5'))))).ne m6, by simp, by simp, BJ, fun bad J7 hbad s7' B7 => ?_⟩
          have tb : Triple J7 bad := by
            have tb6 : Triple J6 bad := by
              simp only [List.mem_cons, List.mem_nil_iff, or_false] at hbad
              rcases hbad with rfl | rfl | rfl | rfl | rfl <;> assumption
            obtain ⟨z1, z2, z3, hz⟩ := BJ
            exact tb6.but s7' hz
          obtain ⟨z1, z2, z3, hz⟩ := id BJ
          have Ca7 := (CaK.same SJ).but s7' hz
          have Co7 := (CoK.same SJ).but s7' hz
          have Pc7 := (PcK.same SJ).but s7' hz
          have Pm7 := (PmK2.same SJ).but s7' hz
          walk_at "zz"
          refine v_tup fun t0 J8 m8 s8' f8 => ?_
          have t80 : Triple J8 (.ref t0) := ⟨t0, _, _, none, rfl, f8, ⟨1, 0, rfl, rfl, by decide, by decide, by decide⟩, .inl rfl⟩
          have t81 := tb.same s8'
          walk_at "zz"
          refine v_tup fun tt J9 m9 s9' f9 => ?_
          have S9 := s8'.trans s9'
          have Ca9 := Ca7.same S9
          have Co9 := Co7.same S9
          have Pc9 := Pc7.same S9
          have Pm9 := Pm7.same S9
          have t90 := t80.same s9'
          have t91 := t81.same s9'
          walk_at "zz"
          refine v_forT (xs := [.ref t0, bad]) (fun i σ H' => ∃ (c9 c10 c11 c12 c13 c14 : Option V), σ = [some (.ref b), some (.ref a), some (.ref c), some (.int L), some (.int n), some (encV (peak L)), some (.ref od), some (.ref mf), some bad, c9, c10, c11, c12, c13, c14] ∧ Same J9 H') ?_ ?_ ?_ ?_
          · exact ⟨_, _, _, _, _, _, rfl, Same.refl _⟩
          · rintro i σ H' ⟨c9, c10, c11, c12, c13, c14, rfl, s⟩
            exact SqT.of (s _ _ f9)
          · rintro i v σ J10 hv ⟨c9, c10, c11, c12, c13, c14, rfl, s10'⟩
            have tv : Triple J10 v := by
              match i, hv with
              | 0, hv => cases hv; exact t90.same s10'
              | 1, hv => cases hv; exact t91.same s10'
              | i + 2, hv => cases hv
            obtain ⟨pv, x, y, oo, rfl, hpv, Sl, Wo⟩ := tv
            have Ca10 := Ca9.same s10'
            have Co10 := Co9.same s10'
            have Pc10 := Pc9.same s10'
            have Pm10 := Pm9.same s10'
            walk_at "zz"
            refine v_tup fun i1 J11 m11 s11 f11 => ?_
            walk_at "zz"
            refine v_tup fun i2 J12 m12 s12 f12 => ?_
            walk_at "zz"
            refine v_tup fun i3 J13 m13 s13 f13 => ?_
            have S13 := s11.trans (s12.trans s13)
            have Ca13 := Ca10.same S13
            have Co13 := Co10.same S13
            have Pc13 := Pc10.same S13
            have Pm13 := Pm10.same S13
            have fi1 : Pair2 a od J13 (.ref i1) := ⟨i1, _, _, rfl, s13 _ _ (s12 _ _ f11), .inl ⟨rfl, rfl⟩⟩
            have fi2 : Pair2 a od J13 (.ref i2) := ⟨i2, _, _, rfl, s13 _ _ f12, .inr ⟨rfl, rfl⟩⟩
            walk_at "zz"
            refine v_forT (xs := [.ref i1, .ref i2]) (fun i σ H' => ∃ (c12 c13 c14 : Option V), σ = [some (.ref b), some (.ref a), some (.ref c), some (.int L), some (.int n), some (encV (peak L)), some (.ref od), some (.ref mf), some bad, some x, some y, some (what_ oo), c12, c13, c14] ∧ Same J13 H') ?_ ?_ ?_ ?_
            · exact ⟨_, _, _, rfl, Same.refl _⟩
            · rintro i σ H' ⟨c12, c13, c14, rfl, s⟩
              exact SqT.of (s _ _ f13)
            · rintro i v σ J14 hv ⟨c12, c13, c14, rfl, s14'⟩
              have fv : Pair2 a od J14 v := by
                match i, hv with
                | 0, hv => cases hv; exact fi1.same s14'
                | 1, hv => cases hv; exact fi2.same s14'
                | i + 2, hv => cases hv
              obtain ⟨pq, u1', u2', rfl, hpq, fs2⟩ := fv
              have Ca14 := Ca13.same s14'
              have Co14 := Co13.same s14'
              have Pm14 := Pm13.same s14'
              rcases fs2 with ⟨rfl, rfl⟩ | ⟨rfl, rfl⟩
              · walk_at "zz"
                refine ⟨_, a, od, _, x, y, ws, _, L, n, _, _, rV "cards", rfl, Ca14, Co14, W, UU, .inl ⟨rfl, .inl ⟨neO, rfl⟩⟩, fun v1 J15 s15 o15 => ?_⟩
                walk_at "zz"
                refine v_tup fun d1 J16 m16 s16 f16 => ?_
                walk_at "zz"
                refine v_neOS (o15.same s16) (o' := rV "cards") ⟨d1, rfl, f16⟩ lay_cards lay_cards ?_
                walk_at "zz"
                refine v_ifF (by simp) ?_
                walk_at "zz"
                refine ⟨_, a, od, _, x, y, ws, _, L, n, _, _, rV "cards", rfl, (Ca14.same s15).same s16, (Co14.same s15).same s16, W, UU, .inr ⟨mf, _, _, _, rfl, (Pm14.same s15).same s16, R2, .inl ⟨rfl, .inl ⟨neO, rfl⟩⟩⟩, fun v2 J17 s17 o17 => ?_⟩
                walk_at "zz"
                refine v_tup fun d2 J18 m18 s18 f18 => ?_
                walk_at "zz"
                refine v_neOS (o17.same s18) (o' := rV "cards") ⟨d2, rfl, f18⟩ lay_cards lay_cards ?_
                walk_at "zz"
                refine v_ifF (by simp) ?_
                walk_at "zz"
                exact ⟨_, _, _, rfl, s14'.trans (s15.trans (s16.trans (s17.trans s18)))⟩
              · walk_at "zz"
                refine ⟨_, od, a, _, x, y, _, ws, _, _, L, n, rV "cards", rfl, Co14, Ca14, UU, W, .inl ⟨rfl, .inl ⟨neO', rfl⟩⟩, fun v1 J15 s15 o15 => ?_⟩
                walk_at "zz"
                refine v_tup fun d1 J16 m16 s16 f16 => ?_
                walk_at "zz"
                refine v_neOS (o15.same s16) (o' := rV "cards") ⟨d1, rfl, f16⟩ lay_cards lay_cards ?_
                walk_at "zz"
                refine v_ifF (by simp) ?_
                walk_at "zz"
                refine ⟨_, od, a, _, x, y, _, ws, _, _, L, n, rV "cards", rfl, (Co14.same s15).same s16, (Ca14.same s15).same s16, UU, W, .inr ⟨mf, _, _, _, rfl, (Pm14.same s15).same s16, R2, .inl ⟨rfl, .inl ⟨neO', rfl⟩⟩⟩, fun v2 J17 s17 o17 => ?_⟩
                walk_at "zz"
                refine v_tup fun d2 J18 m18 s18 f18 => ?_
                walk_at "zz"
                refine v_neOS (o17.same s18) (o' := rV "cards") ⟨d2, rfl, f18⟩ lay_cards lay_cards ?_
                walk_at "zz"
                refine v_ifF (by simp) ?_
                walk_at "zz"
                exact ⟨_, _, _, rfl, s14'.trans (s15.trans (s16.trans (s17.trans s18)))⟩
            · rintro σ J14 ⟨c12, c13, c14, rfl, s14'⟩
              have Ca14 := Ca13.same s14'
              have Pm14 := Pm13.same s14'
              have Pc14 := Pc13.same s14'
              walk_at "zz"
              refine ⟨_, a, a, _, x, y, ws, ws, L, n, L, n, rV "print", rfl, Ca14, Ca14, W, W, .inr ⟨mf, _, _, _, rfl, Pm14, R2, .inl ⟨rfl, .inr (.inl ⟨rfl, rfl, fun z => neN z.2, rfl⟩)⟩⟩, fun v1 J15 s15 o15 => ?_⟩
              walk_at "zz"
              refine v_tup fun d1 J16 m16 s16 f16 => ?_
              walk_at "zz"
              refine v_neOS (o15.same s16) (o' := rV "print") ⟨d1, rfl, f16⟩ lay_print lay_print ?_
              walk_at "zz"
              refine v_ifF (by simp) ?_
              walk_at "zz"
              have S16 := s15.trans s16
              have S10 : Same J9 J16 := s10'.trans (S13.trans (s14'.trans S16))
              have Ca16 := Ca14.same S16
              have Pc16 := Pc14.same S16
              cases oo with
              | none =>
                refine v_ifT (by rfl) ?_
                walk_at "zz"
                have S10' := S10
                have Ca16' := Ca16
                have Pc16' := Pc16
                have od16 : OptS J16 V.non (rS none) := rfl
                refine ⟨_, a, a, _, x, y, ws, ws, L, n, L, n, rS none, rfl, Ca16', Ca16', W, W, .inl ⟨rfl, .inr ⟨rfl, rfl, _, Sl, rfl⟩⟩, fun v2 J17 s17 o17 => ?_⟩
                walk_at "zz"
                refine v_neOS o17 (od16.same s17) (lay_rS Wo) (lay_rS Wo) ?_
                rw [decide_eq_true rfl]
                walk_at "zz"
                refine ⟨_, a, a, _, x, y, ws, ws, L, n, L, n, rS none, rfl, Ca16'.same s17, Ca16'.same s17, W, W, .inr ⟨c, _, _, _, rfl, Pc16'.same s17, R, .inl ⟨rfl, .inr (.inr ⟨rfl, rfl, rfl, rfl, _, Sl, rfl⟩)⟩⟩, fun v3 J18 s18 o18 => ?_⟩
                walk_at "zz"
                refine v_neOS o18 ((od16.same s17).same s18) (lay_rS Wo) (lay_rS Wo) ?_
                rw [decide_eq_true rfl]
                walk_at "zz"
                exact ⟨_, _, _, _, _, _, rfl, S10'.trans (s17.trans s18)⟩
              | some z =>
                refine v_ifF (by rfl) ?_
                walk_at "zz"
                refine v_tup fun du J16b mb sb eb => ?_
                walk_at "zz"
                have S10' := S10.trans sb
                have Ca16' := Ca16.same sb
                have Pc16' := Pc16.same sb
                have od16 : OptS J16b (.ref du) (rS (some z)) := ⟨du, rfl, eb⟩
                refine ⟨_, a, a, _, x, y, ws, ws, L, n, L, n, rS (some z), rfl, Ca16', Ca16', W, W, .inl ⟨rfl, .inr ⟨rfl, rfl, _, Sl, rfl⟩⟩, fun v2 J17 s17 o17 => ?_⟩
                walk_at "zz"
                refine v_neOS o17 (od16.same s17) (lay_rS Wo) (lay_rS Wo) ?_
                rw [decide_eq_true rfl]
                walk_at "zz"
                refine ⟨_, a, a, _, x, y, ws, ws, L, n, L, n, rS (some z), rfl, Ca16'.same s17, Ca16'.same s17, W, W, .inr ⟨c, _, _, _, rfl, Pc16'.same s17, R, .inl ⟨rfl, .inr (.inr ⟨rfl, rfl, rfl, rfl, _, Sl, rfl⟩)⟩⟩, fun v3 J18 s18 o18 => ?_⟩
                walk_at "zz"
                refine v_neOS o18 ((od16.same s17).same s18) (lay_rS Wo) (lay_rS Wo) ?_
                rw [decide_eq_true rfl]
                walk_at "zz"
                exact ⟨_, _, _, _, _, _, rfl, S10'.trans (s17.trans s18)⟩
          · rintro σ J10 ⟨c9, c10, c11, c12, c13, c14, rfl, s10'⟩
            have Ca10 := Ca9.same s10'
            have Co10 := Co9.same s10'
            have Pc10 := Pc9.same s10'
            have Pm10 := Pm9.same s10'
            walk_at "zz"
            refine ⟨_, od, a, _, _, _, _, ws, _, _, L, n, rV "cards", rfl, Co10, Ca10, UU, W, .inr ⟨mf, _, _, _, rfl, Pm10, R2, .inr ⟨rfl, .inl ⟨neO', rfl⟩⟩⟩, fun v1 J15 s15 o15 => ?_⟩
            walk_at "zz"
            refine v_tup fun d1 J16 m16 s16 f16 => ?_
            walk_at "zz"
            refine v_neOS (o15.same s16) (o' := rV "cards") ⟨d1, rfl, f16⟩ lay_cards lay_cards ?_
            walk_at "zz"
            refine v_ifF (by simp) ?_
            walk_at "zz"
            have S16 := s15.trans s16
            have Ca16 := Ca10.same S16
            refine ⟨_, a, a, _, _, _, ws, ws, L, n, L, n, rV "print", rfl, Ca16, Ca16, W, W, .inr ⟨mf, _, _, _, rfl, Pm10.same S16, R2, .inr ⟨rfl, .inr (.inl ⟨rfl, rfl, fun z => neN z.2, rfl⟩)⟩⟩, fun v2 J17 s17 o17 => ?_⟩
            walk_at "zz"
            refine v_tup fun d2 J18 m18 s18 f18 => ?_
            walk_at "zz"
            refine v_eqOS (o17.same s18) (o' := rV "print") ⟨d2, rfl, f18⟩ lay_print lay_print ?_
            rw [decide_eq_true rfl]
            walk_at "zz"
            have S18 := S16.trans (s17.trans s18)
            have Ca18 := Ca10.same S18
            refine ⟨_, a, a, _, _, _, ws, ws, L, n, L, n, none, rfl, Ca18, Ca18, W, W, .inr ⟨c, _, _, _, rfl, Pc10.same S18, R, .inr ⟨rfl, .inr (.inr ⟨rfl, rfl, rfl, rfl, rfl⟩)⟩⟩, fun v3 J19 s19 o19 => ?_⟩
            have e19 : v3 = .non := o19
            subst e19
            walk_at "zz"
            exact k _
      · have CaK := Ca.same SM
        have PcK := Pc.same SM
        have PmK2 := PmK
        have BK := B.same SM
        have CoK := CoM
        have neO : ¬ (L = L ∧ n2 = n) := by omega
        have neO' : ¬ (L = L ∧ n = n2) := by omega
        have UU := U
        generalize o = od at *
        walk_at "zz"
        refine v_tup fun b1 J1 m1 s1' f1 => ?_
        walk_at "zz"
        refine v_tup fun b2 J2 m2 s2' f2 => ?_
        walk_at "zz"
        refine v_tup fun b3 J3 m3 s3' f3 => ?_
        walk_at "zz"
        refine v_tup fun b4 J4 m4 s4' f4 => ?_
        walk_at "zz"
        refine v_tup fun b5 J5 m5 s5' f5 => ?_
        walk_at "zz"
        refine v_lst fun bl J6 m6 s6' f6 => ?_
        have SJ := s1'.trans (s2'.trans (s3'.trans (s4'.trans (s5'.trans s6'))))
        have BJ := BK.same SJ
        have t1 : Triple J6 (.ref b1) := ⟨b1, _, _, some "both", rfl, s6' _ _ (s5' _ _ (s4' _ _ (s3' _ _ (s2' _ _ f1)))), .inr (.inr ⟨rfl, rfl, rfl⟩), .inr (.inl rfl)⟩
        have t2 : Triple J6 (.ref b2) := ⟨b2, _, _, some "p", rfl, s6' _ _ (s5' _ _ (s4' _ _ (s3' _ _ f2))), .inl ⟨rfl, .inl ⟨10, rfl, by decide⟩⟩, .inr (.inr (.inl rfl))⟩
        have t3 : Triple J6 (.ref b3) := ⟨b3, _, _, some "p", rfl, s6' _ _ (s5' _ _ (s4' _ _ f3)), .inl ⟨rfl, .inl ⟨-1, rfl, by decide⟩⟩, .inr (.inr (.inl rfl))⟩
        have t4 : Triple J6 (.ref b4) := ⟨b4, _, _, some "q", rfl, s6' _ _ (s5' _ _ f4), .inr (.inl ⟨rfl, ⟨3, rfl, by decide⟩, .inr (.inr rfl)⟩), .inr (.inr (.inr rfl))⟩
        have t5 : Triple J6 (.ref b5) := ⟨b5, _, _, some "p", rfl, s6' _ _ f5, .inl ⟨rfl, .inr (.inl ⟨true, rfl⟩)⟩, .inr (.inr (.inl rfl))⟩
        walk_at "zz"
        refine ⟨b, bl, _, rfl, f6, (BK.same (s1'.trans (s2'.trans (s3'.trans (s4'.trans s5'))))).ne m6, by simp, by simp, BJ, fun bad J7 hbad s7' B7 => ?_⟩
        have tb : Triple J7 bad := by
          have tb6 : Triple J6 bad := by
            simp only [List.mem_cons, List.mem_nil_iff, or_false] at hbad
            rcases hbad with rfl | rfl | rfl | rfl | rfl <;> assumption
          obtain ⟨z1, z2, z3, hz⟩ := BJ
          exact tb6.but s7' hz
        obtain ⟨z1, z2, z3, hz⟩ := id BJ
        have Ca7 := (CaK.same SJ).but s7' hz
        have Co7 := (CoK.same SJ).but s7' hz
        have Pc7 := (PcK.same SJ).but s7' hz
        have Pm7 := (PmK2.same SJ).but s7' hz
        walk_at "zz"
        refine v_tup fun t0 J8 m8 s8' f8 => ?_
        have t80 : Triple J8 (.ref t0) := ⟨t0, _, _, none, rfl, f8, ⟨1, 0, rfl, rfl, by decide, by decide, by decide⟩, .inl rfl⟩
        have t81 := tb.same s8'
        walk_at "zz"
        refine v_tup fun tt J9 m9 s9' f9 => ?_
        have S9 := s8'.trans s9'
        have Ca9 := Ca7.same S9
        have Co9 := Co7.same S9
        have Pc9 := Pc7.same S9
        have Pm9 := Pm7.same S9
        have t90 := t80.same s9'
        have t91 := t81.same s9'
        walk_at "zz"
        refine v_forT (xs := [.ref t0, bad]) (fun i σ H' => ∃ (c9 c10 c11 c12 c13 c14 : Option V), σ = [some (.ref b), some (.ref a), some (.ref c), some (.int L), some (.int n), some (encV (peak L)), some (.ref od), some (.ref mf), some bad, c9, c10, c11, c12, c13, c14] ∧ Same J9 H') ?_ ?_ ?_ ?_
        · exact ⟨_, _, _, _, _, _, rfl, Same.refl _⟩
        · rintro i σ H' ⟨c9, c10, c11, c12, c13, c14, rfl, s⟩
          exact SqT.of (s _ _ f9)
        · rintro i v σ J10 hv ⟨c9, c10, c11, c12, c13, c14, rfl, s10'⟩
          have tv : Triple J10 v := by
            match i, hv with
            | 0, hv => cases hv; exact t90.same s10'
            | 1, hv => cases hv; exact t91.same s10'
            | i + 2, hv => cases hv
          obtain ⟨pv, x, y, oo, rfl, hpv, Sl, Wo⟩ := tv
          have Ca10 := Ca9.same s10'
          have Co10 := Co9.same s10'
          have Pc10 := Pc9.same s10'
          have Pm10 := Pm9.same s10'
          walk_at "zz"
          refine v_tup fun i1 J11 m11 s11 f11 => ?_
          walk_at "zz"
          refine v_tup fun i2 J12 m12 s12 f12 => ?_
          walk_at "zz"
          refine v_tup fun i3 J13 m13 s13 f13 => ?_
          have S13 := s11.trans (s12.trans s13)
          have Ca13 := Ca10.same S13
          have Co13 := Co10.same S13
          have Pc13 := Pc10.same S13
          have Pm13 := Pm10.same S13
          have fi1 : Pair2 a od J13 (.ref i1) := ⟨i1, _, _, rfl, s13 _ _ (s12 _ _ f11), .inl ⟨rfl, rfl⟩⟩
          have fi2 : Pair2 a od J13 (.ref i2) := ⟨i2, _, _, rfl, s13 _ _ f12, .inr ⟨rfl, rfl⟩⟩
          walk_at "zz"
          refine v_forT (xs := [.ref i1, .ref i2]) (fun i σ H' => ∃ (c12 c13 c14 : Option V), σ = [some (.ref b), some (.ref a), some (.ref c), some (.int L), some (.int n), some (encV (peak L)), some (.ref od), some (.ref mf), some bad, some x, some y, some (what_ oo), c12, c13, c14] ∧ Same J13 H') ?_ ?_ ?_ ?_
          · exact ⟨_, _, _, rfl, Same.refl _⟩
          · rintro i σ H' ⟨c12, c13, c14, rfl, s⟩
            exact SqT.of (s _ _ f13)
          · rintro i v σ J14 hv ⟨c12, c13, c14, rfl, s14'⟩
            have fv : Pair2 a od J14 v := by
              match i, hv with
              | 0, hv => cases hv; exact fi1.same s14'
              | 1, hv => cases hv; exact fi2.same s14'
              | i + 2, hv => cases hv
            obtain ⟨pq, u1', u2', rfl, hpq, fs2⟩ := fv
            have Ca14 := Ca13.same s14'
            have Co14 := Co13.same s14'
            have Pm14 := Pm13.same s14'
            rcases fs2 with ⟨rfl, rfl⟩ | ⟨rfl, rfl⟩
            · walk_at "zz"
              refine ⟨_, a, od, _, x, y, ws, _, L, n, _, _, rV "cards", rfl, Ca14, Co14, W, UU, .inl ⟨rfl, .inl ⟨neO, rfl⟩⟩, fun v1 J15 s15 o15 => ?_⟩
              walk_at "zz"
              refine v_tup fun d1 J16 m16 s16 f16 => ?_
              walk_at "zz"
              refine v_neOS (o15.same s16) (o' := rV "cards") ⟨d1, rfl, f16⟩ lay_cards lay_cards ?_
              walk_at "zz"
              refine v_ifF (by simp) ?_
              walk_at "zz"
              refine ⟨_, a, od, _, x, y, ws, _, L, n, _, _, rV "cards", rfl, (Ca14.same s15).same s16, (Co14.same s15).same s16, W, UU, .inr ⟨mf, _, _, _, rfl, (Pm14.same s15).same s16, R2, .inl ⟨rfl, .inl ⟨neO, rfl⟩⟩⟩, fun v2 J17 s17 o17 => ?_⟩
              walk_at "zz"
              refine v_tup fun d2 J18 m18 s18 f18 => ?_
              walk_at "zz"
              refine v_neOS (o17.same s18) (o' := rV "cards") ⟨d2, rfl, f18⟩ lay_cards lay_cards ?_
              walk_at "zz"
              refine v_ifF (by simp) ?_
              walk_at "zz"
              exact ⟨_, _, _, rfl, s14'.trans (s15.trans (s16.trans (s17.trans s18)))⟩
            · walk_at "zz"
              refine ⟨_, od, a, _, x, y, _, ws, _, _, L, n, rV "cards", rfl, Co14, Ca14, UU, W, .inl ⟨rfl, .inl ⟨neO', rfl⟩⟩, fun v1 J15 s15 o15 => ?_⟩
              walk_at "zz"
              refine v_tup fun d1 J16 m16 s16 f16 => ?_
              walk_at "zz"
              refine v_neOS (o15.same s16) (o' := rV "cards") ⟨d1, rfl, f16⟩ lay_cards lay_cards ?_
              walk_at "zz"
              refine v_ifF (by simp) ?_
              walk_at "zz"
              refine ⟨_, od, a, _, x, y, _, ws, _, _, L, n, rV "cards", rfl, (Co14.same s15).same s16, (Ca14.same s15).same s16, UU, W, .inr ⟨mf, _, _, _, rfl, (Pm14.same s15).same s16, R2, .inl ⟨rfl, .inl ⟨neO', rfl⟩⟩⟩, fun v2 J17 s17 o17 => ?_⟩
              walk_at "zz"
              refine v_tup fun d2 J18 m18 s18 f18 => ?_
              walk_at "zz"
              refine v_neOS (o17.same s18) (o' := rV "cards") ⟨d2, rfl, f18⟩ lay_cards lay_cards ?_
              walk_at "zz"
              refine v_ifF (by simp) ?_
              walk_at "zz"
              exact ⟨_, _, _, rfl, s14'.trans (s15.trans (s16.trans (s17.trans s18)))⟩
          · rintro σ J14 ⟨c12, c13, c14, rfl, s14'⟩
            have Ca14 := Ca13.same s14'
            have Pm14 := Pm13.same s14'
            have Pc14 := Pc13.same s14'
            walk_at "zz"
            refine ⟨_, a, a, _, x, y, ws, ws, L, n, L, n, rV "print", rfl, Ca14, Ca14, W, W, .inr ⟨mf, _, _, _, rfl, Pm14, R2, .inl ⟨rfl, .inr (.inl ⟨rfl, rfl, fun z => neN z.2, rfl⟩)⟩⟩, fun v1 J15 s15 o15 => ?_⟩
            walk_at "zz"
            refine v_tup fun d1 J16 m16 s16 f16 => ?_
            walk_at "zz"
            refine v_neOS (o15.same s16) (o' := rV "print") ⟨d1, rfl, f16⟩ lay_print lay_print ?_
            walk_at "zz"
            refine v_ifF (by simp) ?_
            walk_at "zz"
            have S16 := s15.trans s16
            have S10 : Same J9 J16 := s10'.trans (S13.trans (s14'.trans S16))
            have Ca16 := Ca14.same S16
            have Pc16 := Pc14.same S16
            cases oo with
            | none =>
              refine v_ifT (by rfl) ?_
              walk_at "zz"
              have S10' := S10
              have Ca16' := Ca16
              have Pc16' := Pc16
              have od16 : OptS J16 V.non (rS none) := rfl
              refine ⟨_, a, a, _, x, y, ws, ws, L, n, L, n, rS none, rfl, Ca16', Ca16', W, W, .inl ⟨rfl, .inr ⟨rfl, rfl, _, Sl, rfl⟩⟩, fun v2 J17 s17 o17 => ?_⟩
              walk_at "zz"
              refine v_neOS o17 (od16.same s17) (lay_rS Wo) (lay_rS Wo) ?_
              rw [decide_eq_true rfl]
              walk_at "zz"
              refine ⟨_, a, a, _, x, y, ws, ws, L, n, L, n, rS none, rfl, Ca16'.same s17, Ca16'.same s17, W, W, .inr ⟨c, _, _, _, rfl, Pc16'.same s17, R, .inl ⟨rfl, .inr (.inr ⟨rfl, rfl, rfl, rfl, _, Sl, rfl⟩)⟩⟩, fun v3 J18 s18 o18 => ?_⟩
              walk_at "zz"
              refine v_neOS o18 ((od16.same s17).same s18) (lay_rS Wo) (lay_rS Wo) ?_
              rw [decide_eq_true rfl]
              walk_at "zz"
              exact ⟨_, _, _, _, _, _, rfl, S10'.trans (s17.trans s18)⟩
            | some z =>
              refine v_ifF (by rfl) ?_
              walk_at "zz"
              refine v_tup fun du J16b mb sb eb => ?_
              walk_at "zz"
              have S10' := S10.trans sb
              have Ca16' := Ca16.same sb
              have Pc16' := Pc16.same sb
              have od16 : OptS J16b (.ref du) (rS (some z)) := ⟨du, rfl, eb⟩
              refine ⟨_, a, a, _, x, y, ws, ws, L, n, L, n, rS (some z), rfl, Ca16', Ca16', W, W, .inl ⟨rfl, .inr ⟨rfl, rfl, _, Sl, rfl⟩⟩, fun v2 J17 s17 o17 => ?_⟩
              walk_at "zz"
              refine v_neOS o17 (od16.same s17) (lay_rS Wo) (lay_rS Wo) ?_
              rw [decide_eq_true rfl]
              walk_at "zz"
              refine ⟨_, a, a, _, x, y, ws, ws, L, n, L, n, rS (some z), rfl, Ca16'.same s17, Ca16'.same s17, W, W, .inr ⟨c, _, _, _, rfl, Pc16'.same s17, R, .inl ⟨rfl, .inr (.inr ⟨rfl, rfl, rfl, rfl, _, Sl, rfl⟩)⟩⟩, fun v3 J18 s18 o18 => ?_⟩
              walk_at "zz"
              refine v_neOS o18 ((od16.same s17).same s18) (lay_rS Wo) (lay_rS Wo) ?_
              rw [decide_eq_true rfl]
              walk_at "zz"
              exact ⟨_, _, _, _, _, _, rfl, S10'.trans (s17.trans s18)⟩
        · rintro σ J10 ⟨c9, c10, c11, c12, c13, c14, rfl, s10'⟩
          have Ca10 := Ca9.same s10'
          have Co10 := Co9.same s10'
          have Pc10 := Pc9.same s10'
          have Pm10 := Pm9.same s10'
          walk_at "zz"
          refine ⟨_, od, a, _, _, _, _, ws, _, _, L, n, rV "cards", rfl, Co10, Ca10, UU, W, .inr ⟨mf, _, _, _, rfl, Pm10, R2, .inr ⟨rfl, .inl ⟨neO', rfl⟩⟩⟩, fun v1 J15 s15 o15 => ?_⟩
          walk_at "zz"
          refine v_tup fun d1 J16 m16 s16 f16 => ?_
          walk_at "zz"
          refine v_neOS (o15.same s16) (o' := rV "cards") ⟨d1, rfl, f16⟩ lay_cards lay_cards ?_
          walk_at "zz"
          refine v_ifF (by simp) ?_
          walk_at "zz"
          have S16 := s15.trans s16
          have Ca16 := Ca10.same S16
          refine ⟨_, a, a, _, _, _, ws, ws, L, n, L, n, rV "print", rfl, Ca16, Ca16, W, W, .inr ⟨mf, _, _, _, rfl, Pm10.same S16, R2, .inr ⟨rfl, .inr (.inl ⟨rfl, rfl, fun z => neN z.2, rfl⟩)⟩⟩, fun v2 J17 s17 o17 => ?_⟩
          walk_at "zz"
          refine v_tup fun d2 J18 m18 s18 f18 => ?_
          walk_at "zz"
          refine v_eqOS (o17.same s18) (o' := rV "print") ⟨d2, rfl, f18⟩ lay_print lay_print ?_
          rw [decide_eq_true rfl]
          walk_at "zz"
          have S18 := S16.trans (s17.trans s18)
          have Ca18 := Ca10.same S18
          refine ⟨_, a, a, _, _, _, ws, ws, L, n, L, n, none, rfl, Ca18, Ca18, W, W, .inr ⟨c, _, _, _, rfl, Pc10.same S18, R, .inr ⟨rfl, .inr (.inr ⟨rfl, rfl, rfl, rfl, rfl⟩)⟩⟩, fun v3 J19 s19 o19 => ?_⟩
          have e19 : v3 = .non := o19
          subst e19
          walk_at "zz"
          exact k _
    · have hn : n = 12 := by
        have : ¬ ((n : Int) < 12) := of_decide_eq_false h6
        omega
      walk_at "zz"
      refine v_lst fun w1 I1 m1 s1 e1 => ?_
      walk_at "zz"
      refine v_rep e1 (by omega) (by omega) (by simp) fun w2 I2 m2 s2 e2 => ?_
      have e2' : I2 w2 = some (.lst (wL (List.replicate (n - 1) (peak L)))) := by
        rw [e2]
        have : ((n : Int) - 1).toNat = n - 1 := by omega
        rw [this]
        exact congrArg (fun z => some (HO.lst z)) (rep_words _ _)
      walk_at "zz"
      refine v_lst fun w3 I3 m3 s3 e3 => ?_
      walk_at "zz"
      have U : WsOk L (n - 1) (List.replicate (n - 1) (peak L)) := ⟨by omega, by omega, l1, l6, by simp, fun w' hw => by rw [(List.mem_replicate.mp hw).2]; exact pk⟩
      refine ⟨w2, w3, [], _, [], L, n - 1, rfl, s3 _ _ e2', U, e3, .nil, ⟨by simp, by simp, fun m hm => by cases hm⟩, fun o I4 m4 s4 Co => ?_⟩
      have S4 : Same H I4 := s1.trans (s2.trans (s3.trans s4))
      have g14 := S4 _ _ g1
      have g54 := S4 _ _ g5
      walk_at "zz"
      refine v_lstT (SqT.of g54) fun y1 I5 m5 s5 e5 => ?_
      walk_at "zz"
      intro y2 I6 m6 s6 e6
      have lx := g6.len
      have lr := R.len
      have ecut : cutV xs (some 1) none = xs.drop 1 := by
        unfold cutV
        rw [show (some (1 : Int)) = some (((1 : Nat) : Int)) from rfl, sIx_nat', HT.sIx_none, List.take_of_length_le (by simp)]
        rw [Nat.min_eq_left (by omega)]
      rw [ecut] at e6
      have S7 : Same H I6 := S4.trans (s5.trans s6)
      walk_at "zz"
      refine v_make fun mf dm I8 m8 s8 e8 => ?_
      have R2 : RsOk L (n - 1) (rs.drop 1) := ⟨by omega, by omega, l1, l6, by simp [lr], fun r hr => R.all r (List.mem_of_mem_drop hr)⟩
      have t8 : Tups I8 (xs.drop 1) (rs.drop 1) := by
        have t0 := g6.same (S7.trans s8)
        cases t0 with
        | nil => exact .nil
        | cons h t => exact t
      refine ⟨mf, dm, y2, _, rs.drop 1, L, n - 1, rfl, e8, s8 _ _ e6, t8.sqs, R2, fun HK b9 PmK => ⟨rfl, ?_⟩⟩
      have S9 : Same I6 HK := same_but s8 m8 b9
      have SM : Same H HK := S7.trans S9
      have CoM := Co.same ((s5.trans s6).trans S9)
      generalize hN : n - 1 = n2 at *
      have neN : n2 ≠ n := by omega
      generalize List.replicate n2 (peak L) = us at *
      generalize rs.drop 1 = rs2 at *
      walk_at "zz"
      refine v_if (fun h7 => ?_) (fun h7 => ?_)
      · have hL2 : 2 ≤ L := by have := of_decide_eq_true h7; omega
        walk_at "zz"
        refine ⟨b, 2, rfl, by omega, by decide, B.same SM, fun u HN u0 u1 bN BN => ?_⟩
        obtain ⟨y1', y2', y3', hy'⟩ := B.same SM
        have CaN := (Ca.same SM).but bN hy'
        have PcN := (Pc.same SM).but bN hy'
        have CoN := CoM.but bN hy'
        have PmN := PmK.but bN hy'
        walk_at "zz"
        refine v_if (fun h8 => ?_) (fun h8 => ?_)
        · walk_at "zz"
          rw [inner hL2 l6]
          walk_at "zz"
          refine v_lst fun w5 K1 m5 s5 e5 => ?_
          walk_at "zz"
          refine v_rep e5 (by omega) (by omega) (by simp) fun w6 K2 m6 s6 e6 => ?_
          have e6' : K2 w6 = some (.lst (wL (List.replicate n (peak (L - 1))))) := by
            rw [e6, Int.toNat_natCast]
            exact congrArg (fun z => some (HO.lst z)) (rep_words _ _)
          walk_at "zz"
          refine v_lst fun w7 K3 m7 s7 e7 => ?_
          walk_at "zz"
          have pk2 := peak_ok (L := L - 1) (by omega) (by omega)
          have U2 : WsOk (L - 1) n (List.replicate n (peak (L - 1))) := ⟨n1, n12, by omega, by omega, by simp, fun w' hw => by rw [(List.mem_replicate.mp hw).2]; exact pk2⟩
          refine ⟨w6, w7, [], _, [], L - 1, n, rfl, s7 _ _ e6', U2, e7, .nil, ⟨by simp, by simp, fun m hm => by cases hm⟩, fun o2 HK2 m8 s8 CoK => ?_⟩
          have SN : Same HN HK2 := s5.trans (s6.trans (s7.trans s8))
          have CaK := CaN.same SN
          have PcK := PcN.same SN
          have PmK2 := PmN.same SN
          have BK := BN.same SN
          have neO : ¬ (L - 1 = L ∧ n = n) := by omega
          have neO' : ¬ (L = L - 1 ∧ n = n) := by omega
          have UU := U2
          generalize List.replicate n (peak (L - 1)) = us2 at *
          generalize L - 1 = L2 at *
          clear U CoM CoN pk2
          generalize o2 = od at *
          walk_at "zz"
          refine v_tup fun b1 J1 m1 s1' f1 => ?_
          walk_at "zz"
          refine v_tup fun b2 J2 m2 s2' f2 => ?_
          walk_at "zz"
          refine v_tup fun b3 J3 m3 s3' f3 => ?_
          walk_at "zz"
          refine v_tup fun b4 J4 m4 s4' f4 => ?_
          walk_at "zz"
          refine v_tup fun b5 J5 m5 s5' f5 => ?_
          walk_at "zz"
          refine v_lst fun bl J6 m6 s6' f6 => ?_
          have SJ := s1'.trans (s2'.trans (s3'.trans (s4'.trans (s5'.trans s6'))))
          have BJ := BK.same SJ
          have t1 : Triple J6 (.ref b1) := ⟨b1, _, _, some "both", rfl, s6' _ _ (s5' _ _ (s4' _ _ (s3' _ _ (s2' _ _ f1)))), .inr (.inr ⟨rfl, rfl, rfl⟩), .inr (.inl rfl)⟩
          have t2 : Triple J6 (.ref b2) := ⟨b2, _, _, some "p", rfl, s6' _ _ (s5' _ _ (s4' _ _ (s3' _ _ f2))), .inl ⟨rfl, .inl ⟨10, rfl, by decide⟩⟩, .inr (.inr (.inl rfl))⟩
          have t3 : Triple J6 (.ref b3) := ⟨b3, _, _, some "p", rfl, s6' _ _ (s5' _ _ (s4' _ _ f3)), .inl ⟨rfl, .inl ⟨-1, rfl, by decide⟩⟩, .inr (.inr (.inl rfl))⟩
          have t4 : Triple J6 (.ref b4) := ⟨b4, _, _, some "q", rfl, s6' _ _ (s5' _ _ f4), .inr (.inl ⟨rfl, ⟨3, rfl, by decide⟩, .inr (.inr rfl)⟩), .inr (.inr (.inr rfl))⟩
          have t5 : Triple J6 (.ref b5) := ⟨b5, _, _, some "p", rfl, s6' _ _ f5, .inl ⟨rfl, .inr (.inl ⟨true, rfl⟩)⟩, .inr (.inr (.inl rfl))⟩
          walk_at "zz"
          refine ⟨b, bl, _, rfl, f6, (BK.same (s1'.trans (s2'.trans (s3'.trans (s4'.trans s5'))))).ne m6, by simp, by simp, BJ, fun bad J7 hbad s7' B7 => ?_⟩
          have tb : Triple J7 bad := by
            have tb6 : Triple J6 bad := by
              simp only [List.mem_cons, List.mem_nil_iff, or_false] at hbad
              rcases hbad with rfl | rfl | rfl | rfl | rfl <;> assumption
            obtain ⟨z1, z2, z3, hz⟩ := BJ
            exact tb6.but s7' hz
          obtain ⟨z1, z2, z3, hz⟩ := id BJ
          have Ca7 := (CaK.same SJ).but s7' hz
          have Co7 := (CoK.same SJ).but s7' hz
          have Pc7 := (PcK.same SJ).but s7' hz
          have Pm7 := (PmK2.same SJ).but s7' hz
          walk_at "zz"
          refine v_tup fun t0 J8 m8 s8' f8 => ?_
          have t80 : Triple J8 (.ref t0) := ⟨t0, _, _, none, rfl, f8, ⟨1, 0, rfl, rfl, by decide, by decide, by decide⟩, .inl rfl⟩
          have t81 := tb.same s8'
          walk_at "zz"
          refine v_tup fun tt J9 m9 s9' f9 => ?_
          have S9 := s8'.trans s9'
          have Ca9 := Ca7.same S9
          have Co9 := Co7.same S9
          have Pc9 := Pc7.same S9
          have Pm9 := Pm7.same S9
          have t90 := t80.same s9'
          have t91 := t81.same s9'
          walk_at "zz"
          refine v_forT (xs := [.ref t0, bad]) (fun i σ H' => ∃ (c9 c10 c11 c12 c13 c14 : Option V), σ = [some (.ref b), some (.ref a), some (.ref c), some (.int L), some (.int n), some (encV (peak L)), some (.ref od), some (.ref mf), some bad, c9, c10, c11, c12, c13, c14] ∧ Same J9 H') ?_ ?_ ?_ ?_
          · exact ⟨_, _, _, _, _, _, rfl, Same.refl _⟩
          · rintro i σ H' ⟨c9, c10, c11, c12, c13, c14, rfl, s⟩
            exact SqT.of (s _ _ f9)
          · rintro i v σ J10 hv ⟨c9, c10, c11, c12, c13, c14, rfl, s10'⟩
            have tv : Triple J10 v := by
              match i, hv with
              | 0, hv => cases hv; exact t90.same s10'
              | 1, hv => cases hv; exact t91.same s10'
              | i + 2, hv => cases hv
            obtain ⟨pv, x, y, oo, rfl, hpv, Sl, Wo⟩ := tv
            have Ca10 := Ca9.same s10'
            have Co10 := Co9.same s10'
            have Pc10 := Pc9.same s10'
            have Pm10 := Pm9.same s10'
            walk_at "zz"
            refine v_tup fun i1 J11 m11 s11 f11 => ?_
            walk_at "zz"
            refine v_tup fun i2 J12 m12 s12 f12 => ?_
            walk_at "zz"
            refine v_tup fun i3 J13 m13 s13 f13 => ?_
            have S13 := s11.trans (s12.trans s13)
            have Ca13 := Ca10.same S13
            have Co13 := Co10.same S13
            have Pc13 := Pc10.same S13
            have Pm13 := Pm10.same S13
            have fi1 : Pair2 a od J13 (.ref i1) := ⟨i1, _, _, rfl, s13 _ _ (s12 _ _ f11), .inl ⟨rfl, rfl⟩⟩
            have fi2 : Pair2 a od J13 (.ref i2) := ⟨i2, _, _, rfl, s13 _ _ f12, .inr ⟨rfl, rfl⟩⟩
            walk_at "zz"
            refine v_forT (xs := [.ref i1, .ref i2]) (fun i σ H' => ∃ (c12 c13 c14 : Option V), σ = [some (.ref b), some (.ref a), some (.ref c), some (.int L), some (.int n), some (encV (peak L)), some (.ref od), some (.ref mf), some bad, some x, some y, some (what_ oo), c12, c13, c14] ∧ Same J13 H') ?_ ?_ ?_ ?_
            · exact ⟨_, _, _, rfl, Same.refl _⟩
            · rintro i σ H' ⟨c12, c13, c14, rfl, s⟩
              exact SqT.of (s _ _ f13)
            · rintro i v σ J14 hv ⟨c12, c13, c14, rfl, s14'⟩
              have fv : Pair2 a od J14 v := by
                match i, hv with
                | 0, hv => cases hv; exact fi1.same s14'
                | 1, hv => cases hv; exact fi2.same s14'
                | i + 2, hv => cases hv
              obtain ⟨pq, u1', u2', rfl, hpq, fs2⟩ := fv
              have Ca14 := Ca13.same s14'
              have Co14 := Co13.same s14'
              have Pm14 := Pm13.same s14'
              rcases fs2 with ⟨rfl, rfl⟩ | ⟨rfl, rfl⟩
              · walk_at "zz"
                refine ⟨_, a, od, _, x, y, ws, _, L, n, _, _, rV "cards", rfl, Ca14, Co14, W, UU, .inl ⟨rfl, .inl ⟨neO, rfl⟩⟩, fun v1 J15 s15 o15 => ?_⟩
                walk_at "zz"
                refine v_tup fun d1 J16 m16 s16 f16 => ?_
                walk_at "zz"
                refine v_neOS (o15.same s16) (o' := rV "cards") ⟨d1, rfl, f16⟩ lay_cards lay_cards ?_
                walk_at "zz"
                refine v_ifF (by simp) ?_
                walk_at "zz"
                refine ⟨_, a, od, _, x, y, ws, _, L, n, _, _, rV "cards", rfl, (Ca14.same s15).same s16, (Co14.same s15).same s16, W, UU, .inr ⟨mf, _, _, _, rfl, (Pm14.same s15).same s16, R2, .inl ⟨rfl, .inl ⟨neO, rfl⟩⟩⟩, fun v2 J17 s17 o17 => ?_⟩
                walk_at "zz"
                refine v_tup fun d2 J18 m18 s18 f18 => ?_
                walk_at "zz"
                refine v_neOS (o17.same s18) (o' := rV "cards") ⟨d2, rfl, f18⟩ lay_cards lay_cards ?_
                walk_at "zz"
                refine v_ifF (by simp) ?_
                walk_at "zz"
                exact ⟨_, _, _, rfl, s14'.trans (s15.trans (s16.trans (s17.trans s18)))⟩
              · walk_at "zz"
                refine ⟨_, od, a, _, x, y, _, ws, _, _, L, n, rV "cards", rfl, Co14, Ca14, UU, W, .inl ⟨rfl, .inl ⟨neO', rfl⟩⟩, fun v1 J15 s15 o15 => ?_⟩
                walk_at "zz"
                refine v_tup fun d1 J16 m16 s16 f16 => ?_
                walk_at "zz"
                refine v_neOS (o15.same s16) (o' := rV "cards") ⟨d1, rfl, f16⟩ lay_cards lay_cards ?_
                walk_at "zz"
                refine v_ifF (by simp) ?_
                walk_at "zz"
                refine ⟨_, od, a, _, x, y, _, ws, _, _, L, n, rV "cards", rfl, (Co14.same s15).same s16, (Ca14.same s15).same s16, UU, W, .inr ⟨mf, _, _, _, rfl, (Pm14.same s15).same s16, R2, .inl ⟨rfl, .inl ⟨neO', rfl⟩⟩⟩, fun v2 J17 s17 o17 => ?_⟩
                walk_at "zz"
                refine v_tup fun d2 J18 m18 s18 f18 => ?_
                walk_at "zz"
                refine v_neOS (o17.same s18) (o' := rV "cards") ⟨d2, rfl, f18⟩ lay_cards lay_cards ?_
                walk_at "zz"
                refine v_ifF (by simp) ?_
                walk_at "zz"
                exact ⟨_, _, _, rfl, s14'.trans (s15.trans (s16.trans (s17.trans s18)))⟩
            · rintro σ J14 ⟨c12, c13, c14, rfl, s14'⟩
              have Ca14 := Ca13.same s14'
              have Pm14 := Pm13.same s14'
              have Pc14 := Pc13.same s14'
              walk_at "zz"
              refine ⟨_, a, a, _, x, y, ws, ws, L, n, L, n, rV "print", rfl, Ca14, Ca14, W, W, .inr ⟨mf, _, _, _, rfl, Pm14, R2, .inl ⟨rfl, .inr (.inl ⟨rfl, rfl, fun z => neN z.2, rfl⟩)⟩⟩, fun v1 J15 s15 o15 => ?_⟩
              walk_at "zz"
              refine v_tup fun d1 J16 m16 s16 f16 => ?_
              walk_at "zz"
              refine v_neOS (o15.same s16) (o' := rV "print") ⟨d1, rfl, f16⟩ lay_print lay_print ?_
              walk_at "zz"
              refine v_ifF (by simp) ?_
              walk_at "zz"
              have S16 := s15.trans s16
              have S10 : Same J9 J16 := s10'.trans (S13.trans (s14'.trans S16))
              have Ca16 := Ca14.same S16
              have Pc16 := Pc14.same S16
              cases oo with
              | none =>
                refine v_ifT (by rfl) ?_
                walk_at "zz"
                have S10' := S10
                have Ca16' := Ca16
                have Pc16' := Pc16
                have od16 : OptS J16 V.non (rS none) := rfl
                refine ⟨_, a, a, _, x, y, ws, ws, L, n, L, n, rS none, rfl, Ca16', Ca16', W, W, .inl ⟨rfl, .inr ⟨rfl, rfl, _, Sl, rfl⟩⟩, fun v2 J17 s17 o17 => ?_⟩
                walk_at "zz"
                refine v_neOS o17 (od16.same s17) (lay_rS Wo) (lay_rS Wo) ?_
                rw [decide_eq_true rfl]
                walk_at "zz"
                refine ⟨_, a, a, _, x, y, ws, ws, L, n, L, n, rS none, rfl, Ca16'.same s17, Ca16'.same s17, W, W, .inr ⟨c, _, _, _, rfl, Pc16'.same s17, R, .inl ⟨rfl, .inr (.inr ⟨rfl, rfl, rfl, rfl, _, Sl, rfl⟩)⟩⟩, fun v3 J18 s18 o18 => ?_⟩
                walk_at "zz"
                refine v_neOS o18 ((od16.same s17).same s18) (lay_rS Wo) (lay_rS Wo) ?_
                rw [decide_eq_true rfl]
                walk_at "zz"
                exact ⟨_, _, _, _, _, _, rfl, S10'.trans (s17.trans s18)⟩
              | some z =>
                refine v_ifF (by rfl) ?_
                walk_at "zz"
                refine v_tup fun du J16b mb sb eb => ?_
                walk_at "zz"
                have S10' := S10.trans sb
                have Ca16' := Ca16.same sb
                have Pc16' := Pc16.same sb
                have od16 : OptS J16b (.ref du) (rS (some z)) := ⟨du, rfl, eb⟩
                refine ⟨_, a, a, _, x, y, ws, ws, L, n, L, n, rS (some z), rfl, Ca16', Ca16', W, W, .inl ⟨rfl, .inr ⟨rfl, rfl, _, Sl, rfl⟩⟩, fun v2 J17 s17 o17 => ?_⟩
                walk_at "zz"
                refine v_neOS o17 (od16.same s17) (lay_rS Wo) (lay_rS Wo) ?_
                rw [decide_eq_true rfl]
                walk_at "zz"
                refine ⟨_, a, a, _, x, y, ws, ws, L, n, L, n, rS (some z), rfl, Ca16'.same s17, Ca16'.same s17, W, W, .inr ⟨c, _, _, _, rfl, Pc16'.same s17, R, .inl ⟨rfl, .inr (.inr ⟨rfl, rfl, rfl, rfl, _, Sl, rfl⟩)⟩⟩, fun v3 J18 s18 o18 => ?_⟩
                walk_at "zz"
                refine v_neOS o18 ((od16.same s17).same s18) (lay_rS Wo) (lay_rS Wo) ?_
                rw [decide_eq_true rfl]
                walk_at "zz"
                exact ⟨_, _, _, _, _, _, rfl, S10'.trans (s17.trans s18)⟩
          · rintro σ J10 ⟨c9, c10, c11, c12, c13, c14, rfl, s10'⟩
            have Ca10 := Ca9.same s10'
            have Co10 := Co9.same s10'
            have Pc10 := Pc9.same s10'
            have Pm10 := Pm9.same s10'
            walk_at "zz"
            refine ⟨_, od, a, _, _, _, _, ws, _, _, L, n, rV "cards", rfl, Co10, Ca10, UU, W, .inr ⟨mf, _, _, _, rfl, Pm10, R2, .inr ⟨rfl, .inl ⟨neO', rfl⟩⟩⟩, fun v1 J15 s15 o15 => ?_⟩
            walk_at "zz"
            refine v_tup fun d1 J16 m16 s16 f16 => ?_
            walk_at "zz"
            refine v_neOS (o15.same s16) (o' := rV "cards") ⟨d1, rfl, f16⟩ lay_cards lay_cards ?_
            walk_at "zz"
            refine v_ifF (by simp) ?_
            walk_at "zz"
            have S16 := s15.trans s16
            have Ca16 := Ca10.same S16
            refine ⟨_, a, a, _, _, _, ws, ws, L, n, L, n, rV "print", rfl, Ca16, Ca16, W, W, .inr ⟨mf, _, _, _, rfl, Pm10.same S16, R2, .inr ⟨rfl, .inr (.inl ⟨rfl, rfl, fun z => neN z.2, rfl⟩)⟩⟩, fun v2 J17 s17 o17 => ?_⟩
            walk_at "zz"
            refine v_tup fun d2 J18 m18 s18 f18 => ?_
            walk_at "zz"
            refine v_eqOS (o17.same s18) (o' := rV "print") ⟨d2, rfl, f18⟩ lay_print lay_print ?_
            rw [decide_eq_true rfl]
            walk_at "zz"
            have S18 := S16.trans (s17.trans s18)
            have Ca18 := Ca10.same S18
            refine ⟨_, a, a, _, _, _, ws, ws, L, n, L, n, none, rfl, Ca18, Ca18, W, W, .inr ⟨c, _, _, _, rfl, Pc10.same S18, R, .inr ⟨rfl, .inr (.inr ⟨rfl, rfl, rfl, rfl, rfl⟩)⟩⟩, fun v3 J19 s19 o19 => ?_⟩
            have e19 : v3 = .non := o19
            subst e19
            walk_at "zz"
            exact k _
        · have CaK := CaN
          have PcK := PcN
          have PmK2 := PmN
          have BK := BN
          have CoK := CoN
          have neO : ¬ (L = L ∧ n2 = n) := by omega
          have neO' : ¬ (L = L ∧ n = n2) := by omega
          have UU := U
          generalize o = od at *
          walk_at "zz"
          refine v_tup fun b1 J1 m1 s1' f1 => ?_
          walk_at "zz"
          refine v_tup fun b2 J2 m2 s2' f2 => ?_
          walk_at "zz"
          refine v_tup fun b3 J3 m3 s3' f3 => ?_
          walk_at "zz"
          refine v_tup fun b4 J4 m4 s4' f4 => ?_
          walk_at "zz"
          refine v_tup fun b5 J5 m5 s5' f5 => ?_
          walk_at "zz"
          refine v_lst fun bl J6 m6 s6' f6 => ?_
          have SJ := s1'.trans (s2'.trans (s3'.trans (s4'.trans (s5'.trans s6'))))
          have BJ := BK.same SJ
          have t1 : Triple J6 (.ref b1) := ⟨b1, _, _, some "both", rfl, s6' _ _ (s5' _ _ (s4' _ _ (s3' _ _ (s2' _ _ f1)))), .inr (.inr ⟨rfl, rfl, rfl⟩), .inr (.inl rfl)⟩
          have t2 : Triple J6 (.ref b2) := ⟨b2, _, _, some "p", rfl, s6' _ _ (s5' _ _ (s4' _ _ (s3' _ _ f2))), .inl ⟨rfl, .inl ⟨10, rfl, by decide⟩⟩, .inr (.inr (.inl rfl))⟩
          have t3 : Triple J6 (.ref b3) := ⟨b3, _, _, some "p", rfl, s6' _ _ (s5' _ _ (s4' _ _ f3)), .inl ⟨rfl, .inl ⟨-1, rfl, by decide⟩⟩, .inr (.inr (.inl rfl))⟩
          have t4 : Triple J6 (.ref b4) := ⟨b4, _, _, some "q", rfl, s6' _ _ (s5' _ _ f4), .inr (.inl ⟨rfl, ⟨3, rfl, by decide⟩, .inr (.inr rfl)⟩), .inr (.inr (.inr rfl))⟩
          have t5 : Triple J6 (.ref b5) := ⟨b5, _, _, some "p", rfl, s6' _ _ f5, .inl ⟨rfl, .inr (.inl ⟨true, rfl⟩)⟩, .inr (.inr (.inl rfl))⟩
          walk_at "zz"
          refine ⟨b, bl, _, rfl, f6, (BK.same (s1'.trans (s2'.trans (s3'.trans (s4'.trans s5'))))).ne m6, by simp, by simp, BJ, fun bad J7 hbad s7' B7 => ?_⟩
          have tb : Triple J7 bad := by
            have tb6 : Triple J6 bad := by
              simp only [List.mem_cons, List.mem_nil_iff, or_false] at hbad
              rcases hbad with rfl | rfl | rfl | rfl | rfl <;> assumption
            obtain ⟨z1, z2, z3, hz⟩ := BJ
            exact tb6.but s7' hz
          obtain ⟨z1, z2, z3, hz⟩ := id BJ
          have Ca7 := (CaK.same SJ).but s7' hz
          have Co7 := (CoK.same SJ).but s7' hz
          have Pc7 := (PcK.same SJ).but s7' hz
          have Pm7 := (PmK2.same SJ).but s7' hz
          walk_at "zz"
          refine v_tup fun t0 J8 m8 s8' f8 => ?_
          have t80 : Triple J8 (.ref t0) := ⟨t0, _, _, none, rfl, f8, ⟨1, 0, rfl, rfl, by decide, by decide, by decide⟩, .inl rfl⟩
          have t81 := tb.same s8'
          walk_at "zz"
          refine v_tup fun tt J9 m9 s9' f9 => ?_
          have S9 := s8'.trans s9'
          have Ca9 := Ca7.same S9
          have Co9 := Co7.same S9
          have Pc9 := Pc7.same S9
          have Pm9 := Pm7.same S9
          have t90 := t80.same s9'
          have t91 := t81.same s9'
          walk_at "zz"
          refine v_forT (xs := [.ref t0, bad]) (fun i σ H' => ∃ (c9 c10 c11 c12 c13 c14 : Option V), σ = [some (.ref b), some (.ref a), some (.ref c), some (.int L), some (.int n), some (encV (peak L)), some (.ref od), some (.ref mf), some bad, c9, c10, c11, c12, c13, c14] ∧ Same J9 H') ?_ ?_ ?_ ?_
          · exact ⟨_, _, _, _, _, _, rfl, Same.refl _⟩
          · rintro i σ H' ⟨c9, c10, c11, c12, c13, c14, rfl, s⟩
            exact SqT.of (s _ _ f9)
          · rintro i v σ J10 hv ⟨c9, c10, c11, c12, c13, c14, rfl, s10'⟩
            have tv : Triple J10 v := by
              match i, hv with
              | 0, hv => cases hv; exact t90.same s10'
              | 1, hv => cases hv; exact t91.same s10'
              | i + 2, hv => cases hv
            obtain ⟨pv, x, y, oo, rfl, hpv, Sl, Wo⟩ := tv
            have Ca10 := Ca9.same s10'
            have Co10 := Co9.same s10'
            have Pc10 := Pc9.same s10'
            have Pm10 := Pm9.same s10'
            walk_at "zz"
            refine v_tup fun i1 J11 m11 s11 f11 => ?_
            walk_at "zz"
            refine v_tup fun i2 J12 m12 s12 f12 => ?_
            walk_at "zz"
            refine v_tup fun i3 J13 m13 s13 f13 => ?_
            have S13 := s11.trans (s12.trans s13)
            have Ca13 := Ca10.same S13
            have Co13 := Co10.same S13
            have Pc13 := Pc10.same S13
            have Pm13 := Pm10.same S13
            have fi1 : Pair2 a od J13 (.ref i1) := ⟨i1, _, _, rfl, s13 _ _ (s12 _ _ f11), .inl ⟨rfl, rfl⟩⟩
            have fi2 : Pair2 a od J13 (.ref i2) := ⟨i2, _, _, rfl, s13 _ _ f12, .inr ⟨rfl, rfl⟩⟩
            walk_at "zz"
            refine v_forT (xs := [.ref i1, .ref i2]) (fun i σ H' => ∃ (c12 c13 c14 : Option V), σ = [some (.ref b), some (.ref a), some (.ref c), some (.int L), some (.int n), some (encV (peak L)), some (.ref od), some (.ref mf), some bad, some x, some y, some (what_ oo), c12, c13, c14] ∧ Same J13 H') ?_ ?_ ?_ ?_
            · exact ⟨_, _, _, rfl, Same.refl _⟩
            · rintro i σ H' ⟨c12, c13, c14, rfl, s⟩
              exact SqT.of (s _ _ f13)
            · rintro i v σ J14 hv ⟨c12, c13, c14, rfl, s14'⟩
              have fv : Pair2 a od J14 v := by
                match i, hv with
                | 0, hv => cases hv; exact fi1.same s14'
                | 1, hv => cases hv; exact fi2.same s14'
                | i + 2, hv => cases hv
              obtain ⟨pq, u1', u2', rfl, hpq, fs2⟩ := fv
              have Ca14 := Ca13.same s14'
              have Co14 := Co13.same s14'
              have Pm14 := Pm13.same s14'
              rcases fs2 with ⟨rfl, rfl⟩ | ⟨rfl, rfl⟩
              · walk_at "zz"
                refine ⟨_, a, od, _, x, y, ws, _, L, n, _, _, rV "cards", rfl, Ca14, Co14, W, UU, .inl ⟨rfl, .inl ⟨neO, rfl⟩⟩, fun v1 J15 s15 o15 => ?_⟩
                walk_at "zz"
                refine v_tup fun d1 J16 m16 s16 f16 => ?_
                walk_at "zz"
                refine v_neOS (o15.same s16) (o' := rV "cards") ⟨d1, rfl, f16⟩ lay_cards lay_cards ?_
                walk_at "zz"
                refine v_ifF (by simp) ?_
                walk_at "zz"
                refine ⟨_, a, od, _, x, y, ws, _, L, n, _, _, rV "cards", rfl, (Ca14.same s15).same s16, (Co14.same s15).same s16, W, UU, .inr ⟨mf, _, _, _, rfl, (Pm14.same s15).same s16, R2, .inl ⟨rfl, .inl ⟨neO, rfl⟩⟩⟩, fun v2 J17 s17 o17 => ?_⟩
                walk_at "zz"
                refine v_tup fun d2 J18 m18 s18 f18 => ?_
                walk_at "zz"
                refine v_neOS (o17.same s18) (o' := rV "cards") ⟨d2, rfl, f18⟩ lay_cards lay_cards ?_
                walk_at "zz"
                refine v_ifF (by simp) ?_
                walk_at "zz"
                exact ⟨_, _, _, rfl, s14'.trans (s15.trans (s16.trans (s17.trans s18)))⟩
              · walk_at "zz"
                refine ⟨_, od, a, _, x, y, _, ws, _, _, L, n, rV "cards", rfl, Co14, Ca14, UU, W, .inl ⟨rfl, .inl ⟨neO', rfl⟩⟩, fun v1 J15 s15 o15 => ?_⟩
                walk_at "zz"
                refine v_tup fun d1 J16 m16 s16 f16 => ?_
                walk_at "zz"
                refine v_neOS (o15.same s16) (o' := rV "cards") ⟨d1, rfl, f16⟩ lay_cards lay_cards ?_
                walk_at "zz"
                refine v_ifF (by simp) ?_
                walk_at "zz"
                refine ⟨_, od, a, _, x, y, _, ws, _, _, L, n, rV "cards", rfl, (Co14.same s15).same s16, (Ca14.same s15).same s16, UU, W, .inr ⟨mf, _, _, _, rfl, (Pm14.same s15).same s16, R2, .inl ⟨rfl, .inl ⟨neO', rfl⟩⟩⟩, fun v2 J17 s17 o17 => ?_⟩
                walk_at "zz"
                refine v_tup fun d2 J18 m18 s18 f18 => ?_
                walk_at "zz"
                refine v_neOS (o17.same s18) (o' := rV "cards") ⟨d2, rfl, f18⟩ lay_cards lay_cards ?_
                walk_at "zz"
                refine v_ifF (by simp) ?_
                walk_at "zz"
                exact ⟨_, _, _, rfl, s14'.trans (s15.trans (s16.trans (s17.trans s18)))⟩
            · rintro σ J14 ⟨c12, c13, c14, rfl, s14'⟩
              have Ca14 := Ca13.same s14'
              have Pm14 := Pm13.same s14'
              have Pc14 := Pc13.same s14'
              walk_at "zz"
              refine ⟨_, a, a, _, x, y, ws, ws, L, n, L, n, rV "print", rfl, Ca14, Ca14, W, W, .inr ⟨mf, _, _, _, rfl, Pm14, R2, .inl ⟨rfl, .inr (.inl ⟨rfl, rfl, fun z => neN z.2, rfl⟩)⟩⟩, fun v1 J15 s15 o15 => ?_⟩
              walk_at "zz"
              refine v_tup fun d1 J16 m16 s16 f16 => ?_
              walk_at "zz"
              refine v_neOS (o15.same s16) (o' := rV "print") ⟨d1, rfl, f16⟩ lay_print lay_print ?_
              walk_at "zz"
              refine v_ifF (by simp) ?_
              walk_at "zz"
              have S16 := s15.trans s16
              have S10 : Same J9 J16 := s10'.trans (S13.trans (s14'.trans S16))
              have Ca16 := Ca14.same S16
              have Pc16 := Pc14.same S16
              cases oo with
              | none =>
                refine v_ifT (by rfl) ?_
                walk_at "zz"
                have S10' := S10
                have Ca16' := Ca16
                have Pc16' := Pc16
                have od16 : OptS J16 V.non (rS none) := rfl
                refine ⟨_, a, a, _, x, y, ws, ws, L, n, L, n, rS none, rfl, Ca16', Ca16', W, W, .inl ⟨rfl, .inr ⟨rfl, rfl, _, Sl, rfl⟩⟩, fun v2 J17 s17 o17 => ?_⟩
                walk_at "zz"
                refine v_neOS o17 (od16.same s17) (lay_rS Wo) (lay_rS Wo) ?_
                rw [decide_eq_true rfl]
                walk_at "zz"
                refine ⟨_, a, a, _, x, y, ws, ws, L, n, L, n, rS none, rfl, Ca16'.same s17, Ca16'.same s17, W, W, .inr ⟨c, _, _, _, rfl, Pc16'.same s17, R, .inl ⟨rfl, .inr (.inr ⟨rfl, rfl, rfl, rfl, _, Sl, rfl⟩)⟩⟩, fun v3 J18 s18 o18 => ?_⟩
                walk_at "zz"
                refine v_neOS o18 ((od16.same s17).same s18) (lay_rS Wo) (lay_rS Wo) ?_
                rw [decide_eq_true rfl]
                walk_at "zz"
                exact ⟨_, _, _, _, _, _, rfl, S10'.trans (s17.trans s18)⟩
              | some z =>
                refine v_ifF (by rfl) ?_
                walk_at "zz"
                refine v_tup fun du J16b mb sb eb => ?_
                walk_at "zz"
                have S10' := S10.trans sb
                have Ca16' := Ca16.same sb
                have Pc16' := Pc16.same sb
                have od16 : OptS J16b (.ref du) (rS (some z)) := ⟨du, rfl, eb⟩
                refine ⟨_, a, a, _, x, y, ws, ws, L, n, L, n, rS (some z), rfl, Ca16', Ca16', W, W, .inl ⟨rfl, .inr ⟨rfl, rfl, _, Sl, rfl⟩⟩, fun v2 J17 s17 o17 => ?_⟩
                walk_at "zz"
                refine v_neOS o17 (od16.same s17) (lay_rS Wo) (lay_rS Wo) ?_
                rw [decide_eq_true rfl]
                walk_at "zz"
                refine ⟨_, a, a, _, x, y, ws, ws, L, n, L, n, rS (some z), rfl, Ca16'.same s17, Ca16'.same s17, W, W, .inr ⟨c, _, _, _, rfl, Pc16'.same s17, R, .inl ⟨rfl, .inr (.inr ⟨rfl, rfl, rfl, rfl, _, Sl, rfl⟩)⟩⟩, fun v3 J18 s18 o18 => ?_⟩
                walk_at "zz"
                refine v_neOS o18 ((od16.same s17).same s18) (lay_rS Wo) (lay_rS Wo) ?_
                rw [decide_eq_true rfl]
                walk_at "zz"
                exact ⟨_, _, _, _, _, _, rfl, S10'.trans (s17.trans s18)⟩
          · rintro σ J10 ⟨c9, c10, c11, c12, c13, c14, rfl, s10'⟩
            have Ca10 := Ca9.same s10'
            have Co10 := Co9.same s10'
            have Pc10 := Pc9.same s10'
            have Pm10 := Pm9.same s10'
            walk_at "zz"
            refine ⟨_, od, a, _, _, _, _, ws, _, _, L, n, rV "cards", rfl, Co10, Ca10, UU, W, .inr ⟨mf, _, _, _, rfl, Pm10, R2, .inr ⟨rfl, .inl ⟨neO', rfl⟩⟩⟩, fun v1 J15 s15 o15 => ?_⟩
            walk_at "zz"
            refine v_tup fun d1 J16 m16 s16 f16 => ?_
            walk_at "zz"
            refine v_neOS (o15.same s16) (o' := rV "cards") ⟨d1, rfl, f16⟩ lay_cards lay_cards ?_
            walk_at "zz"
            refine v_ifF (by simp) ?_
            walk_at "zz"
            have S16 := s15.trans s16
            have Ca16 := Ca10.same S16
            refine ⟨_, a, a, _, _, _, ws, ws, L, n, L, n, rV "print", rfl, Ca16, Ca16, W, W, .inr ⟨mf, _, _, _, rfl, Pm10.same S16, R2, .inr ⟨rfl, .inr (.inl ⟨rfl, rfl, fun z => neN z.2, rfl⟩)⟩⟩, fun v2 J17 s17 o17 => ?_⟩
            walk_at "zz"
            refine v_tup fun d2 J18 m18 s18 f18 => ?_
            walk_at "zz"
            refine v_eqOS (o17.same s18) (o' := rV "print") ⟨d2, rfl, f18⟩ lay_print lay_print ?_
            rw [decide_eq_true rfl]
            walk_at "zz"
            have S18 := S16.trans (s17.trans s18)
            have Ca18 := Ca10.same S18
            refine ⟨_, a, a, _, _, _, ws, ws, L, n, L, n, none, rfl, Ca18, Ca18, W, W, .inr ⟨c, _, _, _, rfl, Pc10.same S18, R, .inr ⟨rfl, .inr (.inr ⟨rfl, rfl, rfl, rfl, rfl⟩)⟩⟩, fun v3 J19 s19 o19 => ?_⟩
            have e19 : v3 = .non := o19
            subst e19
            walk_at "zz"
            exact k _
      · have CaK := Ca.same SM
        have PcK := Pc.same SM
        have PmK2 := PmK
        have BK := B.same SM
        have CoK := CoM
        have neO : ¬ (L = L ∧ n2 = n) := by omega
        have neO' : ¬ (L = L ∧ n = n2) := by omega
        have UU := U
        generalize o = od at *
        walk_at "zz"
        refine v_tup fun b1 J1 m1 s1' f1 => ?_
        walk_at "zz"
        refine v_tup fun b2 J2 m2 s2' f2 => ?_
        walk_at "zz"
        refine v_tup fun b3 J3 m3 s3' f3 => ?_
        walk_at "zz"
        refine v_tup fun b4 J4 m4 s4' f4 => ?_
        walk_at "zz"
        refine v_tup fun b5 J5 m5 s5' f5 => ?_
        walk_at "zz"
        refine v_lst fun bl J6 m6 s6' f6 => ?_
        have SJ := s1'.trans (s2'.trans (s3'.trans (s4'.trans (s5'.trans s6'))))
        have BJ := BK.same SJ
        have t1 : Triple J6 (.ref b1) := ⟨b1, _, _, some "both", rfl, s6' _ _ (s5' _ _ (s4' _ _ (s3' _ _ (s2' _ _ f1)))), .inr (.inr ⟨rfl, rfl, rfl⟩), .inr (.inl rfl)⟩
        have t2 : Triple J6 (.ref b2) := ⟨b2, _, _, some "p", rfl, s6' _ _ (s5' _ _ (s4' _ _ (s3' _ _ f2))), .inl ⟨rfl, .inl ⟨10, rfl, by decide⟩⟩, .inr (.inr (.inl rfl))⟩
        have t3 : Triple J6 (.ref b3) := ⟨b3, _, _, some "p", rfl, s6' _ _ (s5' _ _ (s4' _ _ f3)), .inl ⟨rfl, .inl ⟨-1, rfl, by decide⟩⟩, .inr (.inr (.inl rfl))⟩
        have t4 : Triple J6 (.ref b4) := ⟨b4, _, _, some "q", rfl, s6' _ _ (s5' _ _ f4), .inr (.inl ⟨rfl, ⟨3, rfl, by decide⟩, .inr (.inr rfl)⟩), .inr (.inr (.inr rfl))⟩
        have t5 : Triple J6 (.ref b5) := ⟨b5, _, _, some "p", rfl, s6' _ _ f5, .inl ⟨rfl, .inr (.inl ⟨true, rfl⟩)⟩, .inr (.inr (.inl rfl))⟩
        walk_at "zz"
        refine ⟨b, bl, _, rfl, f6, (BK.same (s1'.trans (s2'.trans (s3'.trans (s4'.trans s5'))))).ne m6, by simp, by simp, BJ, fun bad J7 hbad s7' B7 => ?_⟩
        have tb : Triple J7 bad := by
          have tb6 : Triple J6 bad := by
            simp only [List.mem_cons, List.mem_nil_iff, or_false] at hbad
            rcases hbad with rfl | rfl | rfl | rfl | rfl <;> assumption
          obtain ⟨z1, z2, z3, hz⟩ := BJ
          exact tb6.but s7' hz
        obtain ⟨z1, z2, z3, hz⟩ := id BJ
        have Ca7 := (CaK.same SJ).but s7' hz
        have Co7 := (CoK.same SJ).but s7' hz
        have Pc7 := (PcK.same SJ).but s7' hz
        have Pm7 := (PmK2.same SJ).but s7' hz
        walk_at "zz"
        refine v_tup fun t0 J8 m8 s8' f8 => ?_
        have t80 : Triple J8 (.ref t0) := ⟨t0, _, _, none, rfl, f8, ⟨1, 0, rfl, rfl, by decide, by decide, by decide⟩, .inl rfl⟩
        have t81 := tb.same s8'
        walk_at "zz"
        refine v_tup fun tt J9 m9 s9' f9 => ?_
        have S9 := s8'.trans s9'
        have Ca9 := Ca7.same S9
        have Co9 := Co7.same S9
        have Pc9 := Pc7.same S9
        have Pm9 := Pm7.same S9
        have t90 := t80.same s9'
        have t91 := t81.same s9'
        walk_at "zz"
        refine v_forT (xs := [.ref t0, bad]) (fun i σ H' => ∃ (c9 c10 c11 c12 c13 c14 : Option V), σ = [some (.ref b), some (.ref a), some (.ref c), some (.int L), some (.int n), some (encV (peak L)), some (.ref od), some (.ref mf), some bad, c9, c10, c11, c12, c13, c14] ∧ Same J9 H') ?_ ?_ ?_ ?_
        · exact ⟨_, _, _, _, _, _, rfl, Same.refl _⟩
        · rintro i σ H' ⟨c9, c10, c11, c12, c13, c14, rfl, s⟩
          exact SqT.of (s _ _ f9)
        · rintro i v σ J10 hv ⟨c9, c10, c11, c12, c13, c14, rfl, s10'⟩
          have tv : Triple J10 v := by
            match i, hv with
            | 0, hv => cases hv; exact t90.same s10'
            | 1, hv => cases hv; exact t91.same s10'
            | i + 2, hv => cases hv
          obtain ⟨pv, x, y, oo, rfl, hpv, Sl, Wo⟩ := tv
          have Ca10 := Ca9.same s10'
          have Co10 := Co9.same s10'
          have Pc10 := Pc9.same s10'
          have Pm10 := Pm9.same s10'
          walk_at "zz"
          refine v_tup fun i1 J11 m11 s11 f11 => ?_
          walk_at "zz"
          refine v_tup fun i2 J12 m12 s12 f12 => ?_
          walk_at "zz"
          refine v_tup fun i3 J13 m13 s13 f13 => ?_
          have S13 := s11.trans (s12.trans s13)
          have Ca13 := Ca10.same S13
          have Co13 := Co10.same S13
          have Pc13 := Pc10.same S13
          have Pm13 := Pm10.same S13
          have fi1 : Pair2 a od J13 (.ref i1) := ⟨i1, _, _, rfl, s13 _ _ (s12 _ _ f11), .inl ⟨rfl, rfl⟩⟩
          have fi2 : Pair2 a od J13 (.ref i2) := ⟨i2, _, _, rfl, s13 _ _ f12, .inr ⟨rfl, rfl⟩⟩
          walk_at "zz"
          refine v_forT (xs := [.ref i1, .ref i2]) (fun i σ H' => ∃ (c12 c13 c14 : Option V), σ = [some (.ref b), some (.ref a), some (.ref c), some (.int L), some (.int n), some (encV (peak L)), some (.ref od), some (.ref mf), some bad, some x, some y, some (what_ oo), c12, c13, c14] ∧ Same J13 H') ?_ ?_ ?_ ?_
          · exact ⟨_, _, _, rfl, Same.refl _⟩
          · rintro i σ H' ⟨c12, c13, c14, rfl, s⟩
            exact SqT.of (s _ _ f13)
          · rintro i v σ J14 hv ⟨c12, c13, c14, rfl, s14'⟩
            have fv : Pair2 a od J14 v := by
              match i, hv with
              | 0, hv => cases hv; exact fi1.same s14'
              | 1, hv => cases hv; exact fi2.same s14'
              | i + 2, hv => cases hv
            obtain ⟨pq, u1', u2', rfl, hpq, fs2⟩ := fv
            have Ca14 := Ca13.same s14'
            have Co14 := Co13.same s14'
            have Pm14 := Pm13.same s14'
            rcases fs2 with ⟨rfl, rfl⟩ | ⟨rfl, rfl⟩
            · walk_at "zz"
              refine ⟨_, a, od, _, x, y, ws, _, L, n, _, _, rV "cards", rfl, Ca14, Co14, W, UU, .inl ⟨rfl, .inl ⟨neO, rfl⟩⟩, fun v1 J15 s15 o15 => ?_⟩
              walk_at "zz"
              refine v_tup fun d1 J16 m16 s16 f16 => ?_
              walk_at "zz"
              refine v_neOS (o15.same s16) (o' := rV "cards") ⟨d1, rfl, f16⟩ lay_cards lay_cards ?_
              walk_at "zz"
              refine v_ifF (by simp) ?_
              walk_at "zz"
              refine ⟨_, a, od, _, x, y, ws, _, L, n, _, _, rV "cards", rfl, (Ca14.same s15).same s16, (Co14.same s15).same s16, W, UU, .inr ⟨mf, _, _, _, rfl, (Pm14.same s15).same s16, R2, .inl ⟨rfl, .inl ⟨neO, rfl⟩⟩⟩, fun v2 J17 s17 o17 => ?_⟩
              walk_at "zz"
              refine v_tup fun d2 J18 m18 s18 f18 => ?_
              walk_at "zz"
              refine v_neOS (o17.same s18) (o' := rV "cards") ⟨d2, rfl, f18⟩ lay_cards lay_cards ?_
              walk_at "zz"
              refine v_ifF (by simp) ?_
              walk_at "zz"
              exact ⟨_, _, _, rfl, s14'.trans (s15.trans (s16.trans (s17.trans s18)))⟩
            · walk_at "zz"
              refine ⟨_, od, a, _, x, y, _, ws, _, _, L, n, rV "cards", rfl, Co14, Ca14, UU, W, .inl ⟨rfl, .inl ⟨neO', rfl⟩⟩, fun v1 J15 s15 o15 => ?_⟩
              walk_at "zz"
              refine v_tup fun d1 J16 m16 s16 f16 => ?_
              walk_at "zz"
              refine v_neOS (o15.same s16) (o' := rV "cards") ⟨d1, rfl, f16⟩ lay_cards lay_cards ?_
              walk_at "zz"
              refine v_ifF (by simp) ?_
              walk_at "zz"
              refine ⟨_, od, a, _, x, y, _, ws, _, _, L, n, rV "cards", rfl, (Co14.same s15).same s16, (Ca14.same s15).same s16, UU, W, .inr ⟨mf, _, _, _, rfl, (Pm14.same s15).same s16, R2, .inl ⟨rfl, .inl ⟨neO', rfl⟩⟩⟩, fun v2 J17 s17 o17 => ?_⟩
              walk_at "zz"
              refine v_tup fun d2 J18 m18 s18 f18 => ?_
              walk_at "zz"
              refine v_neOS (o17.same s18) (o' := rV "cards") ⟨d2, rfl, f18⟩ lay_cards lay_cards ?_
              walk_at "zz"
              refine v_ifF (by simp) ?_
              walk_at "zz"
              exact ⟨_, _, _, rfl, s14'.trans (s15.trans (s16.trans (s17.trans s18)))⟩
          · rintro σ J14 ⟨c12, c13, c14, rfl, s14'⟩
            have Ca14 := Ca13.same s14'
            have Pm14 := Pm13.same s14'
            have Pc14 := Pc13.same s14'
            walk_at "zz"
            refine ⟨_, a, a, _, x, y, ws, ws, L, n, L, n, rV "print", rfl, Ca14, Ca14, W, W, .inr ⟨mf, _, _, _, rfl, Pm14, R2, .inl ⟨rfl, .inr (.inl ⟨rfl, rfl, fun z => neN z.2, rfl⟩)⟩⟩, fun v1 J15 s15 o15 => ?_⟩
            walk_at "zz"
            refine v_tup fun d1 J16 m16 s16 f16 => ?_
            walk_at "zz"
            refine v_neOS (o15.same s16) (o' := rV "print") ⟨d1, rfl, f16⟩ lay_print lay_print ?_
            walk_at "zz"
            refine v_ifF (by simp) ?_
            walk_at "zz"
            have S16 := s15.trans s16
            have S10 : Same J9 J16 := s10'.trans (S13.trans (s14'.trans S16))
            have Ca16 := Ca14.same S16
            have Pc16 := Pc14.same S16
            cases oo with
            | none =>
              refine v_ifT (by rfl) ?_
              walk_at "zz"
              have S10' := S10
              have Ca16' := Ca16
              have Pc16' := Pc16
              have od16 : OptS J16 V.non (rS none) := rfl
              refine ⟨_, a, a, _, x, y, ws, ws, L, n, L, n, rS none, rfl, Ca16', Ca16', W, W, .inl ⟨rfl, .inr ⟨rfl, rfl, _, Sl, rfl⟩⟩, fun v2 J17 s17 o17 => ?_⟩
              walk_at "zz"
              refine v_neOS o17 (od16.same s17) (lay_rS Wo) (lay_rS Wo) ?_
              rw [decide_eq_true rfl]
              walk_at "zz"
              refine ⟨_, a, a, _, x, y, ws, ws, L, n, L, n, rS none, rfl, Ca16'.same s17, Ca16'.same s17, W, W, .inr ⟨c, _, _, _, rfl, Pc16'.same s17, R, .inl ⟨rfl, .inr (.inr ⟨rfl, rfl, rfl, rfl, _, Sl, rfl⟩)⟩⟩, fun v3 J18 s18 o18 => ?_⟩
              walk_at "zz"
              refine v_neOS o18 ((od16.same s17).same s18) (lay_rS Wo) (lay_rS Wo) ?_
              rw [decide_eq_true rfl]
              walk_at "zz"
              exact ⟨_, _, _, _, _, _, rfl, S10'.trans (s17.trans s18)⟩
            | some z =>
              refine v_ifF (by rfl) ?_
              walk_at "zz"
              refine v_tup fun du J16b mb sb eb => ?_
              walk_at "zz"
              have S10' := S10.trans sb
              have Ca16' := Ca16.same sb
              have Pc16' := Pc16.same sb
              have od16 : OptS J16b (.ref du) (rS (some z)) := ⟨du, rfl, eb⟩
              refine ⟨_, a, a, _, x, y, ws, ws, L, n, L, n, rS (some z), rfl, Ca16', Ca16', W, W, .inl ⟨rfl, .inr ⟨rfl, rfl, _, Sl, rfl⟩⟩, fun v2 J17 s17 o17 => ?_⟩
              walk_at "zz"
              refine v_neOS o17 (od16.same s17) (lay_rS Wo) (lay_rS Wo) ?_
              rw [decide_eq_true rfl]
              walk_at "zz"
              refine ⟨_, a, a, _, x, y, ws, ws, L, n, L, n, rS (some z), rfl, Ca16'.same s17, Ca16'.same s17, W, W, .inr ⟨c, _, _, _, rfl, Pc16'.same s17, R, .inl ⟨rfl, .inr (.inr ⟨rfl, rfl, rfl, rfl, _, Sl, rfl⟩)⟩⟩, fun v3 J18 s18 o18 => ?_⟩
              walk_at "zz"
              refine v_neOS o18 ((od16.same s17).same s18) (lay_rS Wo) (lay_rS Wo) ?_
              rw [decide_eq_true rfl]
              walk_at "zz"
              exact ⟨_, _, _, _, _, _, rfl, S10'.trans (s17.trans s18)⟩
        · rintro σ J10 ⟨c9, c10, c11, c12, c13, c14, rfl, s10'⟩
          have Ca10 := Ca9.same s10'
          have Co10 := Co9.same s10'
          have Pc10 := Pc9.same s10'
          have Pm10 := Pm9.same s10'
          walk_at "zz"
          refine ⟨_, od, a, _, _, _, _, ws, _, _, L, n, rV "cards", rfl, Co10, Ca10, UU, W, .inr ⟨mf, _, _, _, rfl, Pm10, R2, .inr ⟨rfl, .inl ⟨neO', rfl⟩⟩⟩, fun v1 J15 s15 o15 => ?_⟩
          walk_at "zz"
          refine v_tup fun d1 J16 m16 s16 f16 => ?_
          walk_at "zz"
          refine v_neOS (o15.same s16) (o' := rV "cards") ⟨d1, rfl, f16⟩ lay_cards lay_cards ?_
          walk_at "zz"
          refine v_ifF (by simp) ?_
          walk_at "zz"
          have S16 := s15.trans s16
          have Ca16 := Ca10.same S16
          refine ⟨_, a, a, _, _, _, ws, ws, L, n, L, n, rV "print", rfl, Ca16, Ca16, W, W, .inr ⟨mf, _, _, _, rfl, Pm10.same S16, R2, .inr ⟨rfl, .inr (.inl ⟨rfl, rfl, fun z => neN z.2, rfl⟩)⟩⟩, fun v2 J17 s17 o17 => ?_⟩
          walk_at "zz"
          refine v_tup fun d2 J18 m18 s18 f18 => ?_
          walk_at "zz"
          refine v_eqOS (o17.same s18) (o' := rV "print") ⟨d2, rfl, f18⟩ lay_print lay_print ?_
          rw [decide_eq_true rfl]
          walk_at "zz"
          have S18 := S16.trans (s17.trans s18)
          have Ca18 := Ca10.same S18
          refine ⟨_, a, a, _, _, _, ws, ws, L, n, L, n, none, rfl, Ca18, Ca18, W, W, .inr ⟨c, _, _, _, rfl, Pc10.same S18, R, .inr ⟨rfl, .inr (.inr ⟨rfl, rfl, rfl, rfl, rfl⟩)⟩⟩, fun v3 J19 s19 o19 => ?_⟩
          have e19 : v3 = .non := o19
          subst e19
          walk_at "zz"
          exact k _
end
end Sk
namespace Sk
open PySem PySem.Spec PyProof.Rows L2
/-! step words: z one step, zz as far as it goes, at: what stands at an address -/
local macro_rules
  | `(tactic| walk_at "zz") => `(tactic| repeat first
    | (with_reducible refine z_seq ?_) | (with_reducible refine z_asg ?_) | (with_reducible refine z_gname ?_) | (with_reducible refine z_var (by with_unfolding_all rfl) ?_)
    | (with_reducible refine z_c ?_) | (with_reducible refine z_op ?_) | (with_reducible refine z_cons ?_) | (with_reducible refine z_nil ?_)
    | (with_reducible refine z_next ?_) | (with_reducible refine z_call ?_) | (with_reducible refine z_drop ?_) | (with_reducible refine z_ret ?_)
    | (with_reducible refine z_ifs ?_) | (with_reducible refine z_un ?_) | (with_reducible refine z_chain ?_) | (with_reducible refine z_rI0 ?_)
    | (with_reducible refine z_eqI ?_) | (with_reducible refine z_neI ?_) | (with_reducible refine z_eqS ?_) | (with_reducible refine z_neS ?_)
    | (with_reducible refine z_eqB ?_) | (with_reducible refine z_neB ?_) | (with_reducible refine z_test ?_) | (with_reducible refine z_tB ?_)
    | (with_reducible refine z_bl ?_) | (with_reducible refine z_and ?_) | (with_reducible refine z_or ?_) | (with_reducible refine z_not ?_)
    | (with_reducible refine z_andV ?_) | (with_reducible refine z_orV ?_) | (with_reducible refine z_notV ?_) | (with_reducible refine z_if ?_)
    | (with_reducible refine z_cb ?_) | (with_reducible refine z_part ?_) | (with_reducible refine z_noPart ?_) | (with_reducible refine z_int ?_)
    | (with_reducible refine z_sl ?_) | (with_reducible refine z_fld ?_) | (with_reducible refine z_tup ?_) | (with_reducible refine z_lst ?_)
    | (with_reducible refine z_bm ?_) | (with_reducible refine z_bm0 ?_) | (with_reducible refine z_fldS ?_) | (with_reducible refine z_rU ?_)
    | (with_reducible refine v_intI ?_) | (with_reducible refine v_intB ?_) | (with_reducible refine v_abs ?_) | (with_reducible refine v_isN ?_)
    | (with_reducible refine v_notN ?_) | (with_reducible refine v_cnt ?_) | (with_reducible refine z_make ?_) | (with_reducible refine z_tru ?_)
    | (with_reducible refine z_m1 ?_) | (with_reducible refine z_strI ?_) | (with_reducible refine z_zS ?_) | (with_reducible refine z_eS ?_)
    | (with_reducible refine v_isII ?_) | (with_reducible refine v_isIB ?_) | (with_reducible refine v_isBI ?_) | (with_reducible refine v_isBB ?_)
    | (with_reducible refine v_isNI ?_) | (with_reducible refine v_isIT ?_) | (with_reducible refine v_isST ?_) | (with_reducible refine v_isSS ?_)
    | (with_reducible refine v_isIS ?_) | (with_reducible refine z_sub ?_) | (with_reducible refine z_gcons ?_) | (with_reducible refine z_gnil ?_)
    | (with_reducible refine z_par ?_) | (with_reducible refine v_par ?_) | (with_reducible refine z_par3 ?_) | (with_reducible refine v_par3 ?_)
    | (with_reducible refine v_ipI ?_) | (with_reducible refine z_for ?_) | (with_reducible refine z_lc ?_) | (with_reducible refine z_yes ?_)
    | (with_reducible refine z_rng1 ?_) | (with_reducible refine z_rng2 ?_) | (with_reducible refine z_list ?_) | (with_reducible refine z_tupi ?_)
    | (with_reducible refine z_stri ?_) | (with_reducible refine v_istr ?_) | (with_reducible refine iteT ?_) | (with_reducible refine iteF ?_)
    | (with_reducible refine z_nT ?_) | (with_reducible refine z_nF ?_) | (with_reducible refine z_cont ?_) | (with_reducible refine z_brk ?_)
    | (with_reducible refine z_retN ?_) | (walk_at "zn"))
  | `(tactic| walk_at "zn") => `(tactic| first
    | ((with_reducible refine' v_ixL ?k1 ?k2 ?_); (case k1 => walk_at "sq"); (case k2 => rfl)) | ((with_reducible refine' v_ixT ?k1 ?k2 ?_); (case k1 => walk_at "st"); (case k2 => rfl)) | ((with_reducible refine' v_lenL ?k1 ?_); (case k1 => walk_at "sq")) | ((with_reducible refine' v_lenT ?k1 ?_); (case k1 => walk_at "st"))
    | ((with_reducible refine' v_slS ?k1 ?_); (case k1 => (rw [enc_len]; exact small (by omega)))) | ((with_reducible refine' v_lenS ?k1 ?_); (case k1 => (rw [enc_len]; exact small (by omega)))) | ((with_reducible refine' v_slL ?k1 ?_); (case k1 => walk_at "sq")) | ((with_reducible refine' z_tyL ?k1 ?_); (case k1 => walk_at "at"))
    | ((with_reducible refine' v_fld ?k1 ?k2 ?k3 ?k4 ?_); (case k1 => walk_at "at"); (case k2 => assumption); (case k3 => assumption); (case k4 => first | assumption | rfl)) | ((with_reducible refine' v_truL ?k1 ?_); (case k1 => walk_at "at")) | ((with_reducible refine' z_wipe ?k1 ?_); (case k1 => rfl)) | ((with_reducible refine' v_gtup ?k1 ?k2 ?_); (case k1 => walk_at "st"); (case k2 => rfl))
    | ((with_reducible refine' z_aug ?k1 ?_); (case k1 => rfl)) | ((with_reducible refine' v_ilist ?k1 ?_); (case k1 => walk_at "sq")) | ((with_reducible refine' v_itup ?k1 ?_); (case k1 => walk_at "st")) | ((with_reducible refine' z_rI ?k1 ?_); (case k1 => first | (show (_ : Int) ≠ _; omega) | exact .inl ⟨by decide, by decide⟩ | exact .inr ⟨by decide, by decide⟩ | exact ⟨by decide, by decide⟩ | exact .inl ⟨by omega, by omega⟩ | exact .inr ⟨by omega, by omega⟩))
    | ((with_reducible refine' z_var ?hv ?_); (case hv => rfl)))
  | `(tactic| walk_at "at") => `(tactic| first
    | assumption
    | ((with_reducible refine' same_at ?k1 ?k2); (case k1 => assumption); (case k2 => walk_at "at"))
    | ((with_reducible refine' but_at ?k1 ?k2 ?k3); (case k1 => assumption); (case k2 => first | assumption | (apply Ne.symm; assumption)); (case k3 => walk_at "at")))
  | `(tactic| walk_at "sq") => `(tactic| first
    | assumption
    | (refine' SqL.of ?k1; (case k1 => walk_at "at"))
    | ((with_reducible refine' Same.seq ?k1 ?k2); (case k1 => assumption); (case k2 => walk_at "sq")))
  | `(tactic| walk_at "st") => `(tactic| first
    | assumption
    | (refine' SqT.of ?k1; (case k1 => walk_at "at"))
    | ((with_reducible refine' same_tup ?k1 ?k2); (case k1 => assumption); (case k2 => walk_at "st")))
  | `(tactic| walk_at "sa") => `(tactic| first
    | assumption
    | exact Same.refl _
    | (refine' Same.trans ?k1 ?k2; (case k2 => assumption); (case k1 => walk_at "sa")))
/-! law. -/
open ClX (tCMeth)
abbrev s_law : Stmt := top 73
abbrev N_law : List Str := ["_law_script", "_law_bag_here", "_law_size", "_law_width", "_law_c", "_law_words", "_law_others", "_law_one", "_law_other", "_law_mixed", "_law_kind_here", "_law_rows", "_law_printed", "_law_even", "_law_slopes", "_law_k", "_law_due", "_law_p", "_law_q"]
theorem sc_law : FnScope N_law ["_law_script"] (defScope s_law) := ⟨rfl, rfl, rfl, by decide +kernel, rfl, by decide +kernel, by decide +kernel⟩
theorem rep_five (k : Nat) : (List.replicate k [V.int 5]).flatten = iL (List.replicate k (5 : Int)) := by
  induction k with
  | zero => rfl
  | succ k ih =>
    rw [List.replicate_succ, List.flatten_cons, ih, List.replicate_succ]
    rfl
theorem get_wL {ws : Ws} {i : Nat} {v : List Bool} (h : ws[i]? = some v) : (wL ws)[i]? = some (encV v) := by
  unfold wL
  rw [List.getElem?_map, h]
  rfl
def spLaw (K : PySem.W.Frag) : Sp := fun vs H Q _ => ∃ (l : Addr) (is : List Int), vs = [.ref l] ∧ SqL K H l (iL is) ∧ ∀ H', Q (.bl true) H'
/-- all that stands while the bag is used -/
structure Wld (K : PySem.W.Frag) (H : Hp) (b a a2 c l1 l2 l3 : Addr) (L n : Nat) (ws us : Ws) (rs : Rs) : Prop where
  S : Set_ K H a a2 l1 l2 L n ws us
  R : Rows K H c l3 L n rs
  B : Bag H b
  n1 : l1 ≠ b
  n2 : l2 ≠ b
  n3 : l3 ≠ b
  nx : ∀ xs, H l3 = some (.lst xs) → V.ref b ∉ xs
theorem Wld.same {K : PySem.W.Frag} {H H' : Hp} {b a a2 c l1 l2 l3 : Addr} {L n : Nat} {ws us : Ws} {rs : Rs} (W : Wld K H b a a2 c l1 l2 l3 L n ws us rs) (s : Same H H') : Wld K H' b a a2 c l1 l2 l3 L n ws us rs := by
  refine ⟨W.S.same s, W.R.same s, W.B.same s, W.n1, W.n2, W.n3, fun xs e => ?_⟩
  obtain ⟨ys, h1, _⟩ := W.R.l3
  have := s _ _ h1
  rw [e] at this
  cases this
  exact W.nx _ h1
theorem Wld.but {K : PySem.W.Frag} {H H' : Hp} {b a a2 c l1 l2 l3 : Addr} {L n : Nat} {ws us : Ws} {rs : Rs} (W : Wld K H b a a2 c l1 l2 l3 L n ws us rs) (s : But b H H') (B' : Bag H' b) : Wld K H' b a a2 c l1 l2 l3 L n ws us rs := by
  obtain ⟨y1, y2, y3, hy⟩ := id W.B
  obtain ⟨ys, h1, h2⟩ := W.R.l3
  have h1' := s _ _ W.n3 h1
  refine ⟨⟨W.S.F, W.S.a.but s hy, W.S.b.but s hy, s _ _ W.n1 W.S.l1, s _ _ W.n2 W.S.l2⟩, ⟨W.R.R, W.R.c.but s hy, ys, h1', h2.but_ne s (W.nx _ h1)⟩, B', W.n1, W.n2, W.n3, fun xs e => ?_⟩
  rw [h1'] at e
  cases e
  exact W.nx _ h1
def Slp (H : Hp) (v : V) : Prop := ∃ (t : Addr) (p q : Nat), v = .ref t ∧ H t = some (.tup [.int p, .int q]) ∧ p ≤ 9 ∧ q ≤ 9 ∧ 1 ≤ p + q
theorem Slp.same {H H' : Hp} {v : V} (t : Slp H v) (s : Same H H') : Slp H' v := by
  obtain ⟨p, x, y, e, h, r⟩ := t
  exact ⟨p, x, y, e, s _ _ h, r⟩
theorem Slp.but {H H' : Hp} {v : V} {l : Addr} {xs : List V} (t : Slp H v) (s : But l H H') (hl : H l = some (.lst xs)) : Slp H' v := by
  obtain ⟨p, x, y, e, h, r⟩ := t
  exact ⟨p, x, y, e, s _ _ (fun e => by rw [e, hl] at h; cases h) h, r⟩
theorem Slp.bag {H H' : Hp} {v : V} {l : Addr} (t : Slp H v) (s : But l H H') (B : Bag H l) : Slp H' v := by
  obtain ⟨_, _, _, hl⟩ := B
  exact t.but s hl
def dueAt (f t : Bool) : Nat → List Str
  | 0 => []
  | 1 => if f = true then [("front" : Str)] else []
  | _ + 2 => (if f = true then [("front" : Str)] else []) ++ (if t = true then [("top" : Str)] else [])
theorem dueAt_len (f t : Bool) (i : Nat) : (dueAt f t i).length ≤ 2 := by
  match i with
  | 0 => exact Nat.zero_le _
  | 1 => cases f <;> simp [dueAt]
  | i + 2 => cases f <;> cases t <;> simp [dueAt]
theorem due_names (f t g : Bool) : (dueAt f t 2).map V.str ++ [V.str "even"] ++ (if g = true then [V.str "between"] else []) = (names f t g).map V.str := by
  cases f <;> cases t <;> cases g <;> rfl
theorem lay_names (f t g : Bool) : PyData.canLayAll0 ((names f t g).map .str) = true := by
  cases f <;> cases t <;> cases g <;> decide +kernel
theorem v_ifj {b : Bool} {t u : TS} {D : Ends} {σ : L2.St} {H : Hp} (R : L2.St → Hp → Prop) (h1 : b = true → ∀ N : L2.St → Hp → Prop, (∀ σ' H', R σ' H' → N σ' H') → t { D with nx := N } σ H) (h2 : b = false → ∀ N : L2.St → Hp → Prop, (∀ σ' H', R σ' H' → N σ' H') → u { D with nx := N } σ H)
    (hd : ∀ σ' H', R σ' H' → D.nx σ' H') : if b = true then t D σ H else u D σ H := by
  cases b with
  | true => exact h1 rfl D.nx hd
  | false => exact h2 rfl D.nx hd
theorem flat_of (zs : List Str) : ∀ x ∈ zs.map V.str, Flat x := fun x hx => by
  obtain ⟨z, _, e⟩ := List.mem_map.mp hx
  exact .inr ⟨z, e.symm⟩
theorem Agree.swap {L n : Nat} {ws us : Ws} {rs : Rs} (F : Fit L n ws us) (h : Agree ws us rs) : Agree us ws rs := fun c hc t h1 h2 h3 => by
  rw [F.u] at hc
  rw [(F.swap.gw hc).2.len] at h2
  exact (h c (by rw [F.w]; exact hc) t h1 (by rw [(F.gw hc).2.len]; exact h2) h3).symm
section
variable {P : Program} {w : World} {K : PySem.W.Frag} {mg : Str → Option Value} {base : Heap}
theorem ok_law {f : Addr} {fd : FuncData} (F0 : Fun K "law" "law" s_law f fd) (T : Tx K mg)
    (G__law_bag : Glo P w K mg base CX0 1 "_law_bag" ["_law_script", "_law_at"] (spBag K))
    (G__law_extent : Glo P w K mg base CX0 3 "_law_extent" ["_law_bag_here"] spExtent)
    (G__law_word : Glo P w K mg base CX0 2 "_law_word" ["_law_bag_here", "_law_size"] spWord)
    (G__law_other_words : Glo P w K mg base CX0 3 "_law_other_words" ["_law_bag_here", "_law_words"] spOther)
    (G__law_marks : Glo P w K mg base CX0 3 "_law_marks" ["_law_bag_here", "_law_size", "_law_width"] spMarks)
    (G__law_card : Glo P w K mg base CX0 6 "_law_card" ["_law_words", "_law_marks_here"] (spCard K)) (M_Print : MkG P w K mg base CX0 3 "Print" (spPrintI K))
    (G__law_take : Glo P w K mg base CX0 1 "_law_take" ["_law_bag_here", "_law_many"] spTake)
    (G__law_kind : Glo P w K mg base CX0 3 "_law_kind" ["_law_bag_here"] spKind)
    (G__law_fitted_row : Glo P w K mg base CX0 5 "_law_fitted_row" ["_law_bag_here", "_law_kind_here", "_law_one", "_law_other"] spFitted)
    (G__law_first_spot : Glo P w K mg base CX0 2 "_law_first_spot" ["_law_words", "_law_others", "_law_rows", "_law_p", "_law_q"] spSpot)
    (G__law_heights_agree : Glo P w K mg base CX0 2 "_law_heights_agree" ["_law_words", "_law_others", "_law_rows"] spHts)
    (G__law_same : Glo P w K mg base CX0 3 "_law_same" ["_law_told", "_law_due"] (spSame K))
    (G_slopes_alike : Glo P w K mg base (L2.CX P w) 6 "slopes_alike" ["one", "other", "printed"] (spAll K))
    (G__law_one_print : Glo P w K mg base CX0 7 "_law_one_print" ["_law_one", "_law_other", "_law_printed", "_law_words", "_law_others", "_law_rows", "_law_p", "_law_q"] (spOne K))
    (G__law_all_prints : Glo P w K mg base CX0 6 "_law_all_prints" ["_law_one", "_law_other", "_law_words", "_law_others", "_law_p", "_law_q"] (spAllP K))
    (G__law_wrong : Glo P w K mg base CX0 8 "_law_wrong" ["_law_bag_here", "_law_one", "_law_printed"] (spWrong K)) :
    FnOk P w K mg base CX0 9 f fd ["_law_script"] (spLaw K) := by
  refine F0.ok (k := 8) sc_law (fun vs H Q E h => ?_) (fun cdv A outer s H vs Q E hr h => ?_)
  · obtain ⟨l, is, rfl, _⟩ := h
    rfl
  · obtain ⟨l, is, rfl, hl, k⟩ := h
    refine ⟨_, (pss_cons (ps_set (i := 1) sc_law.nd rfl (Or.inr rfl) (pe_g G__law_bag (hr.mono (by decide)) rfl pass0 (pa_cons (pv 0) (pa_cons pe_int pa_nil))))
      (pss_cons (ps_asg (pe_g G__law_extent (hr.mono (by decide)) rfl pass0 (pa_cons (pv 1) pa_nil)) (pg_tupK (K := K) 2 rfl rfl (pgs_cons (pg_name (i := 2) sc_law.nd rfl (Or.inr rfl)) (pgs_cons (pg_name (i := 3) sc_law.nd rfl (Or.inl rfl)) pgs_nil))))
      (pss_cons (ps_setLc (i := 5) (own := [("_law_c", 4)]) rfl sc_law.nd rfl rfl (sw_true rfl rfl rfl (by decide +kernel)) (pi_range1 (by rfl) T.n_range (pa_cons (pv 3) pa_nil)) (blkOk_by (N := N_law) (sc := defScope s_law) (by decide +kernel)) (fun _ _ _ _ _ => (pg_name (i := 4) sc_law.nd rfl (Or.inl rfl))) (fun _ _ _ _ _ => pts_nil) (fun _ _ _ _ _ => (pe_g G__law_word (hr.mono (by decide)) rfl pass0 (pa_cons (pv 1) (pa_cons (pv 2) pa_nil)))))
      (pss_cons (ps_set (i := 6) sc_law.nd rfl (Or.inl rfl) (pe_g G__law_other_words (hr.mono (by decide)) rfl pass0 (pa_cons (pv 1) (pa_cons (pv 5) pa_nil))))
      (pss_cons (ps_par (i := 7) (j := 8) (by rfl) sc_law.nd rfl rfl (by decide) rfl rfl (pa_cons (pe_g G__law_card (hr.mono (by decide)) rfl pass0 (pa_cons (pv 5) (pa_cons (pe_g G__law_marks (hr.mono (by decide)) rfl pass0 (pa_cons (pv 1) (pa_cons (pv 2) (pa_cons (pv 3) pa_nil)))) pa_nil))) (pa_cons (pe_g G__law_card (hr.mono (by decide)) rfl pass0 (pa_cons (pv 6) (pa_cons (pe_g G__law_marks (hr.mono (by decide)) rfl pass0 (pa_cons (pv 1) (pa_cons (pv 2) (pa_cons (pv 3) pa_nil)))) pa_nil))) pa_nil)) (by rfl))
      (pss_cons (ps_set (i := 1) sc_law.nd rfl (Or.inr rfl) (pe_g G__law_bag (hr.mono (by decide)) rfl pass0 (pa_cons (pv 0) (pa_cons pe_int pa_nil))))
      (pss_cons (ps_par (i := 9) (j := 10) (by rfl) sc_law.nd rfl rfl (by decide) rfl rfl (pa_cons (pe_g G__law_take (hr.mono (by decide)) rfl pass0 (pa_cons (pv 1) (pa_cons pe_int pa_nil))) (pa_cons (pe_g G__law_kind (hr.mono (by decide)) rfl pass0 (pa_cons (pv 1) pa_nil)) pa_nil)) (by rfl))
      (pss_cons (ps_set (i := 11) sc_law.nd rfl (Or.inl rfl) (pe_lst pa_nil))
      (pss_cons (ps_for PassesOwn.never rfl (pi_range1 (by rfl) T.n_range (pa_cons (pv 3) pa_nil)) (pg_name (i := 4) sc_law.nd rfl (Or.inl rfl))
        (pss_one (ps_expr (pe_bm PySem.F.plainAttrs_list PySem.F.slot_list_append PySem.F.type_list_append mt_append (pv 11) (pa_cons (pe_ifExp (PW.pt (pw_or (pt_cmpR op_eq (pv 9) pe_int (nomark _)) (pw_or1 (pt_cmpR op_eq (pe_op op_modN (pv 4) pe_int) pe_int (nomark _))))) (pe_g G__law_fitted_row (hr.mono (by decide)) rfl pass0 (pa_cons (pv 1) (pa_cons (pv 10) (pa_cons (pe_ix (ixL (K := K) rfl) (pv 5) (pv 4) (fun _ _ => rfl)) (pa_cons (pe_ix (ixL (K := K) rfl) (pv 6) (pv 4) (fun _ _ => rfl)) pa_nil))))) (pe_op op_rep (pe_lst (pa_cons pe_int pa_nil)) (pe_op op_mul pe_int (pv 2)))) pa_nil)))))
      (pss_cons (ps_set (i := 12) sc_law.nd rfl (Or.inl rfl) (pe_mkg (K := K) rfl M_Print (hr.mono (by decide)) rfl pass0 (pa_cons (pv 11) pa_nil)))
      (pss_cons (ps_set (i := 13) sc_law.nd rfl (Or.inl rfl) (pe_op op_add pe_int (pe_g G__law_take (hr.mono (by decide)) rfl pass0 (pa_cons (pv 1) (pa_cons pe_int pa_nil)))))
      (pss_cons (ps_set (i := 14) sc_law.nd rfl (Or.inl rfl) (pe_lst (pa_cons (pe_tup (pa_cons (pe_op op_add pe_int (pe_g G__law_take (hr.mono (by decide)) rfl pass0 (pa_cons (pv 1) (pa_cons pe_int pa_nil)))) (pa_cons pe_int pa_nil))) (pa_cons (pe_tup (pa_cons pe_int (pa_cons (pe_op op_add pe_int (pe_g G__law_take (hr.mono (by decide)) rfl pass0 (pa_cons (pv 1) (pa_cons pe_int pa_nil)))) pa_nil))) (pa_cons (pe_tup (pa_cons (pv 13) (pa_cons (pv 13) pa_nil))) (pa_cons (pe_tup (pa_cons pe_int (pa_cons pe_int pa_nil))) (pa_cons (pe_tup (pa_cons pe_int (pa_cons pe_int pa_nil))) pa_nil)))))))
      (pss_cons (ps_for PassesOwn.never rfl (pi_range1 (by rfl) T.n_range (pa_cons pe_int pa_nil)) (pg_name (i := 15) sc_law.nd rfl (Or.inl rfl))
        (pss_one (ps_expr (pe_bm PySem.F.plainAttrs_list PySem.F.slot_list_append PySem.F.type_list_append mt_append (pv 14) (pa_cons (pe_tup (pa_cons (pe_op op_add pe_int (pe_g G__law_take (hr.mono (by decide)) rfl pass0 (pa_cons (pv 1) (pa_cons pe_int pa_nil)))) (pa_cons (pe_op op_add pe_int (pe_g G__law_take (hr.mono (by decide)) rfl pass0 (pa_cons (pv 1) (pa_cons pe_int pa_nil)))) pa_nil))) pa_nil)))))
      (pss_cons (ps_set (i := 16) sc_law.nd rfl (Or.inl rfl) (pe_lst pa_nil))
      (pss_cons (ps_for PassesOwn.never rfl (pi_tup (pe_tup (pa_cons (pe_tup (pa_cons pe_str (pa_cons pe_int (pa_cons pe_int pa_nil)))) (pa_cons (pe_tup (pa_cons pe_str (pa_cons pe_int (pa_cons pe_int pa_nil)))) pa_nil)))) (pg_tupK (K := K) 3 rfl rfl (pgs_cons (pg_name (i := 10) sc_law.nd rfl (Or.inl rfl)) (pgs_cons (pg_name (i := 17) sc_law.nd rfl (Or.inl rfl)) (pgs_cons (pg_name (i := 18) sc_law.nd rfl (Or.inl rfl)) pgs_nil))))
        (pss_one (ps_if (pt_cmpR op_isZ (pe_g G__law_first_spot (hr.mono (by decide)) rfl pass0 (pa_cons (pv 5) (pa_cons (pv 6) (pa_cons (pv 11) (pa_cons (pv 17) (pa_cons (pv 18) pa_nil)))))) pe_non (nomark _)) (pss_one (ps_expr (pe_bm PySem.F.plainAttrs_list PySem.F.slot_list_append PySem.F.type_list_append mt_append (pv 16) (pa_cons (pv 10) pa_nil)))) pss_nil)))
      (pss_cons (ps_expr (pe_bm PySem.F.plainAttrs_list PySem.F.slot_list_append PySem.F.type_list_append mt_append (pv 16) (pa_cons pe_str pa_nil)))
      (pss_cons (ps_if (pt_val (pe_g G__law_heights_agree (hr.mono (by decide)) rfl pass0 (pa_cons (pv 5) (pa_cons (pv 6) (pa_cons (pv 11) pa_nil))))) (pss_one (ps_expr (pe_bm PySem.F.plainAttrs_list PySem.F.slot_list_append PySem.F.type_list_append mt_append (pv 16) (pa_cons pe_str pa_nil)))) pss_nil)
      (pss_cons (ps_if (PW.pt (pw_or (pt_not (pt_val (pe_g G__law_same (hr.mono (by decide)) rfl pass0 (pa_cons (pe_g G_slopes_alike (hr.mono (by decide)) rfl passL (pa_cons (pv 7) (pa_cons (pv 8) (pa_cons (pv 12) pa_nil)))) (pa_cons (pe_callTy (tupK (K := K) rfl) (by rfl) T.n_tuple (by decide +kernel) (pa_cons (pv 16) pa_nil)) pa_nil))))) (pw_or1 (pt_cmpR (op_neD (hu64 hr)) (pe_g G_slopes_alike (hr.mono (by decide)) rfl passL (pa_cons (pv 8) (pa_cons (pv 7) (pa_cons (pv 12) pa_nil)))) (pe_callTy (tupK (K := K) rfl) (by rfl) T.n_tuple (by decide +kernel) (pa_cons (pv 16) pa_nil)) (nomark _))))) (pss_one (ps_ret pe_bl)) pss_nil)
      (pss_cons (ps_for PassesOwn.never rfl (pi_list (pv 14)) (pg_tupK (K := K) 2 rfl rfl (pgs_cons (pg_name (i := 17) sc_law.nd rfl (Or.inl rfl)) (pgs_cons (pg_name (i := 18) sc_law.nd rfl (Or.inl rfl)) pgs_nil)))
        (pss_cons (ps_if (pt_not (pt_val (pe_g G__law_one_print (hr.mono (by decide)) rfl pass0 (pa_cons (pv 7) (pa_cons (pv 8) (pa_cons (pv 12) (pa_cons (pv 5) (pa_cons (pv 6) (pa_cons (pv 11) (pa_cons (pv 17) (pa_cons (pv 18) pa_nil))))))))))) (pss_one (ps_ret pe_bl)) pss_nil)
        (pss_one (ps_if (pt_not (pt_val (pe_g G__law_one_print (hr.mono (by decide)) rfl pass0 (pa_cons (pv 8) (pa_cons (pv 7) (pa_cons (pv 12) (pa_cons (pv 6) (pa_cons (pv 5) (pa_cons (pv 11) (pa_cons (pv 17) (pa_cons (pv 18) pa_nil))))))))))) (pss_one (ps_ret pe_bl)) pss_nil))))
      (pss_cons (ps_for PassesOwn.never rfl (pi_list (pe_slice sl_list (pv 14) po_none (po_some pe_int))) (pg_tupK (K := K) 2 rfl rfl (pgs_cons (pg_name (i := 17) sc_law.nd rfl (Or.inl rfl)) (pgs_cons (pg_name (i := 18) sc_law.nd rfl (Or.inl rfl)) pgs_nil)))
        (pss_one (ps_if (PW.pt (pw_or (pt_not (pt_val (pe_g G__law_all_prints (hr.mono (by decide)) rfl pass0 (pa_cons (pv 7) (pa_cons (pv 8) (pa_cons (pv 5) (pa_cons (pv 6) (pa_cons (pv 17) (pa_cons (pv 18) pa_nil))))))))) (pw_or1 (pt_not (pt_val (pe_g G__law_all_prints (hr.mono (by decide)) rfl pass0 (pa_cons (pv 7) (pa_cons (pv 7) (pa_cons (pv 5) (pa_cons (pv 5) (pa_cons (pv 17) (pa_cons (pv 18) pa_nil)))))))))))) (pss_one (ps_ret pe_bl)) pss_nil)))
      (pss_one (ps_ret (pe_g G__law_wrong (hr.mono (by decide)) rfl pass0 (pa_cons (pv 1) (pa_cons (pv 7) (pa_cons (pv 12) pa_nil)))))))))))))))))))))))))), ?_⟩
    walk_at "zz"
    refine ⟨l, is, 0, rfl, by decide, hl, fun b H1 n1 s1 B1 => ?_⟩
    walk_at "zz"
    refine ⟨b, rfl, B1, fun pe L n H2 l1 l6 w1 w12 n2 b2 B2 e2 => ?_⟩
    have r2 : Same H H2 := same_but s1 n1 b2
    walk_at "zz"
    refine v_rng1 n rfl (by omega) ?_
    refine v_lcR (fun M i acc H' => Bag H' b ∧ Same H H' ∧ b ≠ M ∧ ∃ ws : Ws, acc = wL ws ∧ ws.length = i ∧ ∀ v ∈ ws, IsW L v) ?_ ?_ ?_
    · intro M H3 nM s3 e3
      exact ⟨B2.same s3, r2.trans s3, B2.ne nM, [], rfl, rfl, fun v hv => by cases hv⟩
    · rintro M i acc H3 hi nM e3 ⟨B3, r3, bM, ws, rfl, lw, aw⟩
      walk_at "zz"
      refine ⟨b, L, rfl, l1, l6, B3, fun v H4 hv b4 B4 => ?_⟩
      walk_at "zz"
      refine v_acc (b4 _ _ bM.symm e3) (by rw [wL_len, lw]; omega) fun H5 b5 e5 => ⟨B4.but bM b5, same_but (same_but r3 n1 b4) (same_free r2 nM) b5, bM, ws ++ [v], ?_, by simp [lw], fun v' hv' => ?_⟩
      · simp [wL]
      · rcases List.mem_append.mp hv' with h | h
        · exact aw v' h
        · rw [List.mem_singleton.mp h]
          exact hv
    · rintro l1' acc H3 nM e3 ⟨B3, r3, bM, ws, rfl, lw, aw⟩
      walk_at "zz"
      refine ⟨b, l1', ws, L, rfl, l1, l6, e3, by omega, aw, B3, bM, fun l2' us H4 n4 b4 B4 e4 lu au => ?_⟩
      have n12 : Bag H4 b := B4
      have e4' := b4 _ _ bM.symm e3
      have r4 : Same H H4 := same_but r3 n1 b4
      have F : Fit L n ws us := ⟨w1, w12, l1, l6, lw, by rw [lu, lw], aw, au⟩
      walk_at "zz"
      refine ⟨b, L, n, rfl, l1, l6, w1, w12, B4, fun m1 rs1 ms1 H5 n5 b5 B5 e5 t5 k51 k52 k53 => ?_⟩
      walk_at "zz"
      refine ⟨l1', m1, rs1, ws, ms1, L, n, rfl, b5 _ _ bM.symm e4', F.wok, e5, t5, ⟨k51, k52, k53⟩, fun a H6 n6 s6 Ca => ?_⟩
      have b2 : l2' ≠ b := (B3.ne n4).symm
      walk_at "zz"
      refine ⟨b, L, n, rfl, l1, l6, w1, w12, B5.same s6, fun m2 rs2 ms2 H7 n7 b7 B7 e7 t7 k71 k72 k73 => ?_⟩
      walk_at "zz"
      refine ⟨l2', m2, rs2, us, ms2, L, n, rfl, b7 _ _ b2 (s6 _ _ (b5 _ _ b2 e4)), F.swap.wok, e7, t7, ⟨k71, k72, k73⟩, fun a2 H8 n8 s8 Cb => ?_⟩
      obtain ⟨z1, z2, z3, hz⟩ := B5.same s6
      have S8 : Set_ K H8 a a2 l1' l2' L n ws us := ⟨F, (Ca.but b7 hz).same s8, Cb, s8 _ _ (b7 _ _ bM.symm (s6 _ _ (b5 _ _ bM.symm e4'))), s8 _ _ (b7 _ _ b2 (s6 _ _ (b5 _ _ b2 e4)))⟩
      have hl8 : SqL K H8 l (iL is) := Same.seq ((same_but ((same_but r4 n1 b5).trans s6) n1 b7).trans s8) hl
      walk_at "zz"
      refine ⟨l, is, 1, rfl, by decide, hl8, fun b' H9 n9 s9 B9 => ?_⟩
      have S9 := S8.same s9
      have q1 : l1' ≠ b' := fun e => by have := S8.l1; rw [e, n9] at this; cases this
      have q2 : l2' ≠ b' := fun e => by have := S8.l2; rw [e, n9] at this; cases this
      clear S8 hl8 hz s8 b7 s6 b5 r4 r3 r2 e4 Ca Cb B5 B7 B4 B3 e4' e3 t5 t7 e5 e7
      walk_at "zz"
      refine ⟨b', 2, rfl, by decide, by decide, B9, fun mx H10 mx0 mx1 b10 B10 => ?_⟩
      obtain ⟨y1, y2, y3, hy⟩ := id B9
      have S10 : Set_ K H10 a a2 l1' l2' L n ws us := ⟨F, S9.a.but b10 hy, S9.b.but b10 hy, b10 _ _ q1 S9.l1, b10 _ _ q2 S9.l2⟩
      walk_at "zz"
      refine ⟨b', rfl, B10, fun kz H11 b11 B11 => ?_⟩
      obtain ⟨y1', y2', y3', hy'⟩ := id B10
      have S11 : Set_ K H11 a a2 l1' l2' L n ws us := ⟨F, S10.a.but b11 hy', S10.b.but b11 hy', b11 _ _ q1 S10.l1, b11 _ _ q2 S10.l2⟩
      walk_at "zz"
      refine v_lst fun l3 H12 n12' s12 e12 => ?_
      walk_at "zz"
      refine v_rng1 n rfl (by omega) ?_
      have q3 : l3 ≠ b' := (B11.ne n12').symm
      have q4 : l1' ≠ l3 := fun e => by have := S11.l1; rw [e, n12'] at this; cases this
      have q5 : l2' ≠ l3 := fun e => by have := S11.l2; rw [e, n12'] at this; cases this
      refine v_for0 (fun i σ H' => ∃ (rs : Rs) (xs : List V) (c4 c12 c13 c14 c15 c16 c17 c18 : Option V), σ = [some (.ref l), some (.ref b'), some (.int L), some (.int n), c4, some (.ref l1'), some (.ref l2'), some (.ref a), some (.ref a2), some (.int mx), some (.str kz), some (.ref l3), c12, c13, c14, c15, c16, c17, c18] ∧ Set_ K H' a a2 l1' l2' L n ws us ∧ Bag H' b' ∧ H' l3 = some (.lst xs) ∧ Lsts H' xs rs ∧ rs.length = i ∧ (∀ r ∈ rs, r.length = 2 * L) ∧ V.ref b' ∉ xs ∧ V.ref l3 ∉ xs) ?_ ?_ ?_
      · exact ⟨[], [], _, _, _, _, _, _, _, _, rfl, S11.same s12, B11.same s12, e12, .nil, rfl, by simp, by simp, by simp⟩
      · rintro i σ H13 hi ⟨rs, xs, c4, c12, c13, c14, c15, c16, c17, c18, rfl, S13, B13, e13, t13, lr, ar, nb, nl⟩
        walk_at "zz"
        refine v_if (fun h1 => ?_) (fun h1 => ?_)
        · rw [if_pos rfl]
          have fw := F.gw hi
          have fu := F.swap.gw hi
          walk_at "zz"
          refine v_ixL (SqL.of S13.l1) (atI_nat (j := i) (get_wL fw.1)) ?_
          walk_at "zz"
          refine v_ixL (SqL.of S13.l2) (atI_nat (j := i) (get_wL fu.1)) ?_
          walk_at "zz"
          refine ⟨b', kz, _, _, L, rfl, l6, fw.2, fu.2, B13, fun pr is' H14 n14 b14 B14 e14 le14 => ?_⟩
          walk_at "zz"
          have np3 : pr ≠ l3 := fun e => by rw [e, e13] at n14; cases n14
          have npb : pr ≠ b' := (B13.ne n14).symm
          obtain ⟨y1, y2, y3, hy⟩ := id B13
          refine v_app (b14 _ _ q3 e13) (by rw [t13.len, lr]; omega) fun H15 b15 e15 => ?_
          obtain ⟨y1', y2', y3', hy'⟩ := id B14
          have S14 : Set_ K H14 a a2 l1' l2' L n ws us := ⟨F, S13.a.but b14 hy, S13.b.but b14 hy, b14 _ _ q1 S13.l1, b14 _ _ q2 S13.l2⟩
          have e14' := b14 _ _ q3 e13
          have S15 : Set_ K H15 a a2 l1' l2' L n ws us := ⟨F, S14.a.but b15 e14', S14.b.but b15 e14', b15 _ _ q4 S14.l1, b15 _ _ q5 S14.l2⟩
          refine ⟨rs ++ [is'], _, _, _, _, _, _, _, _, _, rfl, S15, B14.but q3.symm b15, e15, ((t13.but_ne b14 nb).but_ne b15 nl).snoc (b15 _ _ np3 e14), by simp [lr], fun r hr => ?_, ?_, ?_⟩
          · rcases List.mem_append.mp hr with h | h
            · exact ar r h
            · rw [List.mem_singleton.mp h]
              exact le14
          · simp only [List.mem_append, List.mem_singleton, not_or]
            exact ⟨nb, fun e => npb (by cases e; rfl)⟩
          · simp only [List.mem_append, List.mem_singleton, not_or]
            exact ⟨nl, fun e => np3 (by cases e; rfl)⟩
        · walk_at "zz"
          refine v_if (fun h2 => ?_) (fun h2 => ?_)
          · skip
            have fw := F.gw hi
            have fu := F.swap.gw hi
            walk_at "zz"
            refine v_ixL (SqL.of S13.l1) (atI_nat (j := i) (get_wL fw.1)) ?_
            walk_at "zz"
            refine v_ixL (SqL.of S13.l2) (atI_nat (j := i) (get_wL fu.1)) ?_
            walk_at "zz"
            refine ⟨b', kz, _, _, L, rfl, l6, fw.2, fu.2, B13, fun pr is' H14 n14 b14 B14 e14 le14 => ?_⟩
            walk_at "zz"
            have np3 : pr ≠ l3 := fun e => by rw [e, e13] at n14; cases n14
            have npb : pr ≠ b' := (B13.ne n14).symm
            obtain ⟨y1, y2, y3, hy⟩ := id B13
            refine v_app (b14 _ _ q3 e13) (by rw [t13.len, lr]; omega) fun H15 b15 e15 => ?_
            obtain ⟨y1', y2', y3', hy'⟩ := id B14
            have S14 : Set_ K H14 a a2 l1' l2' L n ws us := ⟨F, S13.a.but b14 hy, S13.b.but b14 hy, b14 _ _ q1 S13.l1, b14 _ _ q2 S13.l2⟩
            have e14' := b14 _ _ q3 e13
            have S15 : Set_ K H15 a a2 l1' l2' L n ws us := ⟨F, S14.a.but b15 e14', S14.b.but b15 e14', b15 _ _ q4 S14.l1, b15 _ _ q5 S14.l2⟩
            refine ⟨rs ++ [is'], _, _, _, _, _, _, _, _, _, rfl, S15, B14.but q3.symm b15, e15, ((t13.but_ne b14 nb).but_ne b15 nl).snoc (b15 _ _ np3 e14), by simp [lr], fun r hr => ?_, ?_, ?_⟩
            · rcases List.mem_append.mp hr with h | h
              · exact ar r h
              · rw [List.mem_singleton.mp h]
                exact le14
            · simp only [List.mem_append, List.mem_singleton, not_or]
              exact ⟨nb, fun e => npb (by cases e; rfl)⟩
            · simp only [List.mem_append, List.mem_singleton, not_or]
              exact ⟨nl, fun e => np3 (by cases e; rfl)⟩
          · skip
            walk_at "zz"
            refine v_lst fun f1 H14 n14 s14 e14 => ?_
            walk_at "zz"
            refine v_rep e14 (by omega) (by omega) (by simp) fun pr H15 n15 s15 e15 => ?_
            have e15' : H15 pr = some (.lst (iL (List.replicate (2 * L) (5 : Int)))) := by
              rw [e15]
              have : ((2 : Int) * (L : Int)).toNat = 2 * L := by omega
              rw [this]
              exact congrArg (fun z => some (HO.lst z)) (rep_five _)
            have S15 := (S13.same s14).same s15
            have e35 := s15 _ _ (s14 _ _ e13)
            have np3 : pr ≠ l3 := fun e => by rw [e, s14 _ _ e13] at n15; cases n15
            have npb : pr ≠ b' := ((B13.same s14).ne n15).symm
            walk_at "zz"
            refine v_app e35 (by rw [t13.len, lr]; omega) fun H16 b16 e16 => ?_
            have S16 : Set_ K H16 a a2 l1' l2' L n ws us := ⟨F, S15.a.but b16 e35, S15.b.but b16 e35, b16 _ _ q4 S15.l1, b16 _ _ q5 S15.l2⟩
            refine ⟨rs ++ [List.replicate (2 * L) (5 : Int)], _, _, _, _, _, _, _, _, _, rfl, S16, ((B13.same s14).same s15).but q3.symm b16, e16, (((t13.same s14).same s15).but_ne b16 nl).snoc (b16 _ _ np3 e15'), by simp [lr], fun r hr => ?_, ?_, ?_⟩
            · rcases List.mem_append.mp hr with h | h
              · exact ar r h
              · rw [List.mem_singleton.mp h]
                simp
            · simp only [List.mem_append, List.mem_singleton, not_or]
              exact ⟨nb, fun e => npb (by cases e; rfl)⟩
            · simp only [List.mem_append, List.mem_singleton, not_or]
              exact ⟨nl, fun e => np3 (by cases e; rfl)⟩
      · rintro σ H13 ⟨rs, xs, c4, c12, c13, c14, c15, c16, c17, c18, rfl, S13, B13, e13, t13, lr, ar, nb, nl⟩
        walk_at "zz"
        have R : FitR L n rs := ⟨lr, ar⟩
        refine v_make fun pc dc H14 n14 s14 e14 => ?_
        refine ⟨pc, dc, l3, xs, rs, L, n, rfl, e14, s14 _ _ e13, (t13.same s14).sqs, R.rok F, fun H15 b15 Pc => ⟨rfl, ?_⟩⟩
        have s15 : Same H13 H15 := same_but s14 n14 b15
        have S15 := S13.same s15
        have B15 := B13.same s15
        have e15 := s15 _ _ e13
        have t15 := t13.same s15
        walk_at "zz"
        have W15 : Wld K H15 b' a a2 pc l1' l2' l3 L n ws us rs := ⟨S15, ⟨R, Pc, xs, e15, t15⟩, B15, q1, q2, q3, fun ys e => by
          rw [e15] at e
          cases e
          exact nb⟩
        refine ⟨b', 9, rfl, by decide, by decide, B15, fun ev H16 ev0 ev1 b16 B16 => ?_⟩
        have W16 := W15.but b16 B16
        obtain ⟨e9, rfl⟩ := Int.eq_ofNat_of_zero_le ev0
        clear W15 S15 B15 e15 t15 s15 b15 Pc s14 e14 S13 B13 e13 t13 nb nl S11 S10 S9
        walk_at "zz"
        refine ⟨b', 9, rfl, by decide, by decide, B16, fun x1 H17 x10 x11 b17 B17 => ?_⟩
        have W17 := W16.but b17 B17
        obtain ⟨x1, rfl⟩ := Int.eq_ofNat_of_zero_le x10
        walk_at "zz"
        refine v_tup fun p1 H18 n18 s18 e18 => ?_
        have W18 := W17.same s18
        have T1 : Slp H18 (.ref p1) := ⟨p1, 1 + x1, 0, rfl, by rw [e18]; simp, by omega, by omega, by omega⟩
        walk_at "zz"
        refine ⟨b', 9, rfl, by decide, by decide, W18.B, fun x2 H19 x20 x21 b19 B19 => ?_⟩
        have W19 := W18.but b19 B19
        have T2 := T1.bag b19 W18.B
        obtain ⟨x2, rfl⟩ := Int.eq_ofNat_of_zero_le x20
        walk_at "zz"
        refine v_tup fun p2 H20 n20 s20 e20 => ?_
        have U2 : Slp H20 (.ref p2) := ⟨p2, 0, 1 + x2, rfl, by rw [e20]; simp, by omega, by omega, by omega⟩
        walk_at "zz"
        refine v_tup fun p3 H21 n21 s21 e21 => ?_
        have U3 : Slp H21 (.ref p3) := ⟨p3, 1 + e9, 1 + e9, rfl, by rw [e21]; simp, by omega, by omega, by omega⟩
        walk_at "zz"
        refine v_tup fun p4 H22 n22 s22 e22 => ?_
        have U4 : Slp H22 (.ref p4) := ⟨p4, 1, 2, rfl, e22, by omega, by omega, by omega⟩
        walk_at "zz"
        refine v_tup fun p5 H23 n23 s23 e23 => ?_
        have U5 : Slp H23 (.ref p5) := ⟨p5, 9, 1, rfl, e23, by omega, by omega, by omega⟩
        walk_at "zz"
        refine v_lst fun sl H24 n24 s24 e24 => ?_
        have sz0 := s18
        have S23 : Same H20 H24 := s21.trans (s22.trans (s23.trans s24))
        have W24 := (W19.same s20).same S23
        have V1 := (T2.same s20).same S23
        have V2 := U2.same S23
        have V3 := U3.same (s22.trans (s23.trans s24))
        have V4 := U4.same (s23.trans s24)
        have V5 := U5.same s24
        have nsb : sl ≠ b' := ((W19.same s20).same (s21.trans (s22.trans s23))).B.ne n24 |>.symm
        have W23 := (W19.same s20).same (s21.trans (s22.trans s23))
        walk_at "zz"
        refine v_rng1 3 rfl (by decide) ?_
        refine v_for0 (fun i σ H' => ∃ (ps : List V) (c4 c15 c16 c17 c18 : Option V), σ = [some (.ref l), some (.ref b'), some (.int L), some (.int n), c4, some (.ref l1'), some (.ref l2'), some (.ref a), some (.ref a2), some (.int mx), some (.str kz), some (.ref l3), some (.ref pc), some (.int (1 + (e9 : Int))), some (.ref sl), c15, c16, c17, c18] ∧ But b' H23 H' ∧ Bag H' b' ∧ H' sl = some (.lst ps) ∧ ps.length = 5 + i ∧ (∀ v ∈ ps, Slp H' v)) ?_ ?_ ?_
        · refine ⟨_, _, _, _, _, _, rfl, but_of s24, W24.B, e24, rfl, fun v hv => ?_⟩
          simp only [List.mem_cons, List.mem_nil_iff, or_false] at hv
          rcases hv with rfl | rfl | rfl | rfl | rfl <;> assumption
        · rintro i σ H25 hi ⟨ps, c4', c15', c16', c17', c18', rfl, b25, B25, e25, lp, ap⟩
          walk_at "zz"
          refine ⟨b', 9, rfl, by decide, by decide, B25, fun y1 H26 y10 y11 b26 B26 => ?_⟩
          obtain ⟨y1, rfl⟩ := Int.eq_ofNat_of_zero_le y10
          walk_at "zz"
          refine ⟨b', 9, rfl, by decide, by decide, B26, fun y2 H27 y20 y21 b27 B27 => ?_⟩
          obtain ⟨y2, rfl⟩ := Int.eq_ofNat_of_zero_le y20
          walk_at "zz"
          refine v_tup fun tp H28 n28 s28 e28 => ?_
          walk_at "zz"
          have e28' := s28 _ _ (b27 _ _ nsb (b26 _ _ nsb e25))
          refine v_app e28' (by omega) fun H29 b29 e29 => ?_
          refine ⟨_, _, _, _, _, _, rfl, but_but (but_trans b25 (but_trans b26 (but_trans b27 (but_of s28)))) n24 b29, (B27.same s28).but nsb.symm b29, e29, by simp [lp]; omega, fun v hv => ?_⟩
          rcases List.mem_append.mp hv with h | h
          · exact (((((ap v h).bag b26 B25).bag b27 B26).same s28).but b29 e28')
          · rw [List.mem_singleton.mp h]
            exact Slp.but ⟨tp, 1 + y1, 1 + y2, rfl, by rw [e28]; simp, by omega, by omega, by omega⟩ b29 e28'
        · rintro σ H25 ⟨ps, c4', c15', c16', c17', c18', rfl, b25, B25, e25, lp, ap⟩
          walk_at "zz"
          have W25 := W23.but b25 B25
          clear b25 B25 W24 V1 V2 V3 V4 V5 e24
          refine v_lst fun dl H26 n26 s26 e26 => ?_
          walk_at "zz"
          refine v_tup fun k1 H27 n27 s27 e27 => ?_
          walk_at "zz"
          refine v_tup fun k2 H28 n28 s28 e28 => ?_
          walk_at "zz"
          refine v_tup fun kk H29 n29 s29 e29 => ?_
          have k1e := s29 _ _ (s28 _ _ e27)
          have k2e := s29 _ _ e28
          have S29 : Same H25 H29 := s26.trans (s27.trans (s28.trans s29))
          have d29 := s29 _ _ (s28 _ _ (s27 _ _ e26))
          walk_at "zz"
          refine v_forT (xs := [.ref k1, .ref k2]) (fun i σ H' => ∃ (c4 c10 c15 c17 c18 : Option V), σ = [some (.ref l), some (.ref b'), some (.int L), some (.int n), c4, some (.ref l1'), some (.ref l2'), some (.ref a), some (.ref a2), some (.int mx), c10, some (.ref l3), some (.ref pc), some (.int (1 + (e9 : Int))), some (.ref sl), c15, some (.ref dl), c17, c18] ∧ Same H25 H' ∧ (∀ q o, q ≠ dl → H29 q = some o → H' q = some o) ∧ H' dl = some (.lst ((dueAt (decide (spot ws us rs 1 0 = none)) (decide (spot ws us rs 0 1 = none)) i).map .str))) ?_ ?_ ?_ ?_
          · exact ⟨_, _, _, _, _, rfl, S29, fun _ _ _ h => h, d29⟩
          · rintro i σ H30 ⟨c4'', c10'', c15'', c17'', c18'', rfl, s30, h30, d30⟩
            exact SqT.of (h30 _ _ (fun e => by rw [e, d29] at e29; cases e29) e29)
          · rintro i v σ H30 hv ⟨c4'', c10'', c15'', c17'', c18'', rfl, s30, h30, d30⟩
            have W30 := W25.same s30
            obtain ⟨xs3, hx3, tx3⟩ := W30.R.l3
            have k1e' := h30 _ _ (fun e => by rw [e, d29] at k1e; cases k1e) k1e
            have k2e' := h30 _ _ (fun e => by rw [e, d29] at k2e; cases k2e) k2e
            match i, hv with
            | 0, hv =>
              cases hv
              walk_at "zz"
              refine ⟨l1', l2', l3, xs3, L, n, ws, us, rs, 1, 0, rfl, F, R, by omega, by omega, W30.S.l1, W30.S.l2, hx3, tx3, fun y H31 s31 o31 => ?_⟩
              walk_at "zz"
              rw [o31.isN]
              have d31 := s31 _ _ d30
              refine v_if (fun hf => ?_) (fun hf => ?_)
              · walk_at "zz"
                refine v_app d31 (by simp [dueAt]) fun H32 b32 e32 => ?_
                exact ⟨_, _, _, _, _, rfl, same_but (s30.trans s31) n26 b32, fun q o hne h => b32 _ _ hne (s31 _ _ (h30 q o hne h)), by rw [e32, hf]; rfl⟩
              · walk_at "zz"
                exact ⟨_, _, _, _, _, rfl, s30.trans s31, fun q o hne h => s31 _ _ (h30 q o hne h), by rw [d31, hf]; rfl⟩
            | 1, hv =>
              cases hv
              walk_at "zz"
              refine ⟨l1', l2', l3, xs3, L, n, ws, us, rs, 0, 1, rfl, F, R, by omega, by omega, W30.S.l1, W30.S.l2, hx3, tx3, fun y H31 s31 o31 => ?_⟩
              walk_at "zz"
              rw [o31.isN]
              have d31 := s31 _ _ d30
              refine v_if (fun hf => ?_) (fun hf => ?_)
              · walk_at "zz"
                refine v_app d31 (by rw [List.length_map]; exact Nat.lt_of_le_of_lt (dueAt_len _ _ _) (by decide)) fun H32 b32 e32 => ?_
                exact ⟨_, _, _, _, _, rfl, same_but (s30.trans s31) n26 b32, fun q o hne h => b32 _ _ hne (s31 _ _ (h30 q o hne h)), by
                  rw [e32, hf]
                  generalize decide (spot ws us rs 1 0 = none) = g
                  cases g <;> rfl⟩
              · walk_at "zz"
                exact ⟨_, _, _, _, _, rfl, s30.trans s31, fun q o hne h => s31 _ _ (h30 q o hne h), by
                  rw [d31, hf]
                  generalize decide (spot ws us rs 1 0 = none) = g
                  cases g <;> rfl⟩
            | i + 2, hv => cases hv
          · rintro σ H30 ⟨c4'', c10'', c15'', c17'', c18'', rfl, s30, h30, d30⟩
            walk_at "zz"
            have d30' : H30 dl = some (.lst ((dueAt (decide (keeps true ws rs = keeps true us rs)) (decide (keeps false ws rs = keeps false us rs)) 2).map .str)) := by
              rw [d30, decide_eq_decide.mpr (spot_front (p := 1) (Nat.le_refl 1) F R), decide_eq_decide.mpr (spot_top (q := 1) (Nat.le_refl 1) F R)]
              rfl
            clear d30
            refine v_app d30' (by rw [List.length_map]; exact Nat.lt_of_le_of_lt (dueAt_len _ _ _) (by decide)) fun H31 b31 e31 => ?_
            have s31 : Same H25 H31 := same_but s30 n26 b31
            have W31 := W25.same s31
            obtain ⟨xs3, hx3, tx3⟩ := W31.R.l3
            walk_at "zz"
            refine ⟨l1', l2', l3, xs3, L, n, ws, us, rs, rfl, F, R, W31.S.l1, W31.S.l2, hx3, tx3, fun gb hgb => ?_⟩
            walk_at "zz"
            refine v_ifj (fun σ' H' => ∃ c4 c10 c15 c17 c18 : Option V, σ' = [some (.ref l), some (.ref b'), some (.int L), some (.int n), c4, some (.ref l1'), some (.ref l2'), some (.ref a), some (.ref a2), some (.int mx), c10, some (.ref l3), some (.ref pc), some (.int (1 + (e9 : Int))), some (.ref sl), c15, some (.ref dl), c17, c18] ∧ Same H25 H' ∧ H' dl = some (.lst ((names (decide (keeps true ws rs = keeps true us rs)) (decide (keeps false ws rs = keeps false us rs)) gb).map .str))) (fun hb N hN => ?_) (fun hb N hN => ?_) ?_
            · walk_at "zz"
              refine v_app e31 (by rw [List.length_append, List.length_map]; exact Nat.lt_of_le_of_lt (Nat.add_le_add_right (dueAt_len _ _ _) _) (by decide)) fun H32 b32 e32 => ?_
              refine hN _ _ ⟨_, _, _, _, _, rfl, same_but s31 n26 b32, ?_⟩
              rw [e32, hb]
              exact congrArg (fun z => some (HO.lst z)) (due_names _ _ true)
            · walk_at "zz"
              refine hN _ _ ⟨_, _, _, _, _, rfl, s31, ?_⟩
              rw [e31, hb]
              exact congrArg (fun z => some (HO.lst z)) ((List.append_nil _).symm.trans (due_names _ _ false))
            · rintro σ H32 ⟨c4, c10, c15, c17, c18, rfl, s32, d32⟩
              walk_at "zz"
              have W32 := W25.same s32
              refine ⟨a, a2, pc, ws, us, rs, L, n, L, n, L, n, rfl, W32.S.a, W32.S.b, W32.R.c, F.wok, F.swap.wok, R.rok F, .inr (.inr ⟨rfl, rfl, rfl, rfl, fun g1 t1 H33 hg1 s33 e33 => ?_⟩)⟩
              have g1e : g1 = gb := by
                cases g1 <;> cases gb <;> simp_all
              subst g1e
              have d33 := s33 _ _ d32
              walk_at "zz"
              refine v_tupL (SqL.of d33) fun t2 H34 n34 s34 e34 => ?_
              have e33' := s34 _ _ e33
              walk_at "zz"
              refine ⟨t1, _, .ref t2, dS _, dS _, rfl, e33', flat_of _, Dp.S e33', Dp.S e34, shS (lay_names _ _ _), shS (lay_names _ _ _), ?_⟩
              rw [eqv_dS, decide_eq_true rfl]
              walk_at "zz"
              have W34 := (W32.same s33).same s34
              refine ⟨a2, a, pc, us, ws, rs, L, n, L, n, L, n, rfl, W34.S.b, W34.S.a, W34.R.c, F.swap.wok, F.wok, R.rok F, .inr (.inr ⟨rfl, rfl, rfl, rfl, fun g2 t3 H35 hg2 s35 e35 => ?_⟩)⟩
              have g2e : g2 = g1 := by
                have := (hg2.trans ⟨fun h => h.swap F.swap, fun h => h.swap F⟩).trans hgb.symm
                cases g2 <;> cases g1 <;> simp_all
              subst g2e
              have d35 := s35 _ _ (s34 _ _ d33)
              walk_at "zz"
              refine v_tupL (SqL.of d35) fun t4 H36 n36 s36 e36 => ?_
              have e35' := s36 _ _ e35
              rw [decide_eq_decide.mpr (⟨Eq.symm, Eq.symm⟩ : keeps true us rs = keeps true ws rs ↔ keeps true ws rs = keeps true us rs), decide_eq_decide.mpr (⟨Eq.symm, Eq.symm⟩ : keeps false us rs = keeps false ws rs ↔ keeps false ws rs = keeps false us rs)] at e35'
              walk_at "zz"
              refine v_neOS (o := some _) (o' := some _) ⟨t3, rfl, e35'⟩ ⟨t4, rfl, e36⟩ (fun zs h => by cases h; exact lay_names _ _ _) (fun zs h => by cases h; exact lay_names _ _ _) ?_
              rw [decide_eq_true rfl]
              walk_at "zz"
              have s36' : Same H25 H36 := s32.trans (s33.trans (s34.trans (s35.trans s36)))
              have e25' := s36' _ _ e25
              clear e36 e35' e35 d35 s35 s36 s34 s33 e33 e33' e34 d33 d32 hg1 hg2 hgb W34 W32 W31 s32 hx3 tx3 e31 b31 s31 d30' h30 s30
              walk_at "zz"
              refine v_forL (xs := ps) (fun i σ H' => ∃ (c17 c18 : Option V), σ = [some (.ref l), some (.ref b'), some (.int L), some (.int n), c4, some (.ref l1'), some (.ref l2'), some (.ref a), some (.ref a2), some (.int mx), c10, some (.ref l3), some (.ref pc), some (.int (1 + (e9 : Int))), some (.ref sl), c15, some (.ref dl), c17, c18] ∧ Same H25 H') ?_ ?_ ?_ ?_
              · exact ⟨_, _, rfl, s36'⟩
              · rintro i σ H37 ⟨c17, c18, rfl, s37⟩
                exact SqL.of (s37 _ _ e25)
              · rintro i v σ H37 hv ⟨c17, c18, rfl, s37⟩
                obtain ⟨tt, p, q, rfl, htt, hp, hq, hpq⟩ := (ap v (List.mem_of_getElem? hv)).same s37
                have W37 := W25.same s37
                walk_at "zz"
                refine ⟨a, a2, pc, l1', l2', l3, p, q, L, n, ws, us, rs, rfl, W37.S, W37.R, hp, hq, hpq, fun H38 s38 => ?_⟩
                walk_at "zz"
                have W38 := W37.same s38
                refine ⟨a2, a, pc, l2', l1', l3, p, q, L, n, us, ws, rs, rfl, ⟨F.swap, W38.S.b, W38.S.a, W38.S.l2, W38.S.l1⟩, W38.R, hp, hq, hpq, fun H39 s39 => ?_⟩
                walk_at "zz"
                exact ⟨_, _, rfl, s37.trans (s38.trans s39)⟩
              · rintro σ H37 ⟨c17, c18, rfl, s37⟩
                have e37 := s37 _ _ e25
                walk_at "zz"
                intro s4 H38 n38 s38 e38
                walk_at "zz"
                refine v_forL (xs := cutV ps none (some 4)) (fun i σ H' => ∃ (c17 c18 : Option V), σ = [some (.ref l), some (.ref b'), some (.int L), some (.int n), c4, some (.ref l1'), some (.ref l2'), some (.ref a), some (.ref a2), some (.int mx), c10, some (.ref l3), some (.ref pc), some (.int (1 + (e9 : Int))), some (.ref sl), c15, some (.ref dl), c17, c18] ∧ Same H38 H') ?_ ?_ ?_ ?_
                · exact ⟨_, _, rfl, Same.refl _⟩
                · rintro i σ H39 ⟨c17, c18, rfl, s39⟩
                  exact SqL.of (s39 _ _ e38)
                · rintro i v σ H39 hv ⟨c17, c18, rfl, s39⟩
                  obtain ⟨tt, p, q, rfl, htt, hp, hq, hpq⟩ := (ap v (List.mem_of_mem_drop (List.mem_of_mem_take (List.mem_of_getElem? hv)))).same (s37.trans (s38.trans s39))
                  have W39 := W25.same (s37.trans (s38.trans s39))
                  walk_at "zz"
                  refine ⟨a, a2, l1', l2', p, q, L, n, ws, us, rfl, W39.S, hp, hq, hpq, fun H40 s40 => ?_⟩
                  walk_at "zz"
                  have W40 := W39.same s40
                  refine ⟨a, a, l1', l1', p, q, L, n, ws, ws, rfl, ⟨F.self, W40.S.a, W40.S.a, W40.S.l1, W40.S.l1⟩, hp, hq, hpq, fun H41 s41 => ?_⟩
                  walk_at "zz"
                  exact ⟨_, _, rfl, s39.trans (s40.trans s41)⟩
                · rintro σ H39 ⟨c17, c18, rfl, s39⟩
                  have W39 := W25.same (s37.trans (s38.trans s39))
                  walk_at "zz"
                  exact ⟨b', a, pc, ws, rs, L, n, rfl, W39.B, W39.S.a, W39.R.c, F.wok, R.rok F, fun H' => k H'⟩
end
end Sk
namespace Sk
open PySem PySem.Spec PyProof.Rows L2
/-! The head: what the looks say. -/
theorem isaB_ok {K : PySem.W.Frag} {C : Addr} (h : isaB K C = true) : IsaC K C := by
  obtain ⟨h1, h⟩ := He.ba h
  obtain ⟨h2, h⟩ := He.ba h
  obtain ⟨h3, h4⟩ := He.ba h
  exact ⟨He.eqO_ok h1, He.eqO_ok h2, of_decide_eq_true h3, of_decide_eq_true h4⟩
theorem exc_of {K : PySem.W.Frag} {C : Addr} (x : XfC K C) (i : IsaC K C) : ExcC K C := ⟨x.ga, x.gg, x.exC, x.hdC, i.ha, i.hn, i.ht, i.hm⟩
theorem rawB_ok {K : PySem.W.Frag} {C : Addr} (h : rawB K C = true) : ∃ nm q N bs bm sn sub ab col dd k0 k1 k2 k3 k5, K.lookup C = some (excClassObj nm q C N bs bm true sn sub ab col dd k0 k1 k2 k3 k5 "ValueError.__new__") ∧ PySem.HandSPX.refsVE bm = true := by
  unfold rawB at h
  split at h
  · rename_i t dd cd sl ho
    split at h
    · rename_i D bm k0 k1 k2 k3 n k5 hm hs
      obtain ⟨h1, h⟩ := He.ba h
      obtain ⟨h2, h⟩ := He.ba h
      obtain ⟨h3, h⟩ := He.ba h
      obtain ⟨h4, h⟩ := He.ba h
      obtain ⟨h5, h6⟩ := He.ba h
      have e1 := of_decide_eq_true h1
      have e2 := of_decide_eq_true h2
      have e3 := of_decide_eq_true h3
      subst e1 e2 e3
      obtain ⟨nm, bs, mro, ns, qn, hd, sn, sub, ab, col, del⟩ := cd
      dsimp only at hm h4 h5
      subst hm h5
      have h4' : del = false := by
        cases del with
        | false => rfl
        | true => cases h4
      subst h4'
      have hsl : sl = #[k0, k1, k2, k3, some (.builtin "ValueError.__new__"), k5] := by
        obtain ⟨l⟩ := sl
        simp only at hs
        rw [hs]
      subst hsl
      exact ⟨nm, qn, ns, bs, bm, sn, sub, ab, col, dd, k0, k1, k2, k3, k5, ho, h6⟩
    · cases h
  · cases h
theorem oexB_ok {K : PySem.W.Frag} {C : Addr} (h : oexB K C = true) : OexC K C := by
  obtain ⟨h1, h⟩ := He.ba h
  obtain ⟨h2, h⟩ := He.ba h
  obtain ⟨h3, h⟩ := He.ba h
  obtain ⟨h4, h5⟩ := He.ba h
  exact ⟨rawB_ok h1, He.eqO_ok h2, of_decide_eq_true h3, of_decide_eq_true h4, h5⟩
theorem sup_ok {K : PySem.W.Frag} {C : Addr} {qual : Str} {st : Stmt} (e : fnC K (He.ma K C "__init__") = valC qual st) (T : OexC K C) (w : PySem.W.findIn K (.ref C) "what" = some none) (h : supB K C qual = true) : ∃ fd, SupC P0 K C qual st (He.ma K C "__init__") fd := by
  obtain ⟨h0, h⟩ := He.ba h
  obtain ⟨h1, h⟩ := He.ba h
  obtain ⟨h2, h⟩ := He.ba h
  obtain ⟨h3, h⟩ := He.ba h
  obtain ⟨h4, h⟩ := He.ba h
  obtain ⟨h5, h⟩ := He.ba h
  obtain ⟨h6, h7⟩ := He.ba h
  obtain ⟨cdD, hD⟩ := Option.isSome_iff_exists.mp h3
  unfold fnC at e
  split at h0
  · rename_i oc od fd osl lk
    rw [lk] at e
    obtain ⟨n1, n2, n3, n4, n5, n6, n7, n8, n9, n10, n11, n12, n13, n14, n15⟩ := fd
    have e2 : (some (n1, n2, n3, n4, n5, n6, n15) : FnC) = some (("__init__" : Str), qual, defArgs st, .stmts (defBody st), defScope st, mainGlobals, builtinsNs) := e
    simp only [Option.some.injEq, Prod.mk.injEq] at e2
    obtain ⟨g1, g2, g3, g4, g5, g6, g7⟩ := e2
    subst g1 g2 g3 g4 g5 g6 g7
    obtain ⟨c1, c⟩ := He.ba h0
    obtain ⟨c2, c⟩ := He.ba c
    obtain ⟨c3, c4⟩ := He.ba c
    dsimp only at c1 c2 c3 c4
    have e8 := of_decide_eq_true c4
    subst e8
    unfold cellB at c1
    split at c1
    · rename_i x cc _
      obtain ⟨c5, c6⟩ := He.ba c1
      have ex := of_decide_eq_true c5
      subst ex
      split at c6
      · rename_i cl cld D csl lcc
        have eD := of_decide_eq_true c6
        subst eD
        unfold fileB at c3
        split at c3
        · rename_i cda _
          split at c3
          · rename_i ccl cdd vs ccs lcd
            split at c3
            · rename_i file tf hvs
              exact ⟨_, T, He.eqO_ok h1, of_decide_eq_true h2, ⟨oc, od, osl, n9, n10, n11, n12, cda, n14, cc, cl, cld, csl, ccl, cdd, ccs, vs, file, tf, cdD, rfl, lk, c2, lcc, lcd, hvs, c3, hD⟩, of_decide_eq_true h4, He.eqO_ok h5, He.eqO_ok h6, of_decide_eq_true h7, w⟩
            · cases c3
          · cases c3
        · cases c3
      · cases c6
    · cases c1
  · cases h0
theorem cread_ok {K : PySem.W.Frag} {C : Addr} (h : PySem.W.readsIn K C (.type "type") = true) : ClX.CRead K C (.type "type") := by
  refine ⟨h, ?_⟩
  unfold PySem.W.readsIn at h
  obtain ⟨h, _⟩ := He.ba h
  obtain ⟨h, _⟩ := He.ba h
  obtain ⟨h, h3⟩ := He.ba h
  obtain ⟨_, h2⟩ := He.ba h
  unfold PySem.W.specialIn
  rw [beq_iff_eq.mp h2, Option.bind_some]
  exact beq_iff_eq.mp h3
theorem exI {K : PySem.W.Frag} (h : exB K = true) (i : Nat) {p : PySem.W.Frag → Bool} (e : exL[i]? = some p := by rfl) : p K = true := List.all_eq_true.mp h p (List.mem_of_getElem? e)
end Sk
namespace Sk
open PySem PySem.Spec PyProof.Rows L2
/-! The head: each def by its name, what the classes say. -/
section
variable {K : PySem.W.Frag} {h : Heap} {mg : Str → Option Value} {w : World}
theorem at__law_take (X : K.In h) (G : h.Ns mainGlobals mg) (c : He5.SaysA fa fn K) : DefAt K mg "_law_take" ["_law_bag_here", "_law_many"] s__law_take := by
  obtain ⟨fd, F⟩ := c.def_ 0 (d := d_0) rfl
  exact ⟨⟨_, fd, He5.fun_of F, He.glo_ok X G (c.fact 34 (f := .glo "_law_take") rfl), F.bindsN fun _ _ _ _ _ _ us hl => match us, hl with | [_, _], _ => rfl⟩⟩
theorem at__law_pick (X : K.In h) (G : h.Ns mainGlobals mg) (c : He5.SaysA fa fn K) : DefAt K mg "_law_pick" ["_law_bag_here", "_law_some"] s__law_pick := by
  obtain ⟨fd, F⟩ := c.def_ 1 (d := d_1) rfl
  exact ⟨⟨_, fd, He5.fun_of F, He.glo_ok X G (c.fact 35 (f := .glo "_law_pick") rfl), F.bindsN fun _ _ _ _ _ _ us hl => match us, hl with | [_, _], _ => rfl⟩⟩
theorem at__law_extent (X : K.In h) (G : h.Ns mainGlobals mg) (c : He5.SaysA fa fn K) : DefAt K mg "_law_extent" ["_law_bag_here"] s__law_extent := by
  obtain ⟨fd, F⟩ := c.def_ 2 (d := d_2) rfl
  exact ⟨⟨_, fd, He5.fun_of F, He.glo_ok X G (c.fact 36 (f := .glo "_law_extent") rfl), F.bindsN fun _ _ _ _ _ _ us hl => match us, hl with | [_], _ => rfl⟩⟩
theorem at__law_word (X : K.In h) (G : h.Ns mainGlobals mg) (c : He5.SaysA fa fn K) : DefAt K mg "_law_word" ["_law_bag_here", "_law_size"] s__law_word := by
  obtain ⟨fd, F⟩ := c.def_ 3 (d := d_3) rfl
  exact ⟨⟨_, fd, He5.fun_of F, He.glo_ok X G (c.fact 37 (f := .glo "_law_word") rfl), F.bindsN fun _ _ _ _ _ _ us hl => match us, hl with | [_, _], _ => rfl⟩⟩
theorem at__law_downs (X : K.In h) (G : h.Ns mainGlobals mg) (c : He5.SaysA fa fn K) : DefAt K mg "_law_downs" ["_law_word_here", "_law_boundary"] s__law_downs := by
  obtain ⟨fd, F⟩ := c.def_ 4 (d := d_4) rfl
  exact ⟨⟨_, fd, He5.fun_of F, He.glo_ok X G (c.fact 38 (f := .glo "_law_downs") rfl), F.bindsN fun _ _ _ _ _ _ us hl => match us, hl with | [_, _], _ => rfl⟩⟩
theorem at__law_is_word (X : K.In h) (G : h.Ns mainGlobals mg) (c : He5.SaysA fa fn K) : DefAt K mg "_law_is_word" ["_law_word_here"] s__law_is_word := by
  obtain ⟨fd, F⟩ := c.def_ 5 (d := d_5) rfl
  exact ⟨⟨_, fd, He5.fun_of F, He.glo_ok X G (c.fact 39 (f := .glo "_law_is_word") rfl), F.bindsN fun _ _ _ _ _ _ us hl => match us, hl with | [_], _ => rfl⟩⟩
theorem at__law_ink (X : K.In h) (G : h.Ns mainGlobals mg) (c : He5.SaysA fa fn K) : DefAt K mg "_law_ink" ["_law_bag_here"] s__law_ink := by
  obtain ⟨fd, F⟩ := c.def_ 6 (d := d_6) rfl
  exact ⟨⟨_, fd, He5.fun_of F, He.glo_ok X G (c.fact 40 (f := .glo "_law_ink") rfl), F.bindsN fun _ _ _ _ _ _ us hl => match us, hl with | [_], _ => rfl⟩⟩
theorem at__law_kind (X : K.In h) (G : h.Ns mainGlobals mg) (c : He5.SaysA fa fn K) : DefAt K mg "_law_kind" ["_law_bag_here"] s__law_kind := by
  obtain ⟨fd, F⟩ := c.def_ 7 (d := d_7) rfl
  exact ⟨⟨_, fd, He5.fun_of F, He.glo_ok X G (c.fact 41 (f := .glo "_law_kind") rfl), F.bindsN fun _ _ _ _ _ _ us hl => match us, hl with | [_], _ => rfl⟩⟩
theorem at__law_bag (X : K.In h) (G : h.Ns mainGlobals mg) (c : He5.SaysA fa fn K) : DefAt K mg "_law_bag" ["_law_script", "_law_at"] s__law_bag := by
  obtain ⟨fd, F⟩ := c.def_ 8 (d := d_8) rfl
  exact ⟨⟨_, fd, He5.fun_of F, He.glo_ok X G (c.fact 42 (f := .glo "_law_bag") rfl), F.bindsN fun _ _ _ _ _ _ us hl => match us, hl with | [_, _], _ => rfl⟩⟩
theorem at__law_places (X : K.In h) (G : h.Ns mainGlobals mg) (c : He5.SaysA fa fn K) : DefAt K mg "_law_places" ["_law_word_here", "_law_letter"] s__law_places := by
  obtain ⟨fd, F⟩ := c.def_ 9 (d := d_9) rfl
  exact ⟨⟨_, fd, He5.fun_of F, He.glo_ok X G (c.fact 43 (f := .glo "_law_places") rfl), F.bindsN fun _ _ _ _ _ _ us hl => match us, hl with | [_, _], _ => rfl⟩⟩
theorem at__law_row (X : K.In h) (G : h.Ns mainGlobals mg) (c : He5.SaysA fa fn K) : DefAt K mg "_law_row" ["_law_bag_here", "_law_steps"] s__law_row := by
  obtain ⟨fd, F⟩ := c.def_ 10 (d := d_10) rfl
  exact ⟨⟨_, fd, He5.fun_of F, He.glo_ok X G (c.fact 44 (f := .glo "_law_row") rfl), F.bindsN fun _ _ _ _ _ _ us hl => match us, hl with | [_, _], _ => rfl⟩⟩
theorem at__law_tied (X : K.In h) (G : h.Ns mainGlobals mg) (c : He5.SaysA fa fn K) : DefAt K mg "_law_tied" ["_law_root", "_law_a", "_law_b"] s__law_tied := by
  obtain ⟨fd, F⟩ := c.def_ 11 (d := d_11) rfl
  exact ⟨⟨_, fd, He5.fun_of F, He.glo_ok X G (c.fact 45 (f := .glo "_law_tied") rfl), F.bindsN fun _ _ _ _ _ _ us hl => match us, hl with | [_, _, _], _ => rfl⟩⟩
theorem at__law_fitted_row (X : K.In h) (G : h.Ns mainGlobals mg) (c : He5.SaysA fa fn K) : DefAt K mg "_law_fitted_row" ["_law_bag_here", "_law_kind_here", "_law_one", "_law_other"] s__law_fitted_row := by
  obtain ⟨fd, F⟩ := c.def_ 12 (d := d_12) rfl
  exact ⟨⟨_, fd, He5.fun_of F, He.glo_ok X G (c.fact 46 (f := .glo "_law_fitted_row") rfl), F.bindsN fun _ _ _ _ _ _ us hl => match us, hl with | [_, _, _, _], _ => rfl⟩⟩
theorem at__law_inks_seen (X : K.In h) (G : h.Ns mainGlobals mg) (c : He5.SaysA fa fn K) : DefAt K mg "_law_inks_seen" ["_law_word_here", "_law_row_here", "_law_p", "_law_q"] s__law_inks_seen := by
  obtain ⟨fd, F⟩ := c.def_ 13 (d := d_13) rfl
  exact ⟨⟨_, fd, He5.fun_of F, He.glo_ok X G (c.fact 47 (f := .glo "_law_inks_seen") rfl), F.bindsN fun _ _ _ _ _ _ us hl => match us, hl with | [_, _, _, _], _ => rfl⟩⟩
theorem at__law_first_spot (X : K.In h) (G : h.Ns mainGlobals mg) (c : He5.SaysA fa fn K) : DefAt K mg "_law_first_spot" ["_law_words", "_law_others", "_law_rows", "_law_p", "_law_q"] s__law_first_spot := by
  obtain ⟨fd, F⟩ := c.def_ 14 (d := d_14) rfl
  exact ⟨⟨_, fd, He5.fun_of F, He.glo_ok X G (c.fact 48 (f := .glo "_law_first_spot") rfl), F.bindsN fun _ _ _ _ _ _ us hl => match us, hl with | [_, _, _, _, _], _ => rfl⟩⟩
theorem at__law_first_cell (X : K.In h) (G : h.Ns mainGlobals mg) (c : He5.SaysA fa fn K) : DefAt K mg "_law_first_cell" ["_law_words", "_law_others"] s__law_first_cell := by
  obtain ⟨fd, F⟩ := c.def_ 15 (d := d_15) rfl
  exact ⟨⟨_, fd, He5.fun_of F, He.glo_ok X G (c.fact 49 (f := .glo "_law_first_cell") rfl), F.bindsN fun _ _ _ _ _ _ us hl => match us, hl with | [_, _], _ => rfl⟩⟩
theorem at__law_heights_agree (X : K.In h) (G : h.Ns mainGlobals mg) (c : He5.SaysA fa fn K) : DefAt K mg "_law_heights_agree" ["_law_words", "_law_others", "_law_rows"] s__law_heights_agree := by
  obtain ⟨fd, F⟩ := c.def_ 16 (d := d_16) rfl
  exact ⟨⟨_, fd, He5.fun_of F, He.glo_ok X G (c.fact 50 (f := .glo "_law_heights_agree") rfl), F.bindsN fun _ _ _ _ _ _ us hl => match us, hl with | [_, _, _], _ => rfl⟩⟩
theorem at__law_plain (X : K.In h) (G : h.Ns mainGlobals mg) (c : He5.SaysA fa fn K) : DefAt K mg "_law_plain" ["_law_thing"] s__law_plain := by
  obtain ⟨fd, F⟩ := c.def_ 17 (d := d_17) rfl
  exact ⟨⟨_, fd, He5.fun_of F, He.glo_ok X G (c.fact 51 (f := .glo "_law_plain") rfl), F.bindsN fun _ _ _ _ _ _ us hl => match us, hl with | [_], _ => rfl⟩⟩
theorem at__law_same (X : K.In h) (G : h.Ns mainGlobals mg) (c : He5.SaysA fa fn K) : DefAt K mg "_law_same" ["_law_told", "_law_due"] s__law_same := by
  obtain ⟨fd, F⟩ := c.def_ 18 (d := d_18) rfl
  exact ⟨⟨_, fd, He5.fun_of F, He.glo_ok X G (c.fact 52 (f := .glo "_law_same") rfl), F.bindsN fun _ _ _ _ _ _ us hl => match us, hl with | [_, _], _ => rfl⟩⟩
theorem at__law_marks (X : K.In h) (G : h.Ns mainGlobals mg) (c : He5.SaysA fa fn K) : DefAt K mg "_law_marks" ["_law_bag_here", "_law_size", "_law_width"] s__law_marks := by
  obtain ⟨fd, F⟩ := c.def_ 19 (d := d_19) rfl
  exact ⟨⟨_, fd, He5.fun_of F, He.glo_ok X G (c.fact 53 (f := .glo "_law_marks") rfl), F.bindsN fun _ _ _ _ _ _ us hl => match us, hl with | [_, _, _], _ => rfl⟩⟩
theorem at__law_other_words (X : K.In h) (G : h.Ns mainGlobals mg) (c : He5.SaysA fa fn K) : DefAt K mg "_law_other_words" ["_law_bag_here", "_law_words"] s__law_other_words := by
  obtain ⟨fd, F⟩ := c.def_ 20 (d := d_20) rfl
  exact ⟨⟨_, fd, He5.fun_of F, He.glo_ok X G (c.fact 54 (f := .glo "_law_other_words") rfl), F.bindsN fun _ _ _ _ _ _ us hl => match us, hl with | [_, _], _ => rfl⟩⟩
theorem at_is_whole (X : K.In h) (G : h.Ns mainGlobals mg) (c : He5.SaysA fa fn K) : DefAt K mg "is_whole" ["thing", "low", "high"] s_is_whole := by
  obtain ⟨fd, F⟩ := c.def_ 21 (d := d_21) rfl
  exact ⟨⟨_, fd, He5.fun_of F, He.glo_ok X G (c.fact 55 (f := .glo "is_whole") rfl), F.bindsN fun _ _ _ _ _ _ us hl => match us, hl with | [_, _, _], _ => rfl⟩⟩
theorem at_is_ink (X : K.In h) (G : h.Ns mainGlobals mg) (c : He5.SaysA fa fn K) : DefAt K mg "is_ink" ["thing"] s_is_ink := by
  obtain ⟨fd, F⟩ := c.def_ 22 (d := d_22) rfl
  exact ⟨⟨_, fd, He5.fun_of F, He.glo_ok X G (c.fact 56 (f := .glo "is_ink") rfl), F.bindsN fun _ _ _ _ _ _ us hl => match us, hl with | [_], _ => rfl⟩⟩
theorem at_spot_of (X : K.In h) (G : h.Ns mainGlobals mg) (c : He5.SaysA fa fn K) : DefAt K mg "spot_of" ["word", "boundary", "p", "q"] s_spot_of := by
  obtain ⟨fd, F⟩ := c.def_ 23 (d := d_23) rfl
  exact ⟨⟨_, fd, He5.fun_of F, He.glo_ok X G (c.fact 57 (f := .glo "spot_of") rfl), F.bindsN fun _ _ _ _ _ _ us hl => match us, hl with | [_, _, _, _], _ => rfl⟩⟩
theorem at_is_mark (X : K.In h) (G : h.Ns mainGlobals mg) (c : He5.SaysA fa fn K) : DefAt K mg "is_mark" ["thing", "width", "size"] s_is_mark := by
  obtain ⟨fd, F⟩ := c.def_ 24 (d := d_24) rfl
  exact ⟨⟨_, fd, He5.fun_of F, He.glo_ok X G (c.fact 58 (f := .glo "is_mark") rfl), F.bindsN fun _ _ _ _ _ _ us hl => match us, hl with | [_, _, _], _ => rfl⟩⟩
theorem at_row_fault (X : K.In h) (G : h.Ns mainGlobals mg) (c : He5.SaysA fa fn K) : DefAt K mg "row_fault" ["row", "steps"] s_row_fault := by
  obtain ⟨fd, F⟩ := c.def_ 25 (d := d_25) rfl
  exact ⟨⟨_, fd, He5.fun_of F, He.glo_ok X G (c.fact 59 (f := .glo "row_fault") rfl), F.bindsN fun _ _ _ _ _ _ us hl => match us, hl with | [_, _], _ => rfl⟩⟩
theorem at_word_fault (X : K.In h) (G : h.Ns mainGlobals mg) (c : He5.SaysA fa fn K) : DefAt K mg "word_fault" ["thing"] s_word_fault := by
  obtain ⟨fd, F⟩ := c.def_ 26 (d := d_26) rfl
  exact ⟨⟨_, fd, He5.fun_of F, He.glo_ok X G (c.fact 60 (f := .glo "word_fault") rfl), F.bindsN fun _ _ _ _ _ _ us hl => match us, hl with | [_], _ => rfl⟩⟩
theorem at_Column (X : K.In h) (G : h.Ns mainGlobals mg) (c : He5.SaysA fa fn K) : InitAt K mg "Column" "Column.__init__" ["self", "word"] s_Column___init__ := by
  obtain ⟨fd, F⟩ := c.def_ 27 (d := d_27) rfl
  exact ⟨⟨_, fd, _, _, F, He.glo_ok X G (c.fact 15 (f := .glo "Column") rfl), He.mkr_ok (c.fact 61 (f := .mkr "Column") rfl), F.bindsN fun _ _ _ _ _ _ us hl => match us, hl with | [_, _], _ => rfl⟩⟩
theorem at_check_columns (X : K.In h) (G : h.Ns mainGlobals mg) (c : He5.SaysA fa fn K) : DefAt K mg "check_columns" ["columns"] s_check_columns := by
  obtain ⟨fd, F⟩ := c.def_ 28 (d := d_28) rfl
  exact ⟨⟨_, fd, He5.fun_of F, He.glo_ok X G (c.fact 62 (f := .glo "check_columns") rfl), F.bindsN fun _ _ _ _ _ _ us hl => match us, hl with | [_], _ => rfl⟩⟩
theorem at_checked_marks (X : K.In h) (G : h.Ns mainGlobals mg) (c : He5.SaysA fa fn K) : DefAt K mg "checked_marks" ["marks", "taken", "width", "size"] s_checked_marks := by
  obtain ⟨fd, F⟩ := c.def_ 29 (d := d_29) rfl
  exact ⟨⟨_, fd, He5.fun_of F, He.glo_ok X G (c.fact 63 (f := .glo "checked_marks") rfl), F.bindsN fun _ _ _ _ _ _ us hl => match us, hl with | [_, _, _, _], _ => rfl⟩⟩
theorem at_Card (X : K.In h) (G : h.Ns mainGlobals mg) (c : He5.SaysA fa fn K) : InitAt K mg "Card" "Card.__init__" ["self", "columns", "marks"] s_Card___init__ := by
  obtain ⟨fd, F⟩ := c.def_ 30 (d := d_30) rfl
  have bnd : Binds K fd ["self", "columns", "marks"] [] := by
    obtain ⟨ds, hv, hb⟩ := F.binds1 (ps := ["self", "columns", "marks"]) 3 1 (by intro z; cases z) (by rfl) (fun T kV doc pm an cdv ct us its hl hi => match us, its, hl, hi with | [_, _, _], [_], _, _ => ⟨_, rfl, rfl⟩)
    have e : ds = [] := by
      cases hv
      rfl
    rw [e] at hb
    exact hb
  exact ⟨⟨_, fd, _, _, F, He.glo_ok X G (c.fact 16 (f := .glo "Card") rfl), He.mkr_ok (c.fact 64 (f := .mkr "Card") rfl), bnd⟩⟩
theorem at__law_card (X : K.In h) (G : h.Ns mainGlobals mg) (c : He5.SaysA fa fn K) : DefAt K mg "_law_card" ["_law_words", "_law_marks_here"] s__law_card := by
  obtain ⟨fd, F⟩ := c.def_ 31 (d := d_31) rfl
  exact ⟨⟨_, fd, He5.fun_of F, He.glo_ok X G (c.fact 65 (f := .glo "_law_card") rfl), F.bindsN fun _ _ _ _ _ _ us hl => match us, hl with | [_, _], _ => rfl⟩⟩
theorem at_check_extent (X : K.In h) (G : h.Ns mainGlobals mg) (c : He5.SaysA fa fn K) : DefAt K mg "check_extent" ["size", "width"] s_check_extent := by
  obtain ⟨fd, F⟩ := c.def_ 32 (d := d_32) rfl
  exact ⟨⟨_, fd, He5.fun_of F, He.glo_ok X G (c.fact 66 (f := .glo "check_extent") rfl), F.bindsN fun _ _ _ _ _ _ us hl => match us, hl with | [_, _], _ => rfl⟩⟩
theorem at_Print (X : K.In h) (G : h.Ns mainGlobals mg) (c : He5.SaysA fa fn K) : InitAt K mg "Print" "Print.__init__" ["self", "inks"] s_Print___init__ := by
  obtain ⟨fd, F⟩ := c.def_ 33 (d := d_33) rfl
  exact ⟨⟨_, fd, _, _, F, He.glo_ok X G (c.fact 17 (f := .glo "Print") rfl), He.mkr_ok (c.fact 67 (f := .mkr "Print") rfl), F.bindsN fun _ _ _ _ _ _ us hl => match us, hl with | [_, _], _ => rfl⟩⟩
theorem at_check_print (X : K.In h) (G : h.Ns mainGlobals mg) (c : He5.SaysA fa fn K) : DefAt K mg "check_print" ["card", "printed"] s_check_print := by
  obtain ⟨fd, F⟩ := c.def_ 34 (d := d_34) rfl
  exact ⟨⟨_, fd, He5.fun_of F, He.glo_ok X G (c.fact 68 (f := .glo "check_print") rfl), F.bindsN fun _ _ _ _ _ _ us hl => match us, hl with | [_, _], _ => rfl⟩⟩
theorem at_check_cards (X : K.In h) (G : h.Ns mainGlobals mg) (c : He5.SaysA fa fn K) : DefAt K mg "check_cards" ["one", "other"] s_check_cards := by
  obtain ⟨fd, F⟩ := c.def_ 35 (d := d_35) rfl
  exact ⟨⟨_, fd, He5.fun_of F, He.glo_ok X G (c.fact 69 (f := .glo "check_cards") rfl), F.bindsN fun _ _ _ _ _ _ us hl => match us, hl with | [_, _], _ => rfl⟩⟩
theorem at_check_slope (X : K.In h) (G : h.Ns mainGlobals mg) (c : He5.SaysA fa fn K) : DefAt K mg "check_slope" ["p", "q"] s_check_slope := by
  obtain ⟨fd, F⟩ := c.def_ 36 (d := d_36) rfl
  exact ⟨⟨_, fd, He5.fun_of F, He.glo_ok X G (c.fact 70 (f := .glo "check_slope") rfl), F.bindsN fun _ _ _ _ _ _ us hl => match us, hl with | [_, _], _ => rfl⟩⟩
theorem at_first_unlike_step (X : K.In h) (G : h.Ns mainGlobals mg) (c : He5.SaysA fa fn K) : DefAt K mg "first_unlike_step" ["one", "other"] s_first_unlike_step := by
  obtain ⟨fd, F⟩ := c.def_ 37 (d := d_37) rfl
  exact ⟨⟨_, fd, He5.fun_of F, He.glo_ok X G (c.fact 71 (f := .glo "first_unlike_step") rfl), F.bindsN fun _ _ _ _ _ _ us hl => match us, hl with | [_, _], _ => rfl⟩⟩
theorem at_inks_by_spot (X : K.In h) (G : h.Ns mainGlobals mg) (c : He5.SaysA fa fn K) : DefAt K mg "inks_by_spot" ["pieces"] s_inks_by_spot := by
  obtain ⟨fd, F⟩ := c.def_ 38 (d := d_38) rfl
  exact ⟨⟨_, fd, He5.fun_of F, He.glo_ok X G (c.fact 72 (f := .glo "inks_by_spot") rfl), F.bindsN fun _ _ _ _ _ _ us hl => match us, hl with | [_], _ => rfl⟩⟩
theorem at_first_unlike_spot (X : K.In h) (G : h.Ns mainGlobals mg) (c : He5.SaysA fa fn K) : DefAt K mg "first_unlike_spot" ["pieces", "others"] s_first_unlike_spot := by
  obtain ⟨fd, F⟩ := c.def_ 39 (d := d_39) rfl
  exact ⟨⟨_, fd, He5.fun_of F, He.glo_ok X G (c.fact 73 (f := .glo "first_unlike_spot") rfl), F.bindsN fun _ _ _ _ _ _ us hl => match us, hl with | [_, _], _ => rfl⟩⟩
theorem at_column_pieces (X : K.In h) (G : h.Ns mainGlobals mg) (c : He5.SaysA fa fn K) : DefAt K mg "column_pieces" ["word", "row", "p", "q"] s_column_pieces := by
  obtain ⟨fd, F⟩ := c.def_ 40 (d := d_40) rfl
  exact ⟨⟨_, fd, He5.fun_of F, He.glo_ok X G (c.fact 74 (f := .glo "column_pieces") rfl), F.bindsN fun _ _ _ _ _ _ us hl => match us, hl with | [_, _, _, _], _ => rfl⟩⟩
theorem at_inks_of_letter (X : K.In h) (G : h.Ns mainGlobals mg) (c : He5.SaysA fa fn K) : DefAt K mg "inks_of_letter" ["card", "printed", "letter"] s_inks_of_letter := by
  obtain ⟨fd, F⟩ := c.def_ 41 (d := d_41) rfl
  exact ⟨⟨_, fd, He5.fun_of F, He.glo_ok X G (c.fact 75 (f := .glo "inks_of_letter") rfl), F.bindsN fun _ _ _ _ _ _ us hl => match us, hl with | [_, _, _], _ => rfl⟩⟩
theorem at_front_view (X : K.In h) (G : h.Ns mainGlobals mg) (c : He5.SaysA fa fn K) : DefAt K mg "front_view" ["card", "printed"] s_front_view := by
  obtain ⟨fd, F⟩ := c.def_ 42 (d := d_42) rfl
  exact ⟨⟨_, fd, He5.fun_of F, He.glo_ok X G (c.fact 76 (f := .glo "front_view") rfl), F.bindsN fun _ _ _ _ _ _ us hl => match us, hl with | [_, _], _ => rfl⟩⟩
theorem at_top_view (X : K.In h) (G : h.Ns mainGlobals mg) (c : He5.SaysA fa fn K) : DefAt K mg "top_view" ["card", "printed"] s_top_view := by
  obtain ⟨fd, F⟩ := c.def_ 43 (d := d_43) rfl
  exact ⟨⟨_, fd, He5.fun_of F, He.glo_ok X G (c.fact 77 (f := .glo "top_view") rfl), F.bindsN fun _ _ _ _ _ _ us hl => match us, hl with | [_, _], _ => rfl⟩⟩
theorem at_slope_view (X : K.In h) (G : h.Ns mainGlobals mg) (c : He5.SaysA fa fn K) : DefAt K mg "slope_view" ["card", "printed", "p", "q"] s_slope_view := by
  obtain ⟨fd, F⟩ := c.def_ 44 (d := d_44) rfl
  exact ⟨⟨_, fd, He5.fun_of F, He.glo_ok X G (c.fact 78 (f := .glo "slope_view") rfl), F.bindsN fun _ _ _ _ _ _ us hl => match us, hl with | [_, _, _, _], _ => rfl⟩⟩
theorem at_alike_from (X : K.In h) (G : h.Ns mainGlobals mg) (c : He5.SaysA fa fn K) : DefAt K mg "alike_from" ["one", "other", "p", "q"] s_alike_from := by
  obtain ⟨fd, F⟩ := c.def_ 45 (d := d_45) rfl
  exact ⟨⟨_, fd, He5.fun_of F, He.glo_ok X G (c.fact 79 (f := .glo "alike_from") rfl), F.bindsN fun _ _ _ _ _ _ us hl => match us, hl with | [_, _, _, _], _ => rfl⟩⟩
theorem at_alike_by (X : K.In h) (G : h.Ns mainGlobals mg) (c : He5.SaysA fa fn K) : DefAt K mg "alike_by" ["one", "other", "printed", "p", "q"] s_alike_by := by
  obtain ⟨fd, F⟩ := c.def_ 46 (d := d_46) rfl
  exact ⟨⟨_, fd, He5.fun_of F, He.glo_ok X G (c.fact 80 (f := .glo "alike_by") rfl), F.bindsN fun _ _ _ _ _ _ us hl => match us, hl with | [_, _, _, _, _], _ => rfl⟩⟩
theorem at_alike_between (X : K.In h) (G : h.Ns mainGlobals mg) (c : He5.SaysA fa fn K) : DefAt K mg "alike_between" ["one", "other", "printed"] s_alike_between := by
  obtain ⟨fd, F⟩ := c.def_ 47 (d := d_47) rfl
  exact ⟨⟨_, fd, He5.fun_of F, He.glo_ok X G (c.fact 81 (f := .glo "alike_between") rfl), F.bindsN fun _ _ _ _ _ _ us hl => match us, hl with | [_, _, _], _ => rfl⟩⟩
theorem at_slopes_alike (X : K.In h) (G : h.Ns mainGlobals mg) (c : He5.SaysA fa fn K) : DefAt K mg "slopes_alike" ["one", "other", "printed"] s_slopes_alike := by
  obtain ⟨fd, F⟩ := c.def_ 48 (d := d_48) rfl
  exact ⟨⟨_, fd, He5.fun_of F, He.glo_ok X G (c.fact 82 (f := .glo "slopes_alike") rfl), F.bindsN fun _ _ _ _ _ _ us hl => match us, hl with | [_, _, _], _ => rfl⟩⟩
theorem at__law_refused (X : K.In h) (G : h.Ns mainGlobals mg) (c : He5.SaysA fa fn K) : DefAt K mg "_law_refused" ["_law_how", "_law_one", "_law_other", "_law_printed", "_law_p", "_law_q"] s__law_refused := by
  obtain ⟨fd, F⟩ := c.def_ 49 (d := d_49) rfl
  exact ⟨⟨_, fd, He5.fun_of F, He.glo_ok X G (c.fact 83 (f := .glo "_law_refused") rfl), F.bindsN fun _ _ _ _ _ _ us hl => match us, hl with | [_, _, _, _, _, _], _ => rfl⟩⟩
theorem at_Print_alone (c : He5.SaysA fa fn K) (hx : exB K = true) : CmAt K "Print" "alone" "Print.alone" ["cls", "size", "width", "column", "step"] s_Print_alone := by
  obtain ⟨fd, F⟩ := c.def_ 50 (d := d_50) rfl
  exact ⟨⟨.type "type", _, _, fd, cread_ok (exI hx 1), He5.cmet_of (exI hx 2) (exI hx 3), He5.fun_of F, F.bindsN fun _ _ _ _ _ _ us hl => match us, hl with | [_, _, _, _, _], _ => rfl⟩⟩
theorem at__law_one_print (X : K.In h) (G : h.Ns mainGlobals mg) (c : He5.SaysA fa fn K) : DefAt K mg "_law_one_print" ["_law_one", "_law_other", "_law_printed", "_law_words", "_law_others", "_law_rows", "_law_p", "_law_q"] s__law_one_print := by
  obtain ⟨fd, F⟩ := c.def_ 51 (d := d_51) rfl
  exact ⟨⟨_, fd, He5.fun_of F, He.glo_ok X G (c.fact 84 (f := .glo "_law_one_print") rfl), F.bindsN fun _ _ _ _ _ _ us hl => match us, hl with | [_, _, _, _, _, _, _, _], _ => rfl⟩⟩
theorem at__law_all_prints (X : K.In h) (G : h.Ns mainGlobals mg) (c : He5.SaysA fa fn K) : DefAt K mg "_law_all_prints" ["_law_one", "_law_other", "_law_words", "_law_others", "_law_p", "_law_q"] s__law_all_prints := by
  obtain ⟨fd, F⟩ := c.def_ 52 (d := d_52) rfl
  exact ⟨⟨_, fd, He5.fun_of F, He.glo_ok X G (c.fact 85 (f := .glo "_law_all_prints") rfl), F.bindsN fun _ _ _ _ _ _ us hl => match us, hl with | [_, _, _, _, _, _], _ => rfl⟩⟩
theorem at__law_wrong (X : K.In h) (G : h.Ns mainGlobals mg) (c : He5.SaysA fa fn K) : DefAt K mg "_law_wrong" ["_law_bag_here", "_law_one", "_law_printed"] s__law_wrong := by
  obtain ⟨fd, F⟩ := c.def_ 53 (d := d_53) rfl
  exact ⟨⟨_, fd, He5.fun_of F, He.glo_ok X G (c.fact 86 (f := .glo "_law_wrong") rfl), F.bindsN fun _ _ _ _ _ _ us hl => match us, hl with | [_, _, _], _ => rfl⟩⟩
theorem tx_ok (X : K.In h) (G : h.Ns mainGlobals mg) (c : He5.SaysA fa fn K) (hx : exB K = true) : Tx K mg :=
  ⟨He.free_ok X G (c.fact 0 (f := .free "isinstance") rfl),
    He.free_ok X G (c.fact 1 (f := .free "int") rfl),
    He.free_ok X G (c.fact 2 (f := .free "bool") rfl),
    He.free_ok X G (c.fact 3 (f := .free "str") rfl),
    He.free_ok X G (c.fact 4 (f := .free "list") rfl),
    He.free_ok X G (c.fact 5 (f := .free "tuple") rfl),
    He.free_ok X G (c.fact 6 (f := .free "len") rfl),
    He.free_ok X G (c.fact 7 (f := .free "range") rfl),
    He.free_ok X G (c.fact 8 (f := .free "zip") rfl),
    He.free_ok X G (c.fact 9 (f := .free "enumerate") rfl),
    He.free_ok X G (c.fact 10 (f := .free "abs") rfl),
    He.free_ok X G (c.fact 11 (f := .free "sorted") rfl),
    He.int_ok X G (c.fact 12 (f := .int "MOST_SIZE" 6) rfl),
    He.int_ok X G (c.fact 13 (f := .int "MOST_WIDTH" 12) rfl),
    He.int_ok X G (c.fact 14 (f := .int "STEEPEST" 9) rfl),
    He.glo_ok X G (c.fact 15 (f := .glo "Column") rfl),
    He.glo_ok X G (c.fact 16 (f := .glo "Card") rfl),
    He.glo_ok X G (c.fact 17 (f := .glo "Print") rfl),
    He.glo_ok X G (c.fact 18 (f := .glo "CardError") rfl),
    He.glo_ok X G (c.fact 19 (f := .glo "BadView") rfl),
    He.glo_ok X G (c.fact 20 (f := .glo "BadSlope") rfl),
    isaB_ok (exI hx 0),
    He.cls_ok (c.fact 21 (f := .cls "Column") rfl),
    He.cls_ok (c.fact 22 (f := .cls "Card") rfl),
    He.cls_ok (c.fact 23 (f := .cls "Print") rfl),
    He.noat_ok (c.fact 24 (f := .noat "Column" "word") rfl),
    He.noat_ok (c.fact 25 (f := .noat "Column" "size") rfl),
    He.noat_ok (c.fact 26 (f := .noat "Card" "columns") rfl),
    He.noat_ok (c.fact 27 (f := .noat "Card" "marks") rfl),
    He.noat_ok (c.fact 28 (f := .noat "Card" "size") rfl),
    He.noat_ok (c.fact 29 (f := .noat "Card" "width") rfl),
    He.noat_ok (c.fact 30 (f := .noat "Card" "words") rfl),
    He.noat_ok (c.fact 31 (f := .noat "Print" "inks") rfl),
    He.noat_ok (c.fact 32 (f := .noat "Print" "size") rfl),
    He.noat_ok (c.fact 33 (f := .noat "Print" "width") rfl)⟩
theorem xf_ok (X : K.In h) (G : h.Ns mainGlobals mg) (c : He5.SaysA fa fn K) (hx : exB K = true) : XFacts K :=
  ⟨xfB_ok (exI hx 6), xfB_ok (exI hx 7), He.noat_ok (c.fact 88 (f := .noat "BadView" "what") rfl), He.noat_ok (c.fact 90 (f := .noat "BadSlope" "what") rfl),
    exc_of (xfB_ok (exI hx 6)) (isaB_ok (exI hx 8)), exc_of (xfB_ok (exI hx 7)) (isaB_ok (exI hx 9)), of_decide_eq_true (exI hx 10), of_decide_eq_true (exI hx 11),
    He.exm_ok (c.fact 89 (f := .exm "BadView" "CardError" true) rfl), He.exm_ok (c.fact 91 (f := .exm "BadSlope" "CardError" true) rfl)⟩
theorem bindS {C f : Addr} {fd : FuncData} {qual : Str} {st : Stmt} (S : SupC P0 K C qual st f fd) (hb : ∀ (kV doc pm : Value) (an : Option Addr) (cdv ct : Value) (cc : Addr) (us : List Value), us.length = 2 → bindArgs (PySem.W.ksFn "__init__" qual (defArgs st) (defBody st) (defScope st) .none kV doc pm an cdv ct cc) ⟨us, []⟩ = pure ((["self", "what"] : List Str).zip us)) : Binds K fd ["self", "what"] [] := by
  obtain ⟨oc, od, osl, kV, doc, pm, an, cda, ct, cc, cl, cld, csl, ccl, cdd, ccs, vs, file, tf, cdD, rfl, _⟩ := S.ex
  exact .all fun us hl => hb _ _ _ _ _ _ _ us hl
theorem ex_BadView (X : K.In h) (G : h.Ns mainGlobals mg) (c : He5.SaysA fa fn K) (hx : exB K = true) (hc : fnC K (He.ma K (bvA K) "__init__") = valC "BadView.__init__" s_BadView) {base : Heap} : ExG P0 w K mg base CX0 1 "BadView" := by
  obtain ⟨fd, S⟩ := sup_ok hc (oexB_ok (exI hx 4)) (He.noat_ok (c.fact 88 (f := .noat "BadView" "what") rfl)) (exI hx 12)
  exact ⟨⟨_, fd, S.T, S.iC, S.tI, ok_BadView S (He.free_ok X G (c.fact 92 (f := .free "super") rfl)), bindS S (fun _ _ _ _ _ _ _ us hl => match us, hl with | [_, _], _ => rfl), He.glo_ok X G (c.fact 19 (f := .glo "BadView") rfl)⟩⟩
theorem ex_BadSlope (X : K.In h) (G : h.Ns mainGlobals mg) (c : He5.SaysA fa fn K) (hx : exB K = true) (hc : fnC K (He.ma K (bsA K) "__init__") = valC "BadSlope.__init__" s_BadSlope) {base : Heap} : ExG P0 w K mg base CX0 1 "BadSlope" := by
  obtain ⟨fd, S⟩ := sup_ok hc (oexB_ok (exI hx 5)) (He.noat_ok (c.fact 90 (f := .noat "BadSlope" "what") rfl)) (exI hx 13)
  exact ⟨⟨_, fd, S.T, S.iC, S.tI, ok_BadSlope S (He.free_ok X G (c.fact 92 (f := .free "super") rfl)), bindS S (fun _ _ _ _ _ _ _ us hl => match us, hl with | [_, _], _ => rfl), He.glo_ok X G (c.fact 20 (f := .glo "BadSlope") rfl)⟩⟩
theorem whole (X : K.In h) (G : h.Ns mainGlobals mg) (hz : obsZ K = valZ) : ∃ (f : Addr) (fd : FuncData), mg "law" = some (.ref f) ∧ (∀ (s : Shared) (v : Value), BindsTo s fd ⟨[v], []⟩ [("_law_script", v)]) ∧ ∀ base : Heap, FnOk P0 w K mg base CX0 9 f fd ["_law_script"] (spLaw K) := by
  have c : He5.SaysA fa fn K := congrArg (fun z : AlZ => z.1) hz
  have hx : exB K = true := congrArg (fun z : AlZ => z.2.2) hz
  have hcv : fnC K (He.ma K (bvA K) "__init__") = valC "BadView.__init__" s_BadView := congrArg (fun z : AlZ => z.2.1.1) hz
  have hcs : fnC K (He.ma K (bsA K) "__init__") = valC "BadSlope.__init__" s_BadSlope := congrArg (fun z : AlZ => z.2.1.2) hz
  have T := tx_ok X G c hx
  have XF := xf_ok X G c hx
  obtain ⟨fd, F⟩ := c.def_ 54 (d := d_54) rfl
  have b := F.bindsA (ps := ["_law_script"]) fun _ _ _ _ _ _ us hl => match us, hl with | [_], _ => rfl
  refine ⟨_, fd, He.glo_ok X G (c.fact 87 (f := .glo "law") rfl), fun s v => b s [v] rfl, fun base => ?_⟩
  have X_BadView := ex_BadView (w := w) (base := base) X G c hx hcv
  have X_BadSlope := ex_BadSlope (w := w) (base := base) X G c hx hcs
  have G__law_take := ok__law_take (P := P0) (w := w) (base := base) (at__law_take X G c) T
  have G__law_pick := ok__law_pick (P := P0) (w := w) (base := base) (at__law_pick X G c) T G__law_take
  have G__law_extent := ok__law_extent (P := P0) (w := w) (base := base) (at__law_extent X G c) T G__law_pick
  have G__law_word := ok__law_word (P := P0) (w := w) (base := base) (at__law_word X G c) T G__law_take
  have G__law_downs := ok__law_downs (P := P0) (w := w) (base := base) (at__law_downs X G c) T
  have G__law_is_word := ok__law_is_word (P := P0) (w := w) (base := base) (at__law_is_word X G c) T
  have G__law_ink := ok__law_ink (P := P0) (w := w) (base := base) (at__law_ink X G c) T G__law_take G__law_pick
  have G__law_kind := ok__law_kind (P := P0) (w := w) (base := base) (at__law_kind X G c) T G__law_pick
  have G__law_bag := ok__law_bag (P := P0) (w := w) (base := base) (at__law_bag X G c) T
  have G__law_places := ok__law_places (P := P0) (w := w) (base := base) (at__law_places X G c) T
  have G__law_row := ok__law_row (P := P0) (w := w) (base := base) (at__law_row X G c) T G__law_take G__law_ink
  have G__law_tied := ok__law_tied (P := P0) (w := w) (base := base) (at__law_tied X G c) T
  have G__law_fitted_row := ok__law_fitted_row (P := P0) (w := w) (base := base) (at__law_fitted_row X G c) T G__law_row G__law_tied G__law_places G__law_downs G__law_ink G__law_pick
  have G__law_inks_seen := ok__law_inks_seen (P := P0) (w := w) (base := base) (at__law_inks_seen X G c) T
  have G__law_first_spot := ok__law_first_spot (P := P0) (w := w) (base := base) (at__law_first_spot X G c) T G__law_inks_seen
  have G__law_first_cell := ok__law_first_cell (P := P0) (w := w) (base := base) (at__law_first_cell X G c) T
  have G__law_heights_agree := ok__law_heights_agree (P := P0) (w := w) (base := base) (at__law_heights_agree X G c) T G__law_downs
  have G__law_plain := ok__law_plain (P := P0) (w := w) (base := base) (at__law_plain X G c) T
  have G__law_same := ok__law_same (P := P0) (w := w) (base := base) (at__law_same X G c) T G__law_plain
  have G__law_marks := ok__law_marks (P := P0) (w := w) (base := base) (at__law_marks X G c) T G__law_take G__law_pick
  have G__law_other_words := ok__law_other_words (P := P0) (w := w) (base := base) (at__law_other_words X G c) T G__law_take G__law_word G__law_is_word
  have G_is_whole := ok_is_whole (P := P0) (w := w) (base := base) (at_is_whole X G c) T
  have G_is_ink := ok_is_ink (P := P0) (w := w) (base := base) (at_is_ink X G c) T
  have G_spot_of := ok_spot_of (P := P0) (w := w) (base := base) (at_spot_of X G c) T
  have G_is_mark := ok_is_mark (P := P0) (w := w) (base := base) (at_is_mark X G c) T G_is_whole
  have G_row_fault := ok_row_fault (P := P0) (w := w) (base := base) (at_row_fault X G c) T G_is_ink
  have G_word_fault := ok_word_fault (P := P0) (w := w) (base := base) (at_word_fault X G c) T
  have M_Column := ok_Column (P := P0) (w := w) (base := base) (at_Column X G c) T G_word_fault
  have G_check_columns := ok_check_columns (P := P0) (w := w) (base := base) (at_check_columns X G c) T
  have G_checked_marks := ok_checked_marks (P := P0) (w := w) (base := base) (at_checked_marks X G c) T G_is_mark
  have M_Card := ok_Card (P := P0) (w := w) (base := base) (at_Card X G c) T G_check_columns G_checked_marks
  have G__law_card := ok__law_card (P := P0) (w := w) (base := base) (at__law_card X G c) T M_Column M_Card
  have G_check_extent := ok_check_extent (P := P0) (w := w) (base := base) (at_check_extent X G c) T G_is_whole
  have M_Print := ok_Print (P := P0) (w := w) (base := base) (at_Print X G c) T G_row_fault
  have G_check_print := ok_check_print (P := P0) (w := w) (base := base) (at_check_print X G c) T X_BadView
  have G_check_cards := ok_check_cards (P := P0) (w := w) (base := base) (at_check_cards X G c) T X_BadView
  have G_check_slope := ok_check_slope (P := P0) (w := w) (base := base) (at_check_slope X G c) T X_BadSlope G_is_whole
  have G_first_unlike_step := ok_first_unlike_step (P := P0) (w := w) (base := base) (at_first_unlike_step X G c) T
  have G_inks_by_spot := ok_inks_by_spot (P := P0) (w := w) (base := base) (at_inks_by_spot X G c) T
  have G_first_unlike_spot := ok_first_unlike_spot (P := P0) (w := w) (base := base) (at_first_unlike_spot X G c) T G_inks_by_spot
  have G_column_pieces := ok_column_pieces (P := P0) (w := w) (base := base) (at_column_pieces X G c) T
  have G_inks_of_letter := ok_inks_of_letter (P := P0) (w := w) (base := base) (at_inks_of_letter X G c) T G_check_print
  have G_front_view := ok_front_view (P := P0) (w := w) (base := base) (at_front_view X G c) T G_inks_of_letter
  have G_top_view := ok_top_view (P := P0) (w := w) (base := base) (at_top_view X G c) T G_inks_of_letter
  have G_slope_view := ok_slope_view (P := P0) (w := w) (base := base) (at_slope_view X G c) T G_check_print G_check_slope G_column_pieces
  have G_alike_from := ok_alike_from (P := P0) (w := w) (base := base) (at_alike_from X G c) T G_check_cards G_check_slope G_first_unlike_step
  have G_alike_by := ok_alike_by (P := P0) (w := w) (base := base) (at_alike_by X G c) T G_check_cards G_check_print G_check_slope G_slope_view G_first_unlike_spot
  have G_alike_between := ok_alike_between (P := P0) (w := w) (base := base) (at_alike_between X G c) T G_spot_of
  have G_slopes_alike := ok_slopes_alike (P := P0) (w := w) (base := base) (at_slopes_alike X G c) T G_check_cards G_check_print G_front_view G_top_view G_alike_between
  have G__law_refused := ok__law_refused (P := P0) (w := w) (base := base) (at__law_refused X G c) T XF G_alike_from G_alike_by G_slopes_alike
  have G_Print_alone := ok_Print_alone (P := P0) (w := w) (base := base) (at_Print_alone c hx) T G_check_extent G_is_whole M_Print
  have G__law_one_print := ok__law_one_print (P := P0) (w := w) (base := base) (at__law_one_print X G c) T G_alike_by G_slopes_alike G__law_first_spot G__law_same
  have G__law_all_prints := ok__law_all_prints (P := P0) (w := w) (base := base) (at__law_all_prints X G c) T G_alike_from G_alike_by G__law_first_cell G__law_first_spot G__law_same G_Print_alone
  have G__law_wrong := ok__law_wrong (P := P0) (w := w) (base := base) (at__law_wrong X G c) T G__law_card M_Print G__law_take G__law_pick G__law_refused
  exact ok_law (P := P0) (w := w) (base := base) (He5.fun_of F) T G__law_bag G__law_extent G__law_word G__law_other_words G__law_marks G__law_card M_Print G__law_take G__law_kind G__law_fitted_row G__law_first_spot G__law_heights_agree G__law_same G_slopes_alike G__law_one_print G__law_all_prints G__law_wrong
end
end Sk
theorem PySem.Challenge.cw_slitstairs_k40_whole_alike_for_all_print_holds : PySem.Challenge.rw_slitstairs_k40_whole_alike_for_all_print.Holds := by
  refine Sz.close ?_
  refine L2.walk_ofE (l := PySem.Challenge.rw_slitstairs_k40_whole_alike_for_all_print) (n := 63) (k := 9) (x := "_law_script") (CX := L2.CX0) rfl (by decide) Sz.dfl ⟨rfl, by decide, by decide⟩ ?F (fun _ _ _ _ z => z)
  intro w mg fa h Y G hmg
  obtain ⟨K, KX, hz⟩ := Y
  obtain ⟨f, fd, hf, hb, hF⟩ := Sk.whole (w := w) KX G hz
  rw [Sz.nm, hf] at hmg
  cases hmg
  exact ⟨K, fd, Sk.spLaw K, KX, hb, fun H a ns hl _ hS => ⟨a, ns, rfl, hS, fun _ => rfl⟩, fun base _ _ => hF base⟩
