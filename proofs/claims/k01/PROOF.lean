import PyProof.Rows.All
import Wide.All
import OpenK.AllK
import Wide.FinOn
import HandS.ForMost
import HandS.IsInst
import HandS.Codes
import HandS.WideBits
import HandS.TupAny
import HandS.SortInts
import HandS.StrMore
import HandS.Walk
import HandS.EndBits
import HandS.More
import HandS.Zip
import PyProof.StrBlock2
import HandS.Rev
import PyProof.JoinWalk
import PySem.Challenge.RW_flowhall_k01_words_and_numbers
set_option Elab.async false
set_option linter.all false
set_option maxRecDepth 100000
namespace M
open PySem PySem.Spec PyProof.Rows L2

/-! ### defs that may be called -/
section
variable {P : Program} {w : World} {K : PySem.W.Frag} {mg : Str → Option Value} {base : Heap}
/-- a def of the module's text, under its name -/
structure Df (K : PySem.W.Frag) (mg : Str → Option Value) (x : Str) (st : Stmt) (ps : List Str) : Prop where
  ex : ∃ (f : Addr) (fd : FuncData), L2.Fun K x x st f fd ∧ mg x = some (.ref f) ∧ L2.Binds K fd ps []
/-- a def that keeps its promise when called by its name -/
structure Cal (P : Program) (w : World) (K : PySem.W.Frag) (mg : Str → Option Value) (base : Heap) (k : Nat) (x : Str) (sp : Sp) : Prop where
  ex : ∃ (f : Addr) (fd : FuncData) (ps : List Str), FnOk P w K mg base L2.CX0 k f fd ps sp ∧ mg x = some (.ref f) ∧ PySem.W.keepIn K (.ref f) = true ∧ Binds K fd ps []
theorem cal_of {x : Str} {st : Stmt} {N ps : List Str} {k : Nat} {sp : Sp} (D : Df K mg x st ps) (S : FnScope N ps (L2.defScope st)) (len : ∀ vs H Q E, sp vs H Q E → vs.length = ps.length)
    (hbody : ∀ (f : Addr) (cdv : Value) (A : Around) (outer : List Env) (s : Shared) (H : Hp) (vs : List V) (Q : VK) (E : XK), Room k (A.deeper (envOfC x (L2.defScope st) s.heap.objs.size f cdv)) → sp vs H Q E →
      ∃ t, PSs (cxOf L2.CX0 P w K mg base N x (L2.defScope st) f cdv A outer s H E).nox (L2.defBody st) t ∧ t { nx := fun _ H' => Q .non H', rt := Q } (start N vs) H) : Cal P w K mg base (k + 1) x sp := by
  obtain ⟨f, fd, F, hm, hb⟩ := D.ex
  exact ⟨f, fd, ps, F.ok S len (fun cdv A outer s H vs Q E hr h => hbody f cdv A outer s H vs Q E hr h), hm, F.kp, hb⟩
end
section
variable {X : Cx} {k j : Nat} {C : Addr} {x m : Str} {sp : Sp} {p pos apos : Pos} {e o : Expr} {es : List Expr} {ta : TE} {t : TA}
theorem m_c (c : Cal X.prog X.w X.K X.mg X.base k x sp) (hr : Room j X.A) (hk : k ≤ j) (hg : Gl X x) (ha : PA X (e :: es) t)
    (hdb : (x == ("__debug__" : Str)) = false := by decide) (he : starEach (e :: es) X.env = (false, eval e X.env) :: starEach es X.env := by rfl) (hpl : (backTo pos (starEach es X.env)).any (·.1) = false := by rfl) :
    PE X (.Call (.Name x p) (e :: es) [] pos) (tCall sp [] L2.E0 t) := by
  obtain ⟨f, fd, ps, F, hm, kp, b⟩ := c.ex
  exact pe_call F (hr.mono hk) hg hm kp b .nil L2.pass0 ha hdb he hpl
theorem m_c0 (c : Cal X.prog X.w X.K X.mg X.base k x sp) (hr : Room j X.A) (hk : k ≤ j) (hg : Gl X x)
    (hdb : (x == ("__debug__" : Str)) = false := by decide) :
    PE X (.Call (.Name x p) [] [] pos) (tCall sp [] L2.E0 tNil) := by
  obtain ⟨f, fd, ps, F, hm, kp, b⟩ := c.ex
  exact pe_call0 F (hr.mono hk) hg hm kp b .nil L2.pass0 hdb
theorem pe_gc {v : V} (hg : Gl X x) (h : ∃ u, X.mg x = some u ∧ RelV v u) (hd : (x == ("__debug__" : Str)) = false := by decide) : PE X (.Name x pos) (tC v) := by
  obtain ⟨u, e, r⟩ := h
  exact pe_glob hg e r hd
end

/-! ### more operators -/
section
variable {X : Cx}
def CPowW (i j : Int) : Prop := 0 ≤ j ∧ (Builtin.Int.intBits i : Int) * j ≤ 2 ^ 27
theorem op_powW : OpR X (binaryOp .Pow) (rI CPowW fun i j => .int (i ^ j.toNat)) := opI fun _ _ _ _ _ _ _ hc q => pow_int hc.1 hc.2 q
end
end M

namespace M
open PySem PySem.Spec PyProof.Rows L2
/-! ### steps of a reading -/
def NewL (xs : List V) (H : Hp) (Q : VK) : Prop := xs.length ≤ sizeLine ∧ ∀ p, H p = none → Q (.ref p) (upd H p (.lst xs))
def NewT (xs : List V) (H : Hp) (Q : VK) : Prop := xs.length ≤ sizeLine ∧ ∀ p, H p = none → Q (.ref p) (upd H p (.tup xs))
section
variable {K : PySem.W.Frag} {σ : L2.St} {H H' : Hp} {Q : VK} {ta tb tc te : TE} {c d : TT} {v x y : V} {D : Ends} {t u : TS} {i : Nat}
theorem t_var (h : σ[i]? = some (some v)) (q : Q v H) : tVar i σ H Q := ⟨v, h, q⟩
theorem t_cst (q : Q v H) : tC v σ H Q := q
theorem t_op {r : R2} (h : ta σ H fun x H1 => tb σ H1 fun y H2 => r x y H2 Q) : tOp r ta tb σ H Q := h
theorem t_un {r : V → Hp → VK → Prop} (h : ta σ H fun x H1 => r x H1 Q) : tUn r ta σ H Q := h
theorem t_chain {r r' : R2} (h : ta σ H fun x H1 => tb σ H1 fun y H2 => r x y H2 fun z H3 => ∃ k, z = .bl k ∧ (if k = true then tc σ H3 fun w' H4 => r' y w' H4 Q else Q (.bl false) H3)) : tChain r r' ta tb tc σ H Q := h
theorem t_cb {r : List V → Hp → VK → Prop} {t : TA} (h : t σ H fun vs H1 => r vs H1 Q) : tCB r t σ H Q := h
theorem t_call {sp : Sp} {E : XK} {t : TA} (h : t σ H fun vs H1 => sp (vs ++ []) H1 Q E) : tCall sp [] E t σ H Q := h
theorem t_nil {Q : List V → Hp → Prop} (h : Q [] H) : tNil σ H Q := h
theorem t_cons {Q : List V → Hp → Prop} {tr : TA} (h : ta σ H fun x H1 => tr σ H1 fun xs H2 => Q (x :: xs) H2) : tCons ta tr σ H Q := h
theorem t_ret (h : te σ H D.rt) : tRet te D σ H := h
theorem t_retN (h : D.rt .non H) : tRetN D σ H := h
theorem t_asg {g : TG} (h : te σ H fun x H1 => g x σ H1 D.nx) : tAsg te g D σ H := h
theorem t_gname {Q : L2.St → Hp → Prop} (h : Q (σ.set i (some v)) H) : gName i v σ H Q := h
theorem t_seq (h : t { D with nx := u D } σ H) : tSeq t u D σ H := h
theorem t_cut (Mid : L2.St → Hp → Prop) (h1 : t { D with nx := Mid } σ H) (h2 : ∀ σ' H', Mid σ' H' → u D σ' H') : C8.tCut t u D σ H := ⟨Mid, h1, h2⟩
theorem t_lst0 {t : TA} (h : t σ H fun xs H1 => NewL xs H1 Q) : tLst t σ H Q := h
theorem t_tup0 {t : TA} (h : t σ H fun xs H1 => NewT xs H1 Q) : tTup t σ H Q := h
theorem k_newL {xs : List V} (h : xs.length ≤ sizeLine) (k : ∀ p, H p = none → Q (.ref p) (upd H p (.lst xs))) : NewL xs H Q := ⟨h, k⟩
theorem k_newT {xs : List V} (h : xs.length ≤ sizeLine) (k : ∀ p, H p = none → Q (.ref p) (upd H p (.tup xs))) : NewT xs H Q := ⟨h, k⟩
theorem t_rU {g : Int → V} {i : Int} (q : Q (g i) H) : rU g (.int i) H Q := ⟨i, rfl, q⟩
theorem k_dnew (k : ∀ p, H p = none → Q (.ref p) (upd H p (.dK []))) : tDNewK σ H Q := k
theorem t_next (h : D.nx σ H) : tNext D σ H := h
theorem t_ifs (h : c σ H fun b H1 => if b = true then t D σ H1 else u D σ H1) : tIfS c t u D σ H := h
theorem t_drop (h : te σ H fun _ H1 => D.nx σ H1) : tDrop te D σ H := h
theorem t_test {Q : Bool → Hp → Prop} (h : te σ H fun x H' => ∃ k, x = .bl k ∧ Q k H') : tTest te σ H Q := h
theorem t_B {Q : Bool → Hp → Prop} (h : te σ H fun x H' => ∃ k, x = .bl k ∧ Q k H') : tB te σ H Q := h
theorem t_not {Q : Bool → Hp → Prop} (h : c σ H fun b H1 => Q (!b) H1) : tNot c σ H Q := h
theorem t_and {Q : Bool → Hp → Prop} (h : c σ H fun b H1 => if b = true then d σ H1 Q else Q false H1) : tAnd c d σ H Q := h
theorem t_or {Q : Bool → Hp → Prop} (h : c σ H fun b H1 => if b = true then Q true H1 else d σ H1 Q) : tOr c d σ H Q := h
theorem t_andV (h : ta σ H fun x H1 => ∃ c, x = .bl c ∧ if c = true then tb σ H1 Q else Q (.bl false) H1) : tAndV ta tb σ H Q := h
theorem t_orV (h : ta σ H fun x H1 => ∃ c, x = .bl c ∧ if c = true then Q (.bl true) H1 else tb σ H1 Q) : tOrV ta tb σ H Q := h
theorem t_notV (h : ta σ H fun x H1 => ∃ c, x = .bl c ∧ Q (.bl (!c)) H1) : tNotV ta σ H Q := h
theorem t_if (h : c σ H fun b H1 => if b = true then ta σ H1 Q else tb σ H1 Q) : tIf c ta tb σ H Q := h
theorem t_par {ta : TA} {i j : Nat} (h : ta σ H fun vs H1 => ∃ v w, vs = [v, w] ∧ D.nx ((σ.set i (some v)).set j (some w)) H1) : tPar i j ta D σ H := h
theorem t_sl {r : V → Option Int → Option Int → Hp → VK → Prop} {tl th : TO} (h : te σ H fun x H1 => tl σ H1 fun l H2 => th σ H2 fun u H3 => r x l u H3 Q) : tSl r te tl th σ H Q := h
theorem t_nopart {Q : Option Int → Hp → Prop} (h : Q none H) : tNoPart σ H Q := h
theorem t_part {Q : Option Int → Hp → Prop} (h : te σ H fun x H1 => ∃ i, x = .int i ∧ Q (some i) H1) : tPart te σ H Q := h
theorem t_bm0 {T : String} {r : V → List V → Hp → VK → Prop} (h : te σ H fun x H1 => tyV K T x H1 ∧ r x [] H1 Q) : tBM0 K T r te σ H Q := h
theorem t_bm {T : String} {r : V → List V → Hp → VK → Prop} {t : TA} (h : te σ H fun x H1 => tyV K T x H1 ∧ t σ H1 fun xs H2 => r x xs H2 Q) : tBM K T r te t σ H Q := h
theorem t_m1 {r : V → List V → Hp → VK → Prop} (h : ta σ H fun x H1 => (∃ a, x = .str a) ∧ te σ H1 fun y H2 => r x [y] H2 Q) : tM1 r ta te σ H Q := h
theorem t_m0 {r : V → List V → Hp → VK → Prop} (h : ta σ H fun x H1 => (∃ a, x = .str a) ∧ r x [] H1 Q) : tM0 r ta σ H Q := h
theorem t_rI0 {g : Int → Int → V} {i j : Int} (q : Q (g i j) H) : rI0 g (.int i) (.int j) H Q := ⟨i, j, rfl, rfl, q⟩
theorem t_rI {C : Int → Int → Prop} {g : Int → Int → V} {i j : Int} (h : C i j) (q : Q (g i j) H) : rI C g (.int i) (.int j) H Q := ⟨i, j, rfl, rfl, h, q⟩
theorem t_rEq (h : scal x y = true) (q : Q (.bl (decide (x = y))) H) : rEq x y H Q := ⟨h, q⟩
theorem t_rNe (h : scal x y = true) (q : Q (.bl (!decide (x = y))) H) : rNe x y H Q := ⟨h, q⟩
theorem same_new {p : Addr} {o : HO} (h : H p = none) : Same H (upd H p o) := fun b u e => by
  rw [upd_ne (ne_of_none e h)]
  exact e
/-! isinstance with a built-in type: the kinds are texts -/
/-- what kind a thing is -/
inductive Kd (K : PySem.W.Frag) (H : Hp) : V → String → Prop where
  | non : Kd K H .non "NoneType"
  | bl (b : Bool) : Kd K H (.bl b) "bool"
  | int (i : Int) : Kd K H (.int i) "int"
  | str (x : Str) : Kd K H (.str x) "str"
  | lst {a : Addr} {xs : List V} (e : H a = some (.lst xs)) : Kd K H (.ref a) "list"
  | tup {a : Addr} {xs : List V} (e : H a = some (.tup xs)) : Kd K H (.ref a) "tuple"
  | dK {a : Addr} {xs : List (Key × V)} (e : H a = some (.dK xs)) : Kd K H (.ref a) "dict"
theorem Kd.mono {x : V} {k : String} (s : Same H H') (h : Kd K H x k) : Kd K H' x k := by
  cases h with
  | non => exact .non
  | bl b => exact .bl b
  | int i => exact .int i
  | str x => exact .str x
  | lst e => exact .lst (s _ _ e)
  | tup e => exact .tup (s _ _ e)
  | dK e => exact .dK (s _ _ e)
theorem Kd.ty {x : V} {k : String} (h : Kd K H x k) : TyX K H x (.type k) := by
  cases h with
  | non => exact .base .non
  | bl b => exact .base (.bl b)
  | int i => exact .base (.int i)
  | str x => exact .base (.str x)
  | lst e => exact .base (.lst e)
  | tup e => exact .base (.tup e)
  | dK e => exact .base (.dK e)
theorem t_isi {k n : String} {b : Bool} (h : Kd K H x k) (e : kitB k n = some b) (q : Q (.bl b) H) : rIsi K [x, .ty n] H Q :=
  ⟨x, .ty n, .type k, .type n, b, rfl, .ty n, h.ty, kit_ty e, q⟩
theorem ifb {b : Bool} {A B : Prop} (h1 : b = true → A) (h2 : b = false → B) : if b = true then A else B := by
  cases b with
  | true => exact h1 rfl
  | false => exact h2 rfl
theorem ifT {b : Bool} {A B : Prop} (h : b = true) (h1 : A) : if b = true then A else B := by
  rw [if_pos h]
  exact h1
theorem ifF {b : Bool} {A B : Prop} (h : b = false) (h1 : B) : if b = true then A else B := by
  rw [if_neg (by rw [h]; decide)]
  exact h1
theorem CMulX_small {i j : Int} (h1 : -1000000000000000000000000000000000000000000000000000000000000000000000000000000000000 ≤ i) (h2 : i ≤ 1000000000000000000000000000000000000000000000000000000000000000000000000000000000000) (h3 : -1000000000000000000000000000000000000000000000000000000000000000000000000000000000000 ≤ j) (h4 : j ≤ 1000000000000000000000000000000000000000000000000000000000000000000000000000000000000) : CMulX i j :=
  mulx_ok (a := 300) (b := 300) (Nat.lt_of_le_of_lt (m := 1000000000000000000000000000000000000000000000000000000000000000000000000000000000000) (by omega) (by decide +kernel)) (Nat.lt_of_le_of_lt (m := 1000000000000000000000000000000000000000000000000000000000000000000000000000000000000) (by omega) (by decide +kernel)) (by decide)
theorem CDivW_small {i j : Int} (h1 : 0 < j) (h2 : j ≤ 1000000000000000000000000000000000000000000000000000000000000000000000000000000000000) : CDivW i j :=
  wide_div (b := 300) h1 (Nat.lt_of_le_of_lt (m := 1000000000000000000000000000000000000000000000000000000000000000000000000000000000000) (by omega) (by decide +kernel)) (by decide) (by decide)
/-! an expression, a test, whose value is told once: what follows is shown from P alone -/
def tCutE (te : TE) : TE := fun σ H Q => ∃ P : VK, te σ H P ∧ ∀ v H', P v H' → Q v H'
def tCutT (t : TT) : TT := fun σ H Q => ∃ P : Bool → Hp → Prop, t σ H P ∧ ∀ b H', P b H' → Q b H'
theorem m_pec {X : Cx} {e : Expr} {te : TE} (h : PE X e te) : PE X e (tCutE te) := ⟨fun pins s σ H Q I ⟨P, h1, h2⟩ =>
  thn (h.run pins s σ H P I h1) fun _ _ ⟨v, H', I', r, q⟩ => ⟨v, H', I', r, h2 v H' q⟩⟩
theorem m_ptc {X : Cx} {e : Expr} {t : TT} (h : PT X e t) : PT X e (tCutT t) := ⟨fun pins s σ H Q I ⟨P, h1, h2⟩ =>
  thn (h.run pins s σ H P I h1) fun b _ ⟨H', I', q⟩ => ⟨H', I', h2 b H' q⟩⟩
theorem k_E (P : VK) (h1 : te σ H P) (h2 : ∀ v H', P v H' → Q v H') : tCutE te σ H Q := ⟨P, h1, h2⟩
theorem k_T {Q : Bool → Hp → Prop} (P : Bool → Hp → Prop) (h1 : c σ H P) (h2 : ∀ b H', P b H' → Q b H') : tCutT c σ H Q := ⟨P, h1, h2⟩
theorem k_V (v : V) (h1 : te σ H fun x H' => x = v ∧ Same H H') (h2 : ∀ H', Same H H' → Q v H') : tCutE te σ H Q := ⟨_, h1, fun _ H' ⟨e, s⟩ => by rw [e]; exact h2 H' s⟩
theorem k_B {Q : Bool → Hp → Prop} (b : Bool) (h1 : c σ H fun x H' => x = b ∧ Same H H') (h2 : ∀ H', Same H H' → Q b H') : tCutT c σ H Q := ⟨_, h1, fun _ H' ⟨e, s⟩ => by rw [e]; exact h2 H' s⟩
end
end M

namespace M
open PySem PySem.Spec PyProof.Rows L2
/-! ### comprehensions, loops -/
/-- what a comprehension asks of an iterator -/
def LcJ (J : It) (H1 : Hp) (g : TG) (tt : TT) (te : TE) (vs : List Nat) (σ : L2.St) (Qd : Addr → Hp → Prop) : Prop := ∀ D, H1 D = none → ∃ W : Nat → Nat → Hp → Prop, (∃ m, W 0 m (upd H1 D (.lst []))) ∧ ∀ i m H, W i m H →
  (J.stop i H ∧ Qd D H) ∨ (J.go i H ∧ ∃ Nx : Hp → Prop, (∀ H', Nx H' → ∃ m', m' < m ∧ W (i + 1) m' H') ∧ ∀ x H', J.yld i H x H' → g x (wipe σ vs) H' fun σ2 H2 => wipe σ2 vs = wipe σ vs ∧ tt σ2 H2 fun b H3 =>
    if b = true then te σ2 H3 fun y H4 => ∃ acc, H4 D = some (.lst acc) ∧ acc.length < sizeLine ∧ Nx (upd H4 D (.lst (acc ++ [y]))) else Nx H3)
def ForJ (J : It) (σ : L2.St) (H1 : Hp) (g : TG) (tb : TS) (D : Ends) : Prop := ∃ W : Nat → Nat → L2.St → Hp → Prop, (∃ m, W 0 m σ H1) ∧ ∀ i m σ H, W i m σ H →
  (J.stop i H ∧ D.nx σ H) ∨ (J.go i H ∧ ∃ N : L2.St → Hp → Prop, (∀ σ' H', N σ' H' → ∃ m', m' < m ∧ W (i + 1) m' σ' H') ∧ ∀ x H', J.yld i H x H' → g x σ H' fun σ2 H2 => tb { D with nx := N, ct := N, bk := D.nx } σ2 H2)
section
variable {K : PySem.W.Frag} {σ : L2.St} {H H' : Hp} {Q : VK} {ta tb tc te : TE} {wi : TI} {g : TG} {tt : TT} {vs : List Nat} {D : Ends} {t u : TS} {J : It} {n : Nat} {G : Hp → Prop} {Y : Nat → Hp → V → Hp → Prop}
theorem t_lc (h : wi σ H fun J H1 => LcJ J H1 g tt te vs σ fun D H2 => Q (.ref D) H2) : tLc wi g tt te vs σ H Q := h
theorem t_for (h : wi σ H fun J H1 => ForJ J σ H1 g t D) : tFor wi g t D σ H := h
theorem forJ (w : Walk J n G Y) (Pv : Nat → L2.St → Hp → Prop) (h0 : Pv 0 σ H) (hG : ∀ i σ H, i ≤ n → Pv i σ H → G H)
    (hs : ∀ i x σ H H', i < n → Pv i σ H → Y i H x H' → g x σ H' fun σ2 H2 => t { D with nx := Pv (i + 1), ct := Pv (i + 1), bk := D.nx } σ2 H2) (hd : ∀ σ H, Pv n σ H → D.nx σ H) : ForJ J σ H g t D :=
  for_it w Pv h0 hG hs hd
theorem same_upd {H0 : Hp} {a : Addr} {o : HO} (s : Same H0 H) (n : H0 a = none) : Same H0 (upd H a o) := fun b u e => by
  rw [upd_ne (ne_of_none e n)]
  exact s b u e
/-- a comprehension whose items are known values: φ tells of each datum what comes of it -/
theorem lcJ_fm {α : Type} (w : Walk J n G Y) (ds : List α) (hn : n = ds.length) (φ : α → Option V) (hsz : ds.length < sizeLine) {Qd : Addr → Hp → Prop}
    (hG : ∀ H1, Same H H1 → G H1)
    (hs : ∀ (i : Nat) (d : α) (x : V) (H2 H3 : Hp) (Qy : V → Hp → Prop) (Qn : Hp → Prop), ds[i]? = some d → Same H H2 → Y i H2 x H3 → (∀ y H6, Same H2 H6 → φ d = some y → Qy y H6) → (∀ H6, Same H2 H6 → φ d = none → Qn H6) →
      g x (wipe σ vs) H3 fun σ2 H4 => wipe σ2 vs = wipe σ vs ∧ tt σ2 H4 fun b H5 => if b = true then te σ2 H5 Qy else Qn H5)
    (k : ∀ D H', H D = none → Same H H' → H' D = some (.lst (ds.filterMap φ)) → Qd D H') : LcJ J H g tt te vs σ Qd := by
  intro D hD
  have lenF : ∀ i, ((ds.take i).filterMap φ).length < sizeLine := fun i => by
    have h1 := List.length_filterMap_le φ (ds.take i)
    have h2 := List.length_take_le' i ds
    omega
  have stepF : ∀ i d, ds[i]? = some d → (ds.take (i + 1)).filterMap φ = (ds.take i).filterMap φ ++ (φ d).toList := fun i d hd => by
    rw [List.take_add_one, hd, List.filterMap_append]
    congr 1
  refine ⟨fun i m H2 => m = n - i ∧ i ≤ n ∧ Same H H2 ∧ H2 D = some (.lst ((ds.take i).filterMap φ)), ⟨n, by simp, Nat.zero_le _, same_new hD, upd_same⟩, ?_⟩
  rintro i m H2 ⟨rfl, hi, s2, hd⟩
  by_cases hlt : i < n
  · have hi2 : i < ds.length := by omega
    obtain ⟨d, ed⟩ : ∃ d, ds[i]? = some d := ⟨ds[i], List.getElem?_eq_getElem hi2⟩
    refine .inr ⟨w.goes i H2 hlt (hG H2 s2), fun H6 => Same H H6 ∧ H6 D = some (.lst ((ds.take (i + 1)).filterMap φ)), fun H6 h6 => ⟨n - (i + 1), by omega, rfl, hlt, h6.1, h6.2⟩, fun x H3 y => ?_⟩
    refine hs i d x H2 H3 _ _ ed s2 (w.yields i H2 x H3 hlt (hG H2 s2) y) (fun y H6 s6 ey => ?_) (fun H6 s6 ey => ?_)
    · refine ⟨_, s6 _ _ hd, lenF i, same_upd (s2.trans s6) hD, ?_⟩
      rw [upd_same, stepF i d ed, ey]
      rfl
    · refine ⟨s2.trans s6, ?_⟩
      rw [stepF i d ed, ey]
      show _ = some (HO.lst ((ds.take i).filterMap φ ++ []))
      rw [List.append_nil]
      exact s6 _ _ hd
  · have e : i = ds.length := by omega
    rw [e, List.take_length] at hd
    have e2 : i = n := by omega
    rw [e2]
    exact .inl ⟨w.stops H2 (hG H2 s2), k D H2 hD s2 hd⟩
/-- every item kept -/
theorem lcJ_map {α : Type} (w : Walk J n G Y) (ds : List α) (hn : n = ds.length) (f : α → V) (hsz : ds.length < sizeLine) {Qd : Addr → Hp → Prop}
    (hG : ∀ H1, Same H H1 → G H1)
    (hs : ∀ (i : Nat) (d : α) (x : V) (H2 H3 : Hp) (Qy : V → Hp → Prop), ds[i]? = some d → Same H H2 → Y i H2 x H3 → (∀ H6, Same H2 H6 → Qy (f d) H6) →
      g x (wipe σ vs) H3 fun σ2 H4 => wipe σ2 vs = wipe σ vs ∧ te σ2 H4 Qy)
    (k : ∀ D H', H D = none → Same H H' → H' D = some (.lst (ds.map f)) → Qd D H') : LcJ J H g tYes te vs σ Qd := by
  refine lcJ_fm w ds hn (fun d => some (f d)) hsz hG (fun i d x H2 H3 Qy Qn ed s2 y h1 h2 => ?_) (fun D H' hD s hd => k D H' hD s (by rw [hd, List.filterMap_eq_map']))
  exact hs i d x H2 H3 Qy ed s2 y (fun H6 s6 => h1 _ H6 s6 rfl)
/-- all but one address as they were -/
def SameBut (D : Addr) (H H' : Hp) : Prop := ∀ b o, b ≠ D → H b = some o → H' b = some o
theorem same_but {D : Addr} {H H' : Hp} (s : Same H H') : SameBut D H H' := fun b o _ e => s b o e
theorem SameBut.upd {D : Addr} {H : Hp} {o : HO} : SameBut D H (upd H D o) := fun b u n e => by
  rw [upd_ne n]
  exact e
theorem SameBut.trans {D : Addr} {H1 H2 H3 : Hp} (a : SameBut D H1 H2) (b : SameBut D H2 H3) : SameBut D H1 H3 := fun c o n e => b c o n (a c o n e)
theorem Paired.snoc {α β : Type} {F : α → β → Prop} {l : List α} {ys : List β} {d : α} {y : β} (p : Paired F l ys) (f : F d y) : Paired F (l ++ [d]) (ys ++ [y]) := by
  induction p with
  | nil => exact .cons f .nil
  | cons r _ ih => exact .cons r ih
/-- a comprehension whose items are told by a relation that lasts -/
theorem lcJ_rel {α : Type} (w : Walk J n G Y) (ds : List α) (hn : n = ds.length) (keep : α → Bool) (R : Addr → α → V → Hp → Prop) (hR : ∀ D d y H1 H2, SameBut D H1 H2 → R D d y H1 → R D d y H2) (hsz : ds.length < sizeLine) {Qd : Addr → Hp → Prop}
    (hG : ∀ H1, Same H H1 → G H1)
    (hs : ∀ (L : Addr) (acc : List V) (i : Nat) (d : α) (x : V) (H2 H3 : Hp) (Qy : V → Hp → Prop) (Qn : Hp → Prop), H L = none → H2 L = some (.lst acc) → ds[i]? = some d → Same H H2 → Y i H2 x H3 → (∀ y H6, Same H2 H6 → keep d = true → R L d y H6 → Qy y H6) → (∀ H6, Same H2 H6 → keep d = false → Qn H6) →
      g x (wipe σ vs) H3 fun σ2 H4 => wipe σ2 vs = wipe σ vs ∧ tt σ2 H4 fun b H5 => if b = true then te σ2 H5 Qy else Qn H5)
    (k : ∀ L H' ys, H L = none → Same H H' → Paired (fun d y => R L d y H') (ds.filter keep) ys → H' L = some (.lst ys) → Qd L H') : LcJ J H g tt te vs σ Qd := by
  intro L hL
  have up : ∀ {l : List α} {ys : List V} {H1 H2 : Hp}, SameBut L H1 H2 → Paired (fun d y => R L d y H1) l ys → Paired (fun d y => R L d y H2) l ys := fun s p => Paired.mapP p fun a b r => hR L a b _ _ s r
  have stepF : ∀ i d, ds[i]? = some d → (ds.take (i + 1)).filter keep = (ds.take i).filter keep ++ (if keep d then [d] else []) := fun i d hd => by
    rw [List.take_add_one, hd, List.filter_append]
    congr 1
    show List.filter keep [d] = _
    cases e : keep d <;> simp [e]
  refine ⟨fun i m H2 => m = n - i ∧ i ≤ n ∧ Same H H2 ∧ ∃ ys, Paired (fun d y => R L d y H2) ((ds.take i).filter keep) ys ∧ H2 L = some (.lst ys), ⟨n, by simp, Nat.zero_le _, same_new hL, [], .nil, upd_same⟩, ?_⟩
  rintro i m H2 ⟨rfl, hi, s2, ys, py, hd⟩
  by_cases hlt : i < n
  · have hi2 : i < ds.length := by omega
    obtain ⟨d, ed⟩ : ∃ d, ds[i]? = some d := ⟨ds[i], List.getElem?_eq_getElem hi2⟩
    refine .inr ⟨w.goes i H2 hlt (hG H2 s2), fun H6 => Same H H6 ∧ ∃ ys, Paired (fun d y => R L d y H6) ((ds.take (i + 1)).filter keep) ys ∧ H6 L = some (.lst ys), fun H6 h6 => ⟨n - (i + 1), by omega, rfl, hlt, h6.1, h6.2⟩, fun x H3 y => ?_⟩
    refine hs L ys i d x H2 H3 _ _ hL hd ed s2 (w.yields i H2 x H3 hlt (hG H2 s2) y) (fun y H6 s6 ek ry => ?_) (fun H6 s6 ek => ?_)
    · have h1 := Paired.length py
      have h2 := List.length_filter_le keep (ds.take i)
      have h3 := List.length_take_le' i ds
      refine ⟨_, s6 _ _ hd, by omega, same_upd (s2.trans s6) hL, _, ?_, upd_same⟩
      rw [stepF i d ed, ek]
      exact Paired.snoc (up ((same_but s6).trans SameBut.upd) py) (hR L d y _ _ SameBut.upd ry)
    · refine ⟨s2.trans s6, ys, ?_, s6 _ _ hd⟩
      rw [stepF i d ed, ek]
      show Paired _ ((ds.take i).filter keep ++ []) ys
      rw [List.append_nil]
      exact up (same_but s6) py
  · have e : i = ds.length := by omega
    rw [e, List.take_length] at py
    have e2 : i = n := by omega
    rw [e2]
    exact .inl ⟨w.stops H2 (hG H2 s2), k L H2 ys hL s2 py hd⟩
end
end M

namespace M
open PySem PySem.Spec PyProof.Rows L2
/-! ### built-ins by names of their own -/
def rLenSeq (K : PySem.W.Frag) : List V → Hp → VK → Prop := fun xs H Q => ∃ p ys, xs = [.ref p] ∧ (SqL K H p ys ∨ SqT K H p ys) ∧ Q (.int ys.length) H
def rLenStr : List V → Hp → VK → Prop := fun xs H Q => ∃ z : Str, xs = [.str z] ∧ z.length ≤ sizeLine ∧ Q (.int z.length) H
def rLenD : List V → Hp → VK → Prop := fun xs H Q => ∃ a, ∃ kvs : List (Key × V), xs = [V.ref a] ∧ H a = some (.dK kvs) ∧ Q (.int kvs.length) H
def rAbs : List V → Hp → VK → Prop := fun xs H Q => ∃ i : Int, xs = [.int i] ∧ Q (.int (if i < 0 then -i else i)) H
def rMax2 : List V → Hp → VK → Prop := fun xs H Q => ∃ i j : Int, xs = [.int i, .int j] ∧ Q (.int (if j > i then j else i)) H
def rMin2 : List V → Hp → VK → Prop := fun xs H Q => ∃ i j : Int, xs = [.int i, .int j] ∧ Q (.int (if j < i then j else i)) H
def rInt1 : List V → Hp → VK → Prop := fun xs H Q => (∃ i, xs = [.int i] ∧ Q (.int i) H) ∨ ∃ k : Bool, xs = [.bl k] ∧ Q (.int (if k then 1 else 0)) H
def rStr1 : List V → Hp → VK → Prop := fun xs H Q => ∃ i : Int, xs = [.int i] ∧ i.natAbs.log2 < 1920 ∧ Q (.str (toString i)) H
def rIntS : List V → Hp → VK → Prop := fun xs H Q => ∃ a n, xs = [.str a] ∧ PySem.intText? a = some n ∧ a.length ≤ 640 ∧ Q (.int n) H
def rListOf (K : PySem.W.Frag) : List V → Hp → VK → Prop := fun xs H Q => ∃ p ys, xs = [.ref p] ∧ (SqL K H p ys ∨ SqT K H p ys) ∧ ∀ l, H l = none → Q (.ref l) (upd H l (.lst ys))
def rDictD : List V → Hp → VK → Prop := fun xs H Q => ∃ (a : Addr) (kvs : List (Key × V)), xs = [.ref a] ∧ Rd H a (.dK kvs) ∧ ∀ p, H p = none → Q (.ref p) (upd H p (.dK kvs))
def rListD : List V → Hp → VK → Prop := fun xs H Q => ∃ (a : Addr) (kvs : List (Key × V)), xs = [.ref a] ∧ Rd H a (.dK kvs) ∧ ∀ p, H p = none → Q (.ref p) (upd H p (.lst (kvs.map fun kv => kV kv.1)))
def rSortedDI : List V → Hp → VK → Prop := fun xs H Q => ∃ (a : Addr) (kvs : List (Key × V)) (ks : List Int), xs = [.ref a] ∧ Rd H a (.dK kvs) ∧ kvs.map (·.1) = ks.map Sum.inl ∧ ks.length < 64 ∧ ∀ (ys : List Int) (p : Addr), ys.Perm ks → ys.Pairwise (· ≤ ·) → H p = none → Q (.ref p) (upd H p (.lst (ys.map V.int)))
def rInStr (neg : Bool) : R2 := fun x y H Q => ∃ i j : Str, x = .str i ∧ y = .str j ∧ Q (.bl (if neg then !(!(Builtin.Str.occurrences j i 0 j.length 1).isEmpty) else !(Builtin.Str.occurrences j i 0 j.length 1).isEmpty)) H
def rInSg (neg : Bool) : R2 := fun x y H Q => ∃ (c : Nat) (z : Str), x = .str ⟨#[c]⟩ ∧ y = .str z ∧ Q (.bl (if neg then !decide (c ∈ z.cps.toList) else decide (c ∈ z.cps.toList))) H
def rIsN : R2 := fun x y H Q => y = .non ∧ Q (.bl (decide (x = .non))) H
def rNotN : R2 := fun x y H Q => y = .non ∧ Q (.bl (!decide (x = .non))) H
def rAddS : R2 := fun x y H Q => ∃ i j : Str, x = .str i ∧ y = .str j ∧ i.length + j.length ≤ sizeLine ∧ Q (.str (i ++ j)) H
def rStarts : V → List V → Hp → VK → Prop := fun x xs H Q => ∃ a b, x = .str a ∧ xs = [.str b] ∧ Q (.bl (Txt.startswith a b)) H
section
variable {X : Cx}
theorem cl_len_seq : CallR X (.builtin "len") (rLenSeq X.K) := call_len_seq
theorem cl_len_str : CallR X (.builtin "len") rLenStr := call_len_str
theorem cl_lenD : CallR X (.builtin "len") rLenD := call_lenD
theorem cl_abs : CallR X (.builtin "abs") rAbs := call_abs
theorem cl_max2 (hc : X.calm = true) : CallR X (.builtin "max") rMax2 := call_max2 hc
theorem cl_min2 (hc : X.calm = true) : CallR X (.builtin "min") rMin2 := call_min2 hc
theorem cl_int1 : CallR X (.type "int") rInt1 := call_int1
theorem cl_str_int : CallR X (.type "str") rStr1 := call_str_int
theorem cl_int_str : CallR X (.type "int") rIntS := call_int_str
theorem cl_list_of : CallR X (.type "list") (rListOf X.K) := call_list_of
theorem cl_dictD : CallR X (.type "dict") rDictD := call_dictD
theorem cl_listD (hc : X.calm = true) : CallR X (.type "list") rListD := call_listD hc
theorem cl_sortedDI (hc : X.calm = true) : CallR X (.builtin "sorted") rSortedDI := call_sortedDI hc
theorem o_in_str : OpR X (compareOp .In) (rInStr false) := op_in_str
theorem o_notin_str : OpR X (compareOp .NotIn) (rInStr true) := op_notin_str
theorem o_in_sign : OpR X (compareOp .In) (rInSg false) := op_in_sign
theorem o_notin_sign : OpR X (compareOp .NotIn) (rInSg true) := op_notIn_sign
theorem o_isN : OpR X (compareOp .Is) rIsN := op_isN
theorem o_notN : OpR X (compareOp .IsNot) rNotN := op_notN
theorem o_add_str : OpR X (binaryOp .Add) rAddS := op_add_str
end
section
variable {K : PySem.W.Frag} {σ : L2.St} {H H' : Hp} {Q : VK} {x y v : V} {p a : Addr} {xs ys : List V} {i j : Int} {z b : Str}
theorem t_lenL (h : SqL K H p ys) (q : Q (.int ys.length) H) : rLenSeq K [.ref p] H Q := ⟨p, ys, rfl, .inl h, q⟩
theorem t_lenT (h : SqT K H p ys) (q : Q (.int ys.length) H) : rLenSeq K [.ref p] H Q := ⟨p, ys, rfl, .inr h, q⟩
theorem t_lenS (h : z.length ≤ sizeLine) (q : Q (.int z.length) H) : rLenStr [.str z] H Q := ⟨z, rfl, h, q⟩
theorem t_lenD {kvs : List (Key × V)} (h : H p = some (.dK kvs)) (q : Q (.int kvs.length) H) : rLenD [.ref p] H Q := ⟨p, kvs, rfl, h, q⟩
theorem t_abs (q : Q (.int (if i < 0 then -i else i)) H) : rAbs [.int i] H Q := ⟨i, rfl, q⟩
theorem t_max2 (q : Q (.int (if j > i then j else i)) H) : rMax2 [.int i, .int j] H Q := ⟨i, j, rfl, q⟩
theorem t_min2 (q : Q (.int (if j < i then j else i)) H) : rMin2 [.int i, .int j] H Q := ⟨i, j, rfl, q⟩
theorem t_int1i (q : Q (.int i) H) : rInt1 [.int i] H Q := .inl ⟨i, rfl, q⟩
theorem t_int1b {k : Bool} (q : Q (.int (if k then 1 else 0)) H) : rInt1 [.bl k] H Q := .inr ⟨k, rfl, q⟩
theorem t_str1 (h : i.natAbs.log2 < 1920) (q : Q (.str (toString i)) H) : rStr1 [.int i] H Q := ⟨i, rfl, h, q⟩
theorem t_intS (h : PySem.intText? z = some i) (h2 : z.length ≤ 640) (q : Q (.int i) H) : rIntS [.str z] H Q := ⟨z, i, rfl, h, h2, q⟩
theorem t_all {bs : List Bool} (h : SqL K H a (bs.map V.bl)) (q : Q (.bl (bs.all id)) H) : rAll K [.ref a] H Q := ⟨a, bs, rfl, h, q⟩
theorem t_any {bs : List Bool} (h : SqL K H a (bs.map V.bl)) (q : Q (.bl (bs.any id)) H) : rAny K [.ref a] H Q := ⟨a, bs, rfl, h, q⟩
theorem t_sum {ns : List Int} (h : SqL K H a (ns.map V.int)) (q : Q (.int ns.sum) H) : rSum K [.ref a] H Q := ⟨a, ns, rfl, h, q⟩
theorem t_listL (h : SqL K H p ys) (q : ∀ l, H l = none → Q (.ref l) (upd H l (.lst ys))) : rListOf K [.ref p] H Q := ⟨p, ys, rfl, .inl h, q⟩
theorem t_listT (h : SqT K H p ys) (q : ∀ l, H l = none → Q (.ref l) (upd H l (.lst ys))) : rListOf K [.ref p] H Q := ⟨p, ys, rfl, .inr h, q⟩
theorem t_dictD {kvs : List (Key × V)} (h : H p = some (.dK kvs)) (q : ∀ l, H l = none → Q (.ref l) (upd H l (.dK kvs))) : rDictD [.ref p] H Q := ⟨p, kvs, rfl, .inl h, q⟩
theorem t_listD {kvs : List (Key × V)} (h : H p = some (.dK kvs)) (q : ∀ l, H l = none → Q (.ref l) (upd H l (.lst (kvs.map fun kv => kV kv.1)))) : rListD [.ref p] H Q := ⟨p, kvs, rfl, .inl h, q⟩
theorem t_inSg {c : Nat} {neg : Bool} (q : Q (.bl (if neg then !decide (c ∈ z.cps.toList) else decide (c ∈ z.cps.toList))) H) : rInSg neg (.str ⟨#[c]⟩) (.str z) H Q := ⟨c, z, rfl, rfl, q⟩
theorem t_inStr {neg : Bool} (q : Q (.bl (if neg then !(!(Builtin.Str.occurrences z b 0 z.length 1).isEmpty) else !(Builtin.Str.occurrences z b 0 z.length 1).isEmpty)) H) : rInStr neg (.str b) (.str z) H Q := ⟨b, z, rfl, rfl, q⟩
theorem t_isN (q : Q (.bl (decide (x = .non))) H) : rIsN x .non H Q := ⟨rfl, q⟩
theorem t_notN (q : Q (.bl (!decide (x = .non))) H) : rNotN x .non H Q := ⟨rfl, q⟩
theorem t_addS (h : z.length + b.length ≤ sizeLine) (q : Q (.str (z ++ b)) H) : rAddS (.str z) (.str b) H Q := ⟨z, b, rfl, rfl, h, q⟩
theorem t_ixL (h : SqL K H p xs) (e : atI xs i = some v) (q : Q v H) : rIxL K (.ref p) (.int i) H Q := ⟨p, xs, i, v, rfl, rfl, h, e, q⟩
theorem t_ixT (h : SqT K H p xs) (e : atI xs i = some v) (q : Q v H) : rIxT K (.ref p) (.int i) H Q := ⟨p, xs, i, v, rfl, rfl, h, e, q⟩
theorem t_ixS {c : Nat} (h : z.length ≤ sizeLine) (e : atI z.cps.toList i = some c) (q : Q (.str ⟨#[c]⟩) H) : rIxS (.str z) (.int i) H Q := ⟨z, i, c, rfl, rfl, h, e, q⟩
theorem t_slL {lo hi : Option Int} (h : SqL K H p xs) (q : ∀ l, H l = none → Q (.ref l) (upd H l (.lst (cutV xs lo hi)))) : rSlL K (.ref p) lo hi H Q := ⟨p, xs, rfl, h, q⟩
theorem t_slS {lo hi : Option Int} (h : z.length ≤ sizeLine) (q : Q (.str (cutS z lo hi)) H) : rSlS (.str z) lo hi H Q := ⟨z, rfl, h, q⟩
theorem t_append (h : H p = some (.lst xs)) (hl : xs.length < sizeLine) (q : Q .non (upd H p (.lst (xs ++ [y])))) : rAppend (.ref p) [y] H Q := ⟨p, xs, y, rfl, rfl, h, hl, q⟩
theorem t_extend (h : H p = some (.lst xs)) (h2 : H a = some (.lst ys)) (hl : xs.length + ys.length ≤ sizeLine) (q : Q .non (upd H p (.lst (xs ++ ys)))) : rExtend (.ref p) [.ref a] H Q := ⟨p, a, xs, ys, rfl, rfl, h, h2, hl, q⟩
theorem t_clear (h : H p = some (.lst xs)) (q : Q .non (upd H p (.lst []))) : rClear (.ref p) [] H Q := ⟨p, xs, rfl, rfl, h, q⟩
theorem t_cat (h : H p = some (.lst xs)) (h2 : H a = some (.lst ys)) (hl : xs.length + ys.length ≤ sizeLine) (q : ∀ l, H l = none → Q (.ref l) (upd H l (.lst (xs ++ ys)))) : rCat (.ref p) (.ref a) H Q := ⟨p, a, xs, ys, rfl, rfl, h, h2, hl, q⟩
theorem t_eqD {d e : PyData} (h1 : Dp K H x d) (h2 : Dp K H y e) (s1 : SeqAt.shaped d = true) (s2 : SeqAt.shaped e = true) (q : Q (.bl (PyData.eqv d e)) H) : rEqD K x y H Q := ⟨d, e, h1, h2, s1, s2, q⟩
theorem t_neD {d e : PyData} (h1 : Dp K H x d) (h2 : Dp K H y e) (s1 : SeqAt.shaped d = true) (s2 : SeqAt.shaped e = true) (q : Q (.bl (!PyData.eqv d e)) H) : rNeD K x y H Q := ⟨d, e, h1, h2, s1, s2, q⟩
theorem t_inL {neg : Bool} (h : SqL K H p xs) (hx : flatV x = true) (ha : xs.all flatV = true) (q : Q (.bl (if neg then !inV x xs else inV x xs)) H) : rIn K neg x (.ref p) H Q := ⟨p, xs, rfl, .inl h, hx, ha, q⟩
theorem t_inT {neg : Bool} (h : SqT K H p xs) (hx : flatV x = true) (ha : xs.all flatV = true) (q : Q (.bl (if neg then !inV x xs else inV x xs)) H) : rIn K neg x (.ref p) H Q := ⟨p, xs, rfl, .inr h, hx, ha, q⟩
theorem ty_list (h : SqL K H p xs) : tyV K "list" (.ref p) H := .inl ⟨rfl, xs, h⟩
theorem ty_dict {kvs : List (Key × V)} (h : H p = some (.dK kvs)) : tyV K "dict" (.ref p) H := .inr (.inr (.inl ⟨rfl, .inl ⟨kvs, h⟩⟩))
/-! what is walked -/
variable {ta : TA} {tl : TE} {R : It → Hp → Prop}
theorem t_iList (h : tl σ H fun x H1 => ∃ a, x = .ref a ∧ (∃ xs, SqL K H1 a xs) ∧ R (Itl K a) H1) : iList K tl σ H R := h
theorem k_iList {xs : List V} {R : Addr → Prop} (h : SqL K H p xs) (k : R p) : ∃ a, V.ref p = .ref a ∧ (∃ xs, SqL K H a xs) ∧ R a := ⟨p, rfl, ⟨xs, h⟩, k⟩
theorem t_iTup (h : tl σ H fun x H1 => ∃ a, x = .ref a ∧ (∃ xs, SqT K H1 a xs) ∧ R (Itt K a) H1) : iTup K tl σ H R := h
theorem k_iTup {xs : List V} {R : Addr → Prop} (h : SqT K H p xs) (k : R p) : ∃ a, V.ref p = .ref a ∧ (∃ xs, SqT K H a xs) ∧ R a := ⟨p, rfl, ⟨xs, h⟩, k⟩
theorem t_iRng1 (h : ta σ H fun vs H1 => ∃ j : Int, vs = [.int j] ∧ -(2 ^ 62) ≤ j ∧ j < 2 ^ 62 ∧ R (Itr 0 j.toNat) H1) : iRng1 ta σ H R := h
theorem k_iRng1 {R : Nat → Prop} (h1 : -1000000000000 ≤ j) (h2 : j ≤ 1000000000000) (k : R j.toNat) : ∃ i : Int, [V.int j] = [.int i] ∧ -(2 ^ 62) ≤ i ∧ i < 2 ^ 62 ∧ R i.toNat := ⟨j, rfl, by omega, by omega, k⟩
theorem t_iRng2 (h : ta σ H fun vs H1 => ∃ i j : Int, vs = [.int i, .int j] ∧ (-(2 ^ 62) ≤ i ∧ i < 2 ^ 62 ∧ -(2 ^ 62) ≤ j ∧ j < 2 ^ 62) ∧ R (Itr i (j - i).toNat) H1) : iRng2 ta σ H R := h
theorem t_iStr (h : tl σ H fun v H1 => ∃ x, v = .str x ∧ R (Its x) H1) : iStr tl σ H R := h
theorem t_iEnum (h : ta σ H fun vs H1 => ∃ a xs, vs = [.ref a] ∧ SqL K H1 a xs ∧ R (Ite K a) H1) : iEnum K ta σ H R := h
theorem t_iZip (h : ta σ H fun vs H1 => ∃ a b xs ys, vs = [.ref a, .ref b] ∧ SqL K H1 a xs ∧ SqL K H1 b ys ∧ R (Itz K a b) H1) : iZip K ta σ H R := h
theorem t_iRev (h : ta σ H fun vs H1 => ∃ (a : Addr) (xs : List V), vs = [.ref a] ∧ SqL K H1 a xs ∧ R (Itv K a xs.length) H1) : iRev K ta σ H R := h
/-- a text is walked sign by sign: the signs as a list of numbers -/
theorem walk_sgs {z : Str} : Walk (Its z) z.cps.toList.length (fun _ => True) (fun i H v H' => H' = H ∧ ∃ c, z.cps.toList[i]? = some c ∧ v = .str ⟨#[c]⟩) := by
  have w := walk_str (z := z)
  rw [Array.length_toList]
  exact w.mono (fun _ h => h) fun i H x H' _ _ ⟨e, c, e2, e3⟩ => ⟨e, c, by rw [Array.getElem?_toList]; exact e2, e3⟩
/-! items of written lists -/
theorem atI_map {α β : Type} (f : α → β) (xs : List α) (i : Int) : atI (xs.map f) i = (atI xs i).map f := by
  unfold atI
  rw [List.length_map]
  cases ixN xs.length i with
  | none => rfl
  | some j =>
    show (xs.map f)[j]? = (xs[j]?).map f
    rw [List.getElem?_map]
theorem atI_in {α : Type} {xs : List α} {i : Int} (d : α) (h0 : 0 ≤ i) (h1 : i < xs.length) : atI xs i = some (xs.getD i.toNat d) := by
  unfold atI ixN
  rw [if_pos h0, if_pos h1]
  show xs[i.toNat]? = _
  have h2 : i.toNat < xs.length := by omega
  rw [List.getElem?_eq_getElem h2, List.getD_eq_getElem?_getD, List.getElem?_eq_getElem h2]
  rfl
/-- one of the items -/
theorem pick {α : Type} (xs : List α) (f : α → V) (i : Int) (h0 : 0 ≤ i) (h1 : i < xs.length) : ∃ x, x ∈ xs ∧ atI (xs.map f) i = some (f x) := by
  have h2 : i.toNat < xs.length := by omega
  refine ⟨xs[i.toNat], List.getElem_mem h2, ?_⟩
  rw [atI_map]
  unfold atI ixN
  rw [if_pos h0, if_pos h1]
  show (xs[i.toNat]?).map f = _
  rw [List.getElem?_eq_getElem h2]
  rfl
theorem new_facts {p : Addr} {o : HO} {H1 : Hp} (e : upd H p o = H1) (hp : H p = none) : Same H H1 ∧ H1 p = some o := by
  subst e
  exact ⟨same_new hp, upd_same⟩
/-- a local object changed -/
theorem chg_facts {H0 : Hp} {p : Addr} {o : HO} {H1 : Hp} (e : upd H p o = H1) (s : Same H0 H) (hp : H0 p = none) : Same H0 H1 ∧ H1 p = some o ∧ ∀ b, b ≠ p → H1 b = H b := by
  subst e
  exact ⟨same_upd s hp, upd_same, fun b n => upd_ne n⟩
/-- data all of texts, of ints: as they are compared -/
theorem DpAll_map {α : Type} (f : α → V) (g : α → PyData) (h : ∀ a, Dp K H (f a) (g a)) : ∀ l : List α, DpAll K H (l.map f) (l.map g)
  | [] => .nil
  | x :: r => .cons (h x) (DpAll_map f g h r)
end
/-! ### == of a list with an empty one -/
def rEqNil (K : PySem.W.Frag) (neg : Bool) : R2 := fun x y H Q => ∃ p q xs, x = .ref p ∧ y = .ref q ∧ SqL K H p xs ∧ SqL K H q [] ∧ Q (.bl (if neg then !xs.isEmpty else xs.isEmpty)) H
section
variable {X : Cx}
theorem op_eqNil (hu : X.A.units + 64 < cLine) : OpR X (compareOp .Eq) (rEqNil X.K false) := by
  intro pins s σ H x y v u Q I rx ry h
  obtain ⟨p, q, xs, rfl, rfl, h1, h2, k⟩ := h
  cases rx
  cases ry
  obtain ⟨its, r1, l1, _⟩ := I.list h1
  obtain ⟨its2, r2, l2, _⟩ := I.list h2
  cases r2
  have hu2 : X.A.units < cLine := by omega
  cases r1 with
  | nil => exact SeqAt.RcAt.lists (e := fun _ => true) l1.isList l2.isList rfl hu2 (fun j h _ => absurd h (by simp)) X.prog X.w X.xe _ ⟨.bl _, H, I, rfl, k⟩
  | cons a b => exact SeqAt.RcAt.lists_lengths l1.isList l2.isList (by simp) hu2 X.prog X.w X.xe _ ⟨.bl _, H, I, rfl, k⟩
theorem op_neNil (hu : X.A.units + 64 < cLine) : OpR X (compareOp .NotEq) (rEqNil X.K true) := by
  intro pins s σ H x y v u Q I rx ry h
  obtain ⟨p, q, xs, rfl, rfl, h1, h2, k⟩ := h
  cases rx
  cases ry
  obtain ⟨its, r1, l1, _⟩ := I.list h1
  obtain ⟨its2, r2, l2, _⟩ := I.list h2
  cases r2
  have hu2 : X.A.units < cLine := by omega
  cases r1 with
  | nil => exact SeqAt.RcNeAt.lists (e := fun _ => true) l1.isList l2.isList rfl hu2 (fun j h _ => absurd h (by simp)) X.prog X.w X.xe _ ⟨.bl _, H, I, rfl, k⟩
  | cons a b => exact SeqAt.RcNeAt.lists_lengths l1.isList l2.isList (by simp) hu2 X.prog X.w X.xe _ ⟨.bl _, H, I, rfl, k⟩
end
theorem t_eqNil {K : PySem.W.Frag} {H : Hp} {Q : VK} {p q : Addr} {xs : List V} {neg : Bool} (h1 : SqL K H p xs) (h2 : SqL K H q []) (k : Q (.bl (if neg then !xs.isEmpty else xs.isEmpty)) H) : rEqNil K neg (.ref p) (.ref q) H Q := ⟨p, q, xs, rfl, rfl, h1, h2, k⟩
/-! texts many times -/
def rRepS : R2 := fun x y H Q => ∃ (z : Str) (i : Int), x = .str z ∧ y = .int i ∧ 0 ≤ i ∧ i ≤ 1 ∧ z.length ≤ 1000 ∧ Q (.str (if i = 0 then Str.empty else z)) H
theorem op_repS {X : Cx} : OpR X (binaryOp .Mult) rRepS := by
  intro pins s σ H x y v u Q I rx ry h
  obtain ⟨z, i, rfl, rfl, h0, h1, hz, q⟩ := h
  obtain ⟨t, rfl⟩ := rx
  obtain ⟨t', rfl⟩ := ry
  have e : Txt.mul z i = if i = 0 then Str.empty else z := by
    unfold Txt.mul
    rcases (show i = 0 ∨ i = 1 by omega) with e | e <;> subst e <;> simp
  refine PySem.SB.mul ?_ fun t2 k => ⟨.str (Txt.mul z i), H, I.tok _, ⟨_, rfl⟩, by rw [e]; exact q⟩
  unfold PySem.MulOk
  rcases (show i = 0 ∨ i = 1 by omega) with e | e <;> subst e <;> simp
theorem t_repS {H : Hp} {Q : VK} {z : Str} {i : Int} (h0 : 0 ≤ i) (h1 : i ≤ 1) (hz : z.length ≤ 1000) (q : Q (.str (if i = 0 then Str.empty else z)) H) : rRepS (.str z) (.int i) H Q := ⟨z, i, rfl, rfl, h0, h1, hz, q⟩
/-- xs[i] = v at a list -/
theorem t_setL {H : Hp} {p : Addr} {xs : List V} {i : Int} {v : V} {Q : Hp → Prop} (h : H p = some (.lst xs)) (h0 : 0 ≤ i) (h1 : i < xs.length) (q : Q (upd H p (.lst (xs.set i.toNat v)))) : rSetL (.ref p) (.int i) v H Q :=
  ⟨p, xs, i, i.toNat, rfl, rfl, h, by unfold ixN; rw [if_pos h0, if_pos h1], q⟩
theorem t_gsub {to ti : TE} {t : TSet} {v : V} {σ : L2.St} {H : Hp} {Q : L2.St → Hp → Prop} (h : to σ H fun o H1 => ti σ H1 fun i H2 => t o i v H2 fun H3 => Q σ H3) : gSub to ti t v σ H Q := h
/-! s.index(y), found -/
def rSidx : V → List V → Hp → VK → Prop := fun x xs H Q => ∃ (a b : Str) (k : Nat), x = .str a ∧ xs = [.str b] ∧ Txt.index0 a b = some k ∧ Q (.int k) H
theorem mt_sidx {X : Cx} : MtR X "str.index" rSidx := by
  intro pins s σ H x xs v us Q I rx rs h
  obtain ⟨a, b, k, rfl, rfl, hk, q0⟩ := h
  obtain ⟨t, rfl⟩ := rx
  cases rs with
  | cons r1 rs =>
    cases rs
    obtain ⟨u, rfl⟩ := r1
    cases q : Builtin.Str.occurrences a b 0 a.length 1 with
    | nil =>
      unfold Txt.index0 at hk
      rw [q] at hk
      cases hk
    | cons j rest =>
      unfold Txt.index0 at hk
      rw [q] at hk
      cases hk
      exact PySem.SC.index q ⟨.int (k : Nat), H, I.tok _, ⟨_, rfl⟩, q0⟩
theorem t_sidx {H : Hp} {Q : VK} {z b : Str} {k : Nat} (h : Txt.index0 z b = some k) (q : Q (.int k) H) : rSidx (.str z) [.str b] H Q := ⟨z, b, k, rfl, rfl, h, q⟩
end M

namespace M
open PySem PySem.Spec PyProof.Rows L2
section
variable {K : PySem.W.Frag} {σ : L2.St} {H H' : Hp} {te : TE} {tt : TT} {vs : List Nat} {j : Nat} {p : Addr} {Qd : Addr → Hp → Prop} {z : Str} {lo : Int} {n : Nat}
/-! comprehensions with one name: over a text, a list, a range -/
theorem lcS_fm (φ : Nat → Option V) (hsz : z.length ≤ 1000000)
    (hs : ∀ (i c : Nat) (H2 : Hp) (Qy : V → Hp → Prop) (Qn : Hp → Prop), z.cps.toList[i]? = some c → Same H H2 → (∀ y H6, Same H2 H6 → φ c = some y → Qy y H6) → (∀ H6, Same H2 H6 → φ c = none → Qn H6) →
      tt ((wipe σ vs).set j (some (.str ⟨#[c]⟩))) H2 fun b H5 => if b = true then te ((wipe σ vs).set j (some (.str ⟨#[c]⟩))) H5 Qy else Qn H5)
    (k : ∀ D H', H D = none → Same H H' → H' D = some (.lst (z.cps.toList.filterMap φ)) → Qd D H') (hw : ∀ x, wipe ((wipe σ vs).set j (some x)) vs = wipe σ vs := by intro _; rfl) : LcJ (Its z) H (gName j) tt te vs σ Qd := by
  refine lcJ_fm walk_sgs z.cps.toList rfl φ (by rw [Array.length_toList, sizeLine_eq]; exact Nat.lt_of_le_of_lt hsz (by decide)) (fun _ _ => trivial) (fun i d x H2 H3 Qy Qn ed s2 y h1 h2 => ?_) k
  obtain ⟨rfl, c, ec, rfl⟩ := y
  rw [ed] at ec
  cases ec
  exact ⟨hw _, hs i d H3 Qy Qn ed s2 h1 h2⟩
theorem lcS_map (f : Nat → V) (hsz : z.length ≤ 1000000)
    (hs : ∀ (i c : Nat) (H2 : Hp) (Qy : V → Hp → Prop), z.cps.toList[i]? = some c → Same H H2 → (∀ H6, Same H2 H6 → Qy (f c) H6) → te ((wipe σ vs).set j (some (.str ⟨#[c]⟩))) H2 Qy)
    (k : ∀ D H', H D = none → Same H H' → H' D = some (.lst (z.cps.toList.map f)) → Qd D H') (hw : ∀ x, wipe ((wipe σ vs).set j (some x)) vs = wipe σ vs := by intro _; rfl) : LcJ (Its z) H (gName j) tYes te vs σ Qd := by
  refine lcJ_map walk_sgs z.cps.toList rfl f (by rw [Array.length_toList, sizeLine_eq]; exact Nat.lt_of_le_of_lt hsz (by decide)) (fun _ _ => trivial) (fun i d x H2 H3 Qy ed s2 y h1 => ?_) k
  obtain ⟨rfl, c, ec, rfl⟩ := y
  rw [ed] at ec
  cases ec
  exact ⟨hw _, hs i d H3 Qy ed s2 h1⟩
theorem lcL_fm {α : Type} (ds : List α) (enc : α → V) (hp : SqL K H p (ds.map enc)) (φ : α → Option V) (hsz : ds.length ≤ 1000000)
    (hs : ∀ (i : Nat) (d : α) (H2 : Hp) (Qy : V → Hp → Prop) (Qn : Hp → Prop), ds[i]? = some d → Same H H2 → (∀ y H6, Same H2 H6 → φ d = some y → Qy y H6) → (∀ H6, Same H2 H6 → φ d = none → Qn H6) →
      tt ((wipe σ vs).set j (some (enc d))) H2 fun b H5 => if b = true then te ((wipe σ vs).set j (some (enc d))) H5 Qy else Qn H5)
    (k : ∀ D H', H D = none → Same H H' → H' D = some (.lst (ds.filterMap φ)) → Qd D H') (hw : ∀ x, wipe ((wipe σ vs).set j (some x)) vs = wipe σ vs := by intro _; rfl) : LcJ (Itl K p) H (gName j) tt te vs σ Qd := by
  refine lcJ_fm (walk_list (xs := ds.map enc)) ds (List.length_map ..) φ (by rw [sizeLine_eq]; exact Nat.lt_of_le_of_lt hsz (by decide)) (fun H1 s => s.seq hp) (fun i d x H2 H3 Qy Qn ed s2 y h1 h2 => ?_) k
  obtain ⟨rfl, ex⟩ := y
  rw [List.getElem?_map, ed] at ex
  cases ex
  exact ⟨hw _, hs i d H3 Qy Qn ed s2 h1 h2⟩
theorem lcL_map {α : Type} (ds : List α) (enc : α → V) (hp : SqL K H p (ds.map enc)) (f : α → V) (hsz : ds.length ≤ 1000000)
    (hs : ∀ (i : Nat) (d : α) (H2 : Hp) (Qy : V → Hp → Prop), ds[i]? = some d → Same H H2 → (∀ H6, Same H2 H6 → Qy (f d) H6) → te ((wipe σ vs).set j (some (enc d))) H2 Qy)
    (k : ∀ D H', H D = none → Same H H' → H' D = some (.lst (ds.map f)) → Qd D H') (hw : ∀ x, wipe ((wipe σ vs).set j (some x)) vs = wipe σ vs := by intro _; rfl) : LcJ (Itl K p) H (gName j) tYes te vs σ Qd := by
  refine lcJ_map (walk_list (xs := ds.map enc)) ds (List.length_map ..) f (by rw [sizeLine_eq]; exact Nat.lt_of_le_of_lt hsz (by decide)) (fun H1 s => s.seq hp) (fun i d x H2 H3 Qy ed s2 y h1 => ?_) k
  obtain ⟨rfl, ex⟩ := y
  rw [List.getElem?_map, ed] at ex
  cases ex
  exact ⟨hw _, hs i d H3 Qy ed s2 h1⟩
theorem lcR_map (f : Nat → V) (hsz : n ≤ 1000000)
    (hs : ∀ (i : Nat) (H2 : Hp) (Qy : V → Hp → Prop), i < n → Same H H2 → (∀ H6, Same H2 H6 → Qy (f i) H6) → te ((wipe σ vs).set j (some (.int (lo + i)))) H2 Qy)
    (k : ∀ D H', H D = none → Same H H' → H' D = some (.lst ((List.range n).map f)) → Qd D H') (hw : ∀ x, wipe ((wipe σ vs).set j (some x)) vs = wipe σ vs := by intro _; rfl) : LcJ (Itr lo n) H (gName j) tYes te vs σ Qd := by
  refine lcJ_map walk_range (List.range n) (List.length_range ..).symm f (by rw [List.length_range, sizeLine_eq]; exact Nat.lt_of_le_of_lt hsz (by decide)) (fun _ _ => trivial) (fun i d x H2 H3 Qy ed s2 y h1 => ?_) k
  obtain ⟨rfl, rfl⟩ := y
  have hi : i < n := by
    have h := (List.getElem?_eq_some_iff.mp ed).1
    rwa [List.length_range] at h
  rw [List.getElem?_range hi] at ed
  cases ed
  exact ⟨hw _, hs i H3 Qy hi s2 h1⟩
theorem lcR_fm (φ : Nat → Option V) (hsz : n ≤ 1000000)
    (hs : ∀ (i : Nat) (H2 : Hp) (Qy : V → Hp → Prop) (Qn : Hp → Prop), i < n → Same H H2 → (∀ y H6, Same H2 H6 → φ i = some y → Qy y H6) → (∀ H6, Same H2 H6 → φ i = none → Qn H6) →
      tt ((wipe σ vs).set j (some (.int (lo + i)))) H2 fun b H5 => if b = true then te ((wipe σ vs).set j (some (.int (lo + i)))) H5 Qy else Qn H5)
    (k : ∀ D H', H D = none → Same H H' → H' D = some (.lst ((List.range n).filterMap φ)) → Qd D H') (hw : ∀ x, wipe ((wipe σ vs).set j (some x)) vs = wipe σ vs := by intro _; rfl) : LcJ (Itr lo n) H (gName j) tt te vs σ Qd := by
  refine lcJ_fm walk_range (List.range n) (List.length_range ..).symm φ (by rw [List.length_range, sizeLine_eq]; exact Nat.lt_of_le_of_lt hsz (by decide)) (fun _ _ => trivial) (fun i d x H2 H3 Qy Qn ed s2 y h1 h2 => ?_) k
  obtain ⟨rfl, rfl⟩ := y
  have hi : i < n := by
    have h := (List.getElem?_eq_some_iff.mp ed).1
    rwa [List.length_range] at h
  rw [List.getElem?_range hi] at ed
  cases ed
  exact ⟨hw _, hs i H3 Qy Qn hi s2 h1 h2⟩
/-! items told by what holds of each alone -/
theorem paired_all {α : Type} {Pd : V → Prop} {l : List α} {ys : List V} (p : Paired (fun _ y => Pd y) l ys) : ∀ y ∈ ys, Pd y := by
  induction p with
  | nil => intro y h; cases h
  | cons r _ ih =>
    intro y h
    rcases List.mem_cons.mp h with e | h
    · rw [e]; exact r
    · exact ih y h
theorem lcR_any (Pd : V → Prop) (hsz : n ≤ 1000000)
    (hs : ∀ (i : Nat) (H2 : Hp) (Qy : V → Hp → Prop), i < n → Same H H2 → (∀ y H6, Same H2 H6 → Pd y → Qy y H6) → te ((wipe σ vs).set j (some (.int (lo + i)))) H2 Qy)
    (k : ∀ D H' ys, H D = none → Same H H' → ys.length = n → (∀ y ∈ ys, Pd y) → H' D = some (.lst ys) → Qd D H') (hw : ∀ x, wipe ((wipe σ vs).set j (some x)) vs = wipe σ vs := by intro _; rfl) : LcJ (Itr lo n) H (gName j) tYes te vs σ Qd := by
  refine lcJ_rel walk_range (List.range n) (List.length_range ..).symm (fun _ => true) (fun _ _ y _ => Pd y) (fun _ _ _ _ _ _ h => h) (by rw [List.length_range, sizeLine_eq]; exact Nat.lt_of_le_of_lt hsz (by decide)) (fun _ _ => trivial) (fun L acc i d x H2 H3 Qy Qn hL hL2 ed s2 y h1 h2 => ?_) (fun L H' ys hL s p e => ?_)
  · obtain ⟨rfl, rfl⟩ := y
    have hi : i < n := by
      have h := (List.getElem?_eq_some_iff.mp ed).1
      rwa [List.length_range] at h
    exact ⟨hw _, hs i H3 Qy hi s2 fun y H6 s6 py => h1 y H6 s6 rfl py⟩
  · have hl := Paired.length p
    have e2 : (List.range n).filter (fun _ => true) = List.range n := List.filter_eq_self.mpr fun _ _ => rfl
    rw [e2, List.length_range] at hl
    exact k L H' ys hL s hl.symm (paired_all p) e
theorem lcL_any (xs : List V) (hp : SqL K H p xs) (Pd : V → Prop) (hsz : xs.length ≤ 1000000)
    (hs : ∀ (i : Nat) (x : V) (H2 : Hp) (Qy : V → Hp → Prop), xs[i]? = some x → Same H H2 → (∀ y H6, Same H2 H6 → Pd y → Qy y H6) → te ((wipe σ vs).set j (some x)) H2 Qy)
    (k : ∀ D H' ys, H D = none → Same H H' → ys.length = xs.length → (∀ y ∈ ys, Pd y) → H' D = some (.lst ys) → Qd D H') (hw : ∀ x, wipe ((wipe σ vs).set j (some x)) vs = wipe σ vs := by intro _; rfl) : LcJ (Itl K p) H (gName j) tYes te vs σ Qd := by
  refine lcJ_rel (walk_list (xs := xs)) xs rfl (fun _ => true) (fun _ _ y _ => Pd y) (fun _ _ _ _ _ _ h => h) (by rw [sizeLine_eq]; exact Nat.lt_of_le_of_lt hsz (by decide)) (fun H1 s => s.seq hp) (fun L acc i d x H2 H3 Qy Qn hL hL2 ed s2 y h1 h2 => ?_) (fun L H' ys hL s p e => ?_)
  · obtain ⟨rfl, ex⟩ := y
    exact ⟨hw _, hs i x H3 Qy ex s2 fun y H6 s6 py => h1 y H6 s6 rfl py⟩
  · have hl := Paired.length p
    have e2 : xs.filter (fun _ => true) = xs := List.filter_eq_self.mpr fun _ _ => rfl
    rw [e2] at hl
    exact k L H' ys hL s hl.symm (paired_all p) e
theorem texts_of {F : Str → Prop} : ∀ {ys : List V}, (∀ y ∈ ys, ∃ x, y = V.str x ∧ F x) → ∃ ws : List Str, ys = ws.map V.str ∧ ∀ x ∈ ws, F x
  | [], _ => ⟨[], rfl, fun _ h => by cases h⟩
  | y :: r, h => by
    obtain ⟨x, e, f⟩ := h y List.mem_cons_self
    obtain ⟨ws, e2, f2⟩ := texts_of (ys := r) fun z hz => h z (List.mem_cons_of_mem _ hz)
    refine ⟨x :: ws, by rw [e, e2]; rfl, fun z hz => ?_⟩
    rcases List.mem_cons.mp hz with e3 | hz
    · rw [e3]; exact f
    · exact f2 z hz
end
end M

/-! sep.join(reversed(list of texts)), list(reversed(list)) -/
namespace RT
open PySem PySem.Spec PyProof.Rows L2
section
variable {prog : Program} {w : World} {A : Around} {E : Value → Shared → Prop} {s : Shared}
theorem join_rev {x : Str} {t : Tok} {ys : List Str} {it l : Addr} {items : Array Value} {Q : Value → Shared → Prop} (hh : A.handled = none) (hit : s.heap.IsRevIter it l ((items.size : Int) - 1)) (hl : s.heap.IsList l items) (hne : l ≠ it) (hn : items.size ≤ sizeLine)
    (hP : ∀ acc : Array Value, ItemsOf (fun i v => items[items.size - 1 - i]? = some v) acc items.size → StrsAre acc.toList ys) (hok : (ys.map (·.length)).sum + ys.length * x.length ≤ 16777216)
    (hq : ∀ (h' : Heap) (tk : Nat) (t' : Tok), (∀ b o, b ≠ it → s.heap.get? b = some o → h'.get? b = some o) → Q (.str (Txt.join x ys) t') { s with heap := h', toks := tk }) :
    wpAny (model prog w) A (call (.builtin "str.join") [.str x t, .ref it]) Q E s := by
  refine wpAny_call (codeAny_call_builtin F.slot_str_join.plain F.entry_str_join (F.slot_str_join.check _ _ _ _ _ _ _ _ (typeIs_str _ _ _) (F.args_str_join_2 _ _) ?_))
  rw [join_tree_other]
  refine wpAny_bind (wpAny_typeOf hit.typeIs ?_)
  show wpAny _ A.in1 ((pyIter (.ref it)).tryCatch _ >>= fun it => collect it >>= fun items => joinTail x items) _ _ s
  refine wpAny_bind (wpAny_tryCatch (wpAny_pyIter_revIter hit ?_))
  refine wpAny_bind (collect_rev (A := A.in1) hh hit hl hne hn (fun h' tk acc hk hacc => ?_))
  obtain ⟨l', hl', ht⟩ := strsAre_values (hP acc hacc)
  subst ht
  rw [hl']
  have hok' := joinOk_of hok
  unfold JoinOk at hok'
  rw [Bool.not_eq_true'] at hok'
  have g : Gives (joinTail x (strValues l')) (joinMade x l') := by
    have g0 := gives_joinTail x l' hok'
    cases l' with
    | nil => exact g0
    | cons p r => cases r with
      | nil => exact g0
      | cons q r' => exact g0
  exact g prog w A (wants Q E) _ (post_join l' ⟨joinFit_length hok', fun t' k => hq h' k t' hk⟩)
end
end RT
namespace M
open PySem PySem.Spec PyProof.Rows L2
def tJoinRev (K : PySem.W.Frag) (to te : TE) : TE := fun σ H Q => to σ H fun x H1 => (∃ a, x = .str a) ∧ te σ H1 fun y H2 => ∃ (a : Str) (p : Addr) (ys : List Str), x = .str a ∧ y = .ref p ∧ SqL K H2 p (ys.map V.str) ∧ (ys.map (·.length)).sum + ys.length * a.length ≤ 16777216 ∧ Q (.str (Txt.join a ys.reverse)) H2
section
variable {X : Cx}
theorem pe_joinRev {o e : Expr} {to te : TE} {apos pos p2 pos2 : Pos} (hc : X.calm = true) (ho : PE X o to) (hg2 : Gl X "reversed") (hm2 : X.mg "reversed" = none) (he : PE X e te)
    (hs1 : starEach [.Call (.Name "reversed" p2) [e] [] pos2] X.env = [(false, eval (.Call (.Name "reversed" p2) [e] [] pos2) X.env)] := by rfl)
    (hs : starEach [e] X.env = (false, eval e X.env) :: starEach [] X.env := by rfl)
    (hbase : attributeBase o "join" X.env (eval o X.env) = eval o X.env := by rfl) (hline : (apos.endLine == pos.line) = true := by rfl) :
    PE X (.Call (.Attribute o "join" apos) [.Call (.Name "reversed" p2) [e] [] pos2] [] pos) (tJoinRev X.K to te) := by
  refine ⟨fun pins s σ H Q I h => ?_⟩
  refine PySem.Call_method1 hbase hs1 hline (thn (ho.run pins s σ H _ I h) fun v s1 ⟨x, H1, I1, r1, q1⟩ => ?_)
  obtain ⟨⟨a, rfl⟩, q1⟩ := q1
  obtain ⟨t, rfl⟩ := _root_.id r1
  refine ⟨"str", _, F.plainAttrs_str, F.slot_str_join, F.type_str_join, typeIs_str _ _ _, (fun _ e => nomatch e), Calls.callWith_builtin rfl (Calls.evalArgs_plain (Calls.spliced_cons ?_))⟩
  refine Call_ (ld_blt I1 hg2 hm2 PyProof.Rows.boot_reversed (PyProof.Rows.callWith_type1 (args_cons (thn (he.run pins s1 σ H1 _ I1 q1) fun u s2 ⟨y, H2, I2, r2, q2⟩ => args_nil ?_) hs) hs rfl))
  obtain ⟨a', p, ys, ea, rfl, hq, hz, q2⟩ := q2
  cases ea
  obtain rfl : u = Value.ref p := r2
  obtain ⟨its, rv, p', hsz⟩ := I2.list hq
  refine call_reversed_list p'.isList (Calls.spliced_nil ?_)
  have k0 : ∀ b o, s2.heap.get? b = some o → (s2.heap.push (revObj p ((its.toArray.size : Int) - 1))).get? b = some o := fun b o e => Heap.get?_push_of_some _ e
  have I3 : Inv X pins σ H2 { s2 with heap := s2.heap.push (revObj p ((its.toArray.size : Int) - 1)) } := I2.kept (t' := s2.toks) k0
  obtain ⟨f0, f1, f2, f3, f4, f5⟩ := I2.fpOk (H' := H2) (b := s2.heap.objs.size) (Nat.le_refl _) (I2.hok.fresh (Nat.le_refl _))
  have hl := p'.isList
  obtain ⟨ol, hol, _⟩ := id hl
  have hne : p ≠ s2.heap.objs.size := Nat.ne_of_lt (Heap.lt_size hol)
  have hn : its.toArray.size ≤ sizeLine := by rw [List.size_toArray, ← rv.length]; exact hsz
  refine RT.join_rev (s := { s2 with heap := s2.heap.push (revObj p ((its.toArray.size : Int) - 1)) }) (ys := ys.reverse) (I2.ok.hd hc) ⟨_, Heap.get?_push_size _ rfl, rfl, rfl⟩ (hl.push _) hne hn (fun acc hi => ?_) ?_ (fun h' tk t' hk => ?_)
  · have r3 := RT.vals_rev rv hi
    rw [← List.map_reverse] at r3
    exact strs_of_vals r3
  · rw [List.length_reverse, List.map_reverse, List.sum_reverse]
    exact hz
  · exact ⟨.str _, H2, I3.turned (t' := tk) (fun b o hb e => hk b o hb e) f0 f1 f3 f4 f5, ⟨t', rfl⟩, q2⟩
end
theorem t_joinRev {K : PySem.W.Frag} {σ : L2.St} {H : Hp} {Q : VK} {to te : TE} (h : to σ H fun x H1 => (∃ a, x = .str a) ∧ te σ H1 fun y H2 => ∃ (a : Str) (p : Addr) (ys : List Str), x = .str a ∧ y = .ref p ∧ SqL K H2 p (ys.map V.str) ∧ (ys.map (·.length)).sum + ys.length * a.length ≤ 16777216 ∧ Q (.str (Txt.join a ys.reverse)) H2) : tJoinRev K to te σ H Q := h
end M

namespace M
open PySem PySem.Spec PyProof.Rows L2
/-! ### != of two lists of the same texts -/
def rNeStrs (K : PySem.W.Frag) : R2 := fun x y H Q => ∃ p q, ∃ ws : List Str, x = .ref p ∧ y = .ref q ∧ SqL K H p (ws.map V.str) ∧ SqL K H q (ws.map V.str) ∧ Q (.bl false) H
theorem op_neStrs {X : Cx} (hu : X.A.units + 64 < cLine) : OpR X (compareOp .NotEq) (rNeStrs X.K) := by
  intro pins s σ H x y v u Q I rx ry h
  obtain ⟨p, q, ws, rfl, rfl, h1, h2, k⟩ := h
  cases rx
  cases ry
  obtain ⟨its, r1, l1, _⟩ := I.list h1
  obtain ⟨its2, r2, l2, _⟩ := I.list h2
  have hu2 : X.A.units < cLine := by omega
  have hs1 : its.toArray.size = ws.length := by rw [List.size_toArray, ← r1.length, List.length_map]
  have hs2 : its2.toArray.size = ws.length := by rw [List.size_toArray, ← r2.length, List.length_map]
  have hall : (List.range its.toArray.size).all (fun _ => true) = true := List.all_eq_true.mpr fun _ _ => rfl
  have e := SeqAt.RcNeAt.lists (A := X.A) (e := fun _ => true) l1.isList l2.isList (by rw [hs1, hs2]) hu2 (fun j h3 h4 => by
    have hj : j < ws.length := by omega
    have e0 : (ws.map V.str)[j]? = some (.str ws[j]) := by rw [List.getElem?_map, List.getElem?_eq_getElem hj]; rfl
    obtain ⟨u1, g1, v1⟩ := Vals.get r1 e0
    obtain ⟨u2, g2, v2⟩ := Vals.get r2 e0
    obtain ⟨t1, rfl⟩ := v1
    obtain ⟨t2, rfl⟩ := v2
    have a1 : its.toArray[j] = .str ws[j] t1 := by
      rw [List.getElem?_eq_getElem (by simpa using h3)] at g1
      simpa using g1
    have a2 : its2.toArray[j] = .str ws[j] t2 := by
      rw [List.getElem?_eq_getElem (by simpa using h4)] at g2
      simpa using g2
    rw [a1, a2]
    have := SeqAt.EqAt.str_str (A := X.A.in1) (s := s) ws[j] t1 ws[j] t2
    rwa [show (ws[j] == ws[j]) = true by rw [← SeqAt.str_beq]; exact beq_self_eq_true _] at this)
  rw [hall] at e
  exact e X.prog X.w X.xe _ ⟨.bl _, H, I, rfl, k⟩
theorem t_neStrs {K : PySem.W.Frag} {H : Hp} {Q : VK} {p q : Addr} (ws : List Str) (h1 : SqL K H p (ws.map V.str)) (h2 : SqL K H q (ws.map V.str)) (k : Q (.bl false) H) : rNeStrs K (.ref p) (.ref q) H Q := ⟨p, q, ws, rfl, rfl, h1, h2, k⟩
theorem t_gtup {K : PySem.W.Frag} {σ : L2.St} {H : Hp} {Q : L2.St → Hp → Prop} {a : Addr} {xs : List V} {n : Nat} {t : TGs} (h : SqT K H a xs) (hl : xs.length = n) (q : t xs σ H Q) : gTup K n t (.ref a) σ H Q := ⟨a, xs, rfl, h, hl, q⟩
theorem t_gcons {σ : L2.St} {H : Hp} {Q : L2.St → Hp → Prop} {v : V} {r : List V} {t : TG} {u : TGs} (q : t v σ H fun σ' H' => u r σ' H' Q) : gCons t u (v :: r) σ H Q := ⟨v, r, rfl, q⟩
theorem t_gnil {σ : L2.St} {H : Hp} {Q : L2.St → Hp → Prop} (q : Q σ H) : gNil [] σ H Q := ⟨rfl, q⟩
end M

/-! texts as lists of numbers -/
namespace A
open PySem PySem.Spec PyProof.Rows L2 NumText
open TL (tl)
theorem tl_ext {x y : Str} (h : tl x = tl y) : x = y := TL.ext_tl h
theorem tl_iff {x y : Str} : x = y ↔ tl x = tl y := ⟨fun h => by rw [h], tl_ext⟩
theorem tl_len (z : Str) : z.length = (tl z).length := TL.len_tl z
theorem tl_cat (x y : Str) : tl (x ++ y) = tl x ++ tl y := TL.tl_append x y
theorem len_cat (x y : Str) : (x ++ y).length = x.length + y.length := by rw [tl_len, tl_cat, List.length_append, tl_len, tl_len]
theorem tl_cut (z : Str) (lo hi : Option Int) : tl (cutS z lo hi) = ((tl z).drop (HT.sIx z.length 0 lo)).take (HT.sIx z.length z.length hi - HT.sIx z.length 0 lo) := rfl
theorem sIx_int (n d : Nat) (i : Int) (h : 0 ≤ i) : HT.sIx n d (some i) = min i.toNat n := by
  show (if i < 0 then _ else min i.toNat n) = _
  rw [if_neg (by omega)]
theorem tl_from (z : Str) (i : Int) (h : 0 ≤ i) : tl (cutS z (some i) none) = (tl z).drop i.toNat := by
  rw [tl_cut, sIx_int _ _ _ h, HT.sIx_none, tl_len]
  by_cases c : i.toNat ≤ (tl z).length
  · rw [Nat.min_eq_left c, List.take_of_length_le (by rw [List.length_drop]; omega)]
  · rw [Nat.min_eq_right (by omega), List.drop_of_length_le (by omega), List.drop_of_length_le (by omega), List.take_nil]
theorem tl_to (z : Str) (i : Int) (h : 0 ≤ i) : tl (cutS z none (some i)) = (tl z).take i.toNat := by
  rw [tl_cut, sIx_int _ _ _ h, HT.sIx_none, tl_len]
  show ((tl z).drop 0).take (min i.toNat (tl z).length - 0) = _
  rw [List.drop_zero, Nat.sub_zero]
  by_cases c : i.toNat ≤ (tl z).length
  · rw [Nat.min_eq_left c]
  · rw [Nat.min_eq_right (by omega), List.take_of_length_le (by omega), List.take_of_length_le (by omega)]
theorem cut_from_len (z : Str) (i : Int) (h : 0 ≤ i) : (cutS z (some i) none).length ≤ z.length := cutS_length z _ _
theorem sub1 (x y : Str) (c : Nat) (hy : tl y = [c]) : Txt.startswith x y = decide ((tl x).head? = some c) := by
  have hp := TL.at_iff (x := x) (y := y) (by rw [hy]; simp) 0
  have e : Txt.startswith x y = true ↔ TL.pre (tl y) ((tl x).drop 0) = true := by
    rw [← hp]
    unfold Txt.startswith
    simp only [Bool.and_eq_true, decide_eq_true_eq]
    exact Iff.rfl
  rw [hy, List.drop_zero] at e
  have e2 : TL.pre [c] (tl x) = true ↔ (tl x).head? = some c := by
    unfold TL.pre
    cases tl x with
    | nil => simp
    | cons a r => simp
  rw [Bool.eq_iff_iff, e, e2]
  simp
theorem starts_dash (z : Str) : Txt.startswith z "-" = decide ((tl z).head? = some 45) := sub1 z "-" 45 (by decide +kernel)
/-! numbers -/
def isDig (c : Nat) : Bool := decide (48 ≤ c) && decide (c ≤ 57)
theorem isDig_mem (c : Nat) : decide (c ∈ tl "0123456789") = isDig c := by
  have e : tl "0123456789" = [48, 49, 50, 51, 52, 53, 54, 55, 56, 57] := by decide +kernel
  rw [e, Bool.eq_iff_iff]
  unfold isDig
  simp only [decide_eq_true_eq, Bool.and_eq_true, List.mem_cons, List.not_mem_nil, or_false]
  omega
def figs (l : List Nat) : List Nat := if l.head? = some 45 then l.drop 1 else l
def val (l : List Nat) : Int := (digitsVal l : Nat)
def good (l : List Nat) : Bool := decide (1 ≤ (figs l).length) && decide ((figs l).length ≤ 61) && (figs l).all isDig
def numRd (l : List Nat) : Option Int :=
  if good l = true then
    if (figs l).head? = some 48 ∧ l ≠ [48] then none
    else some (if l.head? = some 45 then 0 - val (figs l) else val (figs l))
  else none
theorem allDig {l : List Nat} (h : l.all isDig = true) : AllDigits l := fun c hc => by
  have z := List.all_eq_true.mp h c hc
  unfold isDig at z
  rw [Bool.and_eq_true, decide_eq_true_eq, decide_eq_true_eq] at z
  exact z
theorem int_pos {z : Str} (h : (tl z).all isDig = true) (h1 : 1 ≤ (tl z).length) (h2 : (tl z).length ≤ 100) : intText? z = some (val (tl z)) :=
  intText_digits (allDig h) (by intro e; rw [show tl z = [] from e] at h1; simp at h1) (by rw [tl_len]; omega)
theorem int_neg {z : Str} {l : List Nat} (e : tl z = 45 :: l) (h : l.all isDig = true) (h1 : 1 ≤ l.length) (h2 : l.length ≤ 100) : intText? z = some (0 - val l) := by
  have hd := allDig h
  have ez : z.cps.toList = 45 :: l := e
  rw [intText_of fun c hc => by
    rw [ez] at hc
    rcases List.mem_cons.mp hc with e1 | e1
    · exact Or.inl e1
    · exact Or.inr (hd c e1)]
  rw [ez, dropWhile_of (by decide)]
  have es : sign (45 :: l) = (true, l) := rfl
  have hne : l ≠ [] := by intro q; rw [q] at h1; simp at h1
  have ec : core (45 :: l) = l := by
    unfold core
    rw [dropWhile_of (by decide), es]
    show (l.reverse.dropWhile blank).reverse = l
    rw [dropWhile_digits hd.reverse, List.reverse_reverse]
  rw [ec, es, digits_of hd hne]
  have hsz := push_size l #[]
  have hv := push_foldl l #[]
  show (if _ ≤ 4300 then some (worth true _) else none) = _
  rw [if_pos (by rw [hsz]; simp only [Array.size_empty]; omega)]
  unfold worth val digitsVal
  rw [hv]
  show some (-((_ : Nat) : Int)) = some (0 - _)
  rw [Int.zero_sub]
  rfl
/-- a good text is read as its number -/
theorem int_good {z : Str} (h : good (tl z) = true) : intText? z = some (if (tl z).head? = some 45 then 0 - val (figs (tl z)) else val (figs (tl z))) := by
  unfold good at h
  simp only [Bool.and_eq_true, decide_eq_true_eq] at h
  obtain ⟨⟨h1, h2⟩, h3⟩ := h
  by_cases c : (tl z).head? = some 45
  · rw [if_pos c]
    have e : tl z = 45 :: figs (tl z) := by
      unfold figs
      rw [if_pos c]
      cases q : tl z with
      | nil => rw [q] at c; simp at c
      | cons a r =>
        rw [q] at c
        have : a = 45 := by simpa using c
        rw [this]
        rfl
    exact int_neg e h3 h1 (by omega)
  · rw [if_neg c]
    have e : figs (tl z) = tl z := by
      unfold figs
      rw [if_neg c]
    rw [e] at h1 h2 h3 ⊢
    exact int_pos h3 h1 (by omega)
/-- what number_of tells, as a value -/
def numV : V → V
  | .str z => (numRd (tl z)).elim .non .int
  | _ => .non
theorem figs_le (l : List Nat) : (figs l).length ≤ l.length := by
  unfold figs
  split
  · rw [List.length_drop]; omega
  · exact Nat.le_refl _
theorem dec_sign (c d : Nat) (y : Str) (h : tl y = [d]) : decide (V.str ⟨#[c]⟩ = V.str y) = decide (c = d) := by
  rw [Bool.eq_iff_iff]
  simp only [decide_eq_true_eq, V.str.injEq]
  constructor
  · intro e
    have e2 : tl ⟨#[c]⟩ = tl y := by rw [e]
    rw [h] at e2
    exact (List.cons.inj (show [c] = [d] from e2)).1
  · intro e
    subst e
    exact tl_ext (by rw [h] <;> rfl)
theorem dec_text (x y : Str) : decide (V.str x = V.str y) = decide (tl x = tl y) := by
  rw [Bool.eq_iff_iff]
  simp only [decide_eq_true_eq, V.str.injEq]
  exact tl_iff
theorem joinL_nil : ∀ ls : List (List Nat), TL.joinL [] ls = ls.flatten
  | [] => rfl
  | [x] => by
    show x = [x].flatten
    simp
  | x :: y :: r => by
    show x ++ ([] ++ TL.joinL [] (y :: r)) = _
    rw [joinL_nil (y :: r), List.nil_append]
    simp only [List.flatten_cons]
theorem tl_join0 (ws : List Str) : tl (Txt.join "" ws) = (ws.map tl).flatten := by
  rw [TL.join_eq, TL.tl_join, show tl "" = [] by decide +kernel, joinL_nil]
theorem len_join0 (ws : List Str) : (Txt.join "" ws).length = (ws.map (·.length)).sum := by
  rw [tl_len, tl_join0, List.length_flatten, List.map_map]
  exact congrArg List.sum (List.map_congr_left fun x _ => (tl_len x).symm)
theorem val_snoc (l : List Nat) (c : Nat) (h : isDig c = true) : val (l ++ [c]) = 10 * val l + ((c - 48 : Nat) : Int) := by
  unfold val
  rw [digitsVal_snoc]
  omega
theorem fold_lt : ∀ (l : List Nat) (a : Nat), l.all isDig = true → l.foldl (fun acc c => acc * 10 + (c - 48)) a < (a + 1) * 10 ^ l.length
  | [], a, _ => by simp
  | c :: r, a, h => by
    rw [List.all_cons, Bool.and_eq_true] at h
    have h1 := fold_lt r (a * 10 + (c - 48)) h.2
    have h2 := h.1
    unfold isDig at h2
    rw [Bool.and_eq_true, decide_eq_true_eq, decide_eq_true_eq] at h2
    rw [List.foldl_cons, List.length_cons, Nat.pow_succ]
    refine Nat.lt_of_lt_of_le h1 ?_
    rw [Nat.mul_comm (10 ^ r.length) 10, ← Nat.mul_assoc]
    exact Nat.mul_le_mul_right _ (by omega)
theorem val_lt (l : List Nat) (h : l.all isDig = true) : 0 ≤ val l ∧ val l < ((10 ^ l.length : Nat) : Int) := by
  have h1 := fold_lt l 0 h
  rw [Nat.zero_add, Nat.one_mul] at h1
  exact ⟨Int.natCast_nonneg _, Int.ofNat_lt.mpr h1⟩
end A

set_option maxHeartbeats 4000000
open PySem PySem.Spec PyProof.Rows L2 M
/-! the small words of these proofs -/
local macro_rules | `(tactic| walk_at "len") => `(tactic| (intro vs H Q E h; first
  | (obtain ⟨e, _⟩ := h; subst e; rfl) | (obtain ⟨_, e, _⟩ := h; subst e; rfl) | (obtain ⟨_, _, e, _⟩ := h; subst e; rfl) | (obtain ⟨_, _, _, e, _⟩ := h; subst e; rfl) | (obtain ⟨_, _, _, _, e, _⟩ := h; subst e; rfl) | (obtain ⟨_, _, _, _, _, e, _⟩ := h; subst e; rfl) | (obtain ⟨_, _, _, _, _, _, e, _⟩ := h; subst e; rfl) | (obtain ⟨_, _, _, _, _, _, _, e, _⟩ := h; subst e; rfl) | (obtain ⟨_, _, _, _, _, _, _, _, e, _⟩ := h; subst e; rfl) | (obtain ⟨_, _, _, _, _, _, _, _, _, e, _⟩ := h; subst e; rfl) | (obtain ⟨_, _, _, _, _, _, _, _, _, _, e, _⟩ := h; subst e; rfl) | (obtain ⟨_, _, _, _, _, _, _, _, _, _, _, e, _⟩ := h; subst e; rfl)))
/-! what an address holds, by the facts around -/
local macro_rules | `(tactic| walk_at "hp") => `(tactic| first
  | assumption
  | exact upd_same
  | (refine (by assumption : Same _ _) _ _ ?_; walk_at "hp"))
local macro_rules | `(tactic| walk_at "sq") => `(tactic| first
  | assumption
  | exact SqL.of (by walk_at "hp")
  | exact SqT.of (by walk_at "hp")
  | (refine Same.seq (by assumption) ?_; walk_at "sq"))
local macro_rules | `(tactic| walk_at "new") => `(tactic| (intro p hp; generalize eH : upd _ p _ = H1; obtain ⟨s1, h1⟩ := new_facts eH hp; clear eH))
local macro_rules | `(tactic| walk_at "kd") => `(tactic| first
  | assumption
  | exact M.Kd.int _ | exact M.Kd.str _ | exact M.Kd.bl _ | exact M.Kd.non
  | exact M.Kd.lst (by walk_at "hp") | exact M.Kd.tup (by walk_at "hp") | exact M.Kd.dK (by walk_at "hp")
  | (refine M.Kd.mono (by assumption) ?_; walk_at "kd"))
local macro_rules | `(tactic| walk_at "side") => `(tactic| first
  | decide
  | omega
  | (dsimp only; omega)
  | (refine M.CDivW_small ?_ ?_ <;> omega)
  | (refine M.CMulX_small ?_ ?_ ?_ ?_ <;> omega))
local macro_rules | `(tactic| walk_at "st") => `(tactic| first
  | ((with_reducible show tVar _ _ _ _); refine t_var rfl ?_)
  | (with_reducible refine' M.t_cst ?_)
  | (with_reducible refine' M.t_op ?_)
  | (with_reducible refine' M.t_cons ?_)
  | (with_reducible refine' M.t_nil ?_)
  | (with_reducible refine' M.t_cb ?_)
  | (with_reducible refine' M.t_seq ?_)
  | (with_reducible refine' M.t_asg ?_)
  | (with_reducible refine' M.t_gname ?_)
  | (with_reducible refine' M.t_ret ?_)
  | (with_reducible refine' M.t_ifs ?_)
  | (with_reducible refine' M.t_test ?_)
  | (with_reducible refine' M.t_B ?_)
  | (with_reducible refine' M.t_and ?_)
  | (with_reducible refine' M.t_or ?_)
  | (with_reducible refine' M.t_not ?_)
  | (with_reducible refine' M.t_andV ?_)
  | (with_reducible refine' M.t_orV ?_)
  | (with_reducible refine' M.t_notV ?_)
  | (with_reducible refine' M.t_if ?_)
  | (with_reducible refine' M.t_un ?_)
  | (with_reducible refine' M.t_chain ?_)
  | (with_reducible refine' M.t_call ?_)
  | (with_reducible refine' M.t_next ?_)
  | (with_reducible refine' M.t_retN ?_)
  | (with_reducible refine' M.t_drop ?_)
  | (with_reducible refine' M.t_par ?_)
  | (with_reducible refine' M.t_sl ?_)
  | (with_reducible refine' M.t_nopart ?_)
  | (with_reducible refine' M.t_part ?_)
  | (with_reducible refine' M.t_m1 ?_)
  | (with_reducible refine' M.t_m0 ?_)
  | (with_reducible refine' M.t_bm0 ?_)
  | (with_reducible refine' M.t_bm ?_)
  | (with_reducible refine' M.t_rI0 ?_)
  | ((with_reducible show rI _ _ _ _ _ _); refine t_rI (by walk_at "side") ?_)
  | ((with_reducible show rEq _ _ _ _); refine t_rEq rfl ?_)
  | ((with_reducible show rNe _ _ _ _); refine t_rNe rfl ?_)
  | (with_reducible refine' t_lc ?_)
  | (with_reducible refine' t_for ?_)
  | (with_reducible refine' t_inSg ?_)
  | (with_reducible refine' t_isN ?_)
  | (with_reducible refine' t_notN ?_)
  | (with_reducible refine' t_abs ?_)
  | (with_reducible refine' t_max2 ?_)
  | (with_reducible refine' t_min2 ?_)
  | (with_reducible refine' t_int1i ?_)
  | (with_reducible refine' t_int1b ?_)
  | (with_reducible refine' t_iList ?_)
  | (with_reducible refine' t_iTup ?_)
  | (with_reducible refine' t_iRng1 ?_)
  | (with_reducible refine' t_iRng2 ?_)
  | (with_reducible refine' t_iStr ?_)
  | (with_reducible refine' t_iEnum ?_)
  | (with_reducible refine' t_iZip ?_)
  | (with_reducible refine' t_iRev ?_)
  | (with_reducible refine' t_joinRev ?_)
  | (with_reducible refine' t_gsub ?_)
  | (with_reducible refine' t_gcons ?_)
  | (with_reducible refine' t_gnil ?_)
  | (with_reducible refine' t_rU ?_)
  | ((with_reducible show tDNewK _ _ _); refine k_dnew ?_; walk_at "new")
  | (with_reducible refine' t_lst0 ?_)
  | (with_reducible refine' t_tup0 ?_)
  | ((with_reducible show rIsi _ _ _ _); first
      | refine M.t_isi (b := true) (by walk_at "kd") (by decide +kernel) ?_
      | refine M.t_isi (b := false) (by walk_at "kd") (by decide +kernel) ?_)
  | (refine iteT ?_)
  | (refine iteF ?_)
  | ((with_reducible show rIxS _ _ _ _); refine t_ixS (by walk_at "sz") (by assumption) ?_)
  | ((with_reducible show ∃ a b, V.str _ = V.str a ∧ [V.str _] = [V.str b] ∧ _); refine ⟨_, _, rfl, rfl, ?_⟩)
  | ((with_reducible show ∃ j, [V.int _] = [V.int j] ∧ _); refine ⟨_, rfl, by omega, by omega, ?_⟩)
  | ((with_reducible show ∃ i j, [V.int _, V.int _] = [V.int i, V.int j] ∧ _); refine ⟨_, _, rfl, ⟨by omega, by omega, by omega, by omega⟩, ?_⟩)
  | ((with_reducible show ∃ a, V.ref _ = V.ref a ∧ (∃ xs, SqL _ _ a xs) ∧ _); refine ⟨_, rfl, ⟨_, by walk_at "sq"⟩, ?_⟩)
  | ((with_reducible show ∃ a, V.ref _ = V.ref a ∧ (∃ xs, SqT _ _ a xs) ∧ _); refine ⟨_, rfl, ⟨_, by walk_at "sq"⟩, ?_⟩)
  | ((with_reducible show ∃ a xs, [V.ref _] = [V.ref a] ∧ SqL _ _ a xs ∧ _); refine ⟨_, _, rfl, by walk_at "sq", ?_⟩)
  | ((with_reducible show ∃ a b xs ys, [V.ref _, V.ref _] = [V.ref a, V.ref b] ∧ _); refine ⟨_, _, _, _, rfl, by walk_at "sq", by walk_at "sq", ?_⟩)
  | ((with_reducible show rEqNil _ _ _ _ _ _); refine t_eqNil (by walk_at "sq") (by walk_at "sq") ?_)
  | ((with_reducible show rLenSeq _ _ _ _); first | refine t_lenL (by walk_at "sq") ?_ | refine t_lenT (by walk_at "sq") ?_)
  | ((with_reducible show rLenD _ _ _); refine t_lenD (by walk_at "hp") ?_)
  | ((with_reducible show rLenStr _ _ _); refine t_lenS (by walk_at "sz") ?_)
  | ((with_reducible show rAddS _ _ _ _); refine t_addS (by walk_at "sz") ?_)
  | ((with_reducible show rSlS _ _ _ _ _); refine t_slS (by walk_at "sz") ?_)
  | ((with_reducible show NewL _ _ _); refine k_newL (Nat.le_of_ble_eq_true rfl) ?_; walk_at "new")
  | ((with_reducible show NewT _ _ _); refine k_newT (Nat.le_of_ble_eq_true rfl) ?_; walk_at "new")
  | (with_reducible refine ⟨⟨_, rfl⟩, ?_⟩)
  | (with_reducible refine ⟨_, rfl, ?_⟩))
local macro_rules | `(tactic| walk_at "sz") => `(tactic| first
  | assumption
  | exact Nat.le_trans (by assumption) (by decide)
  | (rw [sizeLine_eq]; omega))
local macro_rules | `(tactic| walk_at "sts") => `(tactic| repeat walk_at "st")
namespace T
def top (i : Nat) : Stmt := PySem.Challenge.pw_flowhall_k01_words_and_numbers.main.body.getD i (.Pass ⟨0, 0, 0, 0⟩)
abbrev s_is_whole : Stmt := top 5
abbrev N_is_whole : List Str := ["thing"]
theorem sc_is_whole : FnScope N_is_whole ["thing"] (L2.defScope s_is_whole) := ⟨rfl, rfl, rfl, by decide +kernel, rfl, by decide +kernel, by decide +kernel⟩
abbrev s_is_among : Stmt := top 6
abbrev N_is_among : List Str := ["thing", "least", "most"]
theorem sc_is_among : FnScope N_is_among ["thing", "least", "most"] (L2.defScope s_is_among) := ⟨rfl, rfl, rfl, by decide +kernel, rfl, by decide +kernel, by decide +kernel⟩
abbrev s_are_signs : Stmt := top 7
abbrev N_are_signs : List Str := ["text", "signs", "sign"]
theorem sc_are_signs : FnScope N_are_signs ["text", "signs"] (L2.defScope s_are_signs) := ⟨rfl, rfl, rfl, by decide +kernel, rfl, by decide +kernel, by decide +kernel⟩
abbrev s_is_name : Stmt := top 8
abbrev N_is_name : List Str := ["thing"]
theorem sc_is_name : FnScope N_is_name ["thing"] (L2.defScope s_is_name) := ⟨rfl, rfl, rfl, by decide +kernel, rfl, by decide +kernel, by decide +kernel⟩
abbrev s_number_text : Stmt := top 9
abbrev N_number_text : List Str := ["number"]
theorem sc_number_text : FnScope N_number_text ["number"] (L2.defScope s_number_text) := ⟨rfl, rfl, rfl, by decide +kernel, rfl, by decide +kernel, by decide +kernel⟩
abbrev s_number_of : Stmt := top 10
abbrev N_number_of : List Str := ["word", "figures"]
theorem sc_number_of : FnScope N_number_of ["word"] (L2.defScope s_number_of) := ⟨rfl, rfl, rfl, by decide +kernel, rfl, by decide +kernel, by decide +kernel⟩
abbrev s_words_of : Stmt := top 11
abbrev N_words_of : List Str := ["line", "words"]
theorem sc_words_of : FnScope N_words_of ["line"] (L2.defScope s_words_of) := ⟨rfl, rfl, rfl, by decide +kernel, rfl, by decide +kernel, by decide +kernel⟩
abbrev s_Lcell_at : Stmt := top 13
abbrev N_Lcell_at : List Str := ["_law_script", "_law_k"]
theorem sc_Lcell_at : FnScope N_Lcell_at ["_law_script", "_law_k"] (L2.defScope s_Lcell_at) := ⟨rfl, rfl, rfl, by decide +kernel, rfl, by decide +kernel, by decide +kernel⟩
abbrev s_Lmixed : Stmt := top 14
abbrev N_Lmixed : List Str := ["_law_cell", "_law_k"]
theorem sc_Lmixed : FnScope N_Lmixed ["_law_cell", "_law_k"] (L2.defScope s_Lmixed) := ⟨rfl, rfl, rfl, by decide +kernel, rfl, by decide +kernel, by decide +kernel⟩
abbrev s_Lgreat : Stmt := top 15
abbrev N_Lgreat : List Str := ["_law_cell", "_law_k", "_law_number", "_law_j"]
theorem sc_Lgreat : FnScope N_Lgreat ["_law_cell", "_law_k"] (L2.defScope s_Lgreat) := ⟨rfl, rfl, rfl, by decide +kernel, rfl, by decide +kernel, by decide +kernel⟩
abbrev s_Lsigns : Stmt := top 16
abbrev N_Lsigns : List Str := ["_law_some"]
theorem sc_Lsigns : FnScope N_Lsigns [] (L2.defScope s_Lsigns) := ⟨rfl, rfl, rfl, by decide +kernel, rfl, by decide +kernel, by decide +kernel⟩
abbrev s_Ltext : Stmt := top 17
abbrev N_Ltext : List Str := ["_law_cell", "_law_letters", "_law_way", "_law_size", "_law_word", "_law_j"]
theorem sc_Ltext : FnScope N_Ltext ["_law_cell"] (L2.defScope s_Ltext) := ⟨rfl, rfl, rfl, by decide +kernel, rfl, by decide +kernel, by decide +kernel⟩
abbrev s_Lodd : Stmt := top 18
abbrev N_Lodd : List Str := ["_law_cell"]
theorem sc_Lodd : FnScope N_Lodd ["_law_cell"] (L2.defScope s_Lodd) := ⟨rfl, rfl, rfl, by decide +kernel, rfl, by decide +kernel, by decide +kernel⟩
abbrev s_Lis_name : Stmt := top 19
abbrev N_Lis_name : List Str := ["_law_thing", "_law_sign"]
theorem sc_Lis_name : FnScope N_Lis_name ["_law_thing"] (L2.defScope s_Lis_name) := ⟨rfl, rfl, rfl, by decide +kernel, rfl, by decide +kernel, by decide +kernel⟩
abbrev s_Lnumber_of : Stmt := top 20
abbrev N_Lnumber_of : List Str := ["_law_word", "_law_figures", "_law_number", "_law_sign"]
theorem sc_Lnumber_of : FnScope N_Lnumber_of ["_law_word"] (L2.defScope s_Lnumber_of) := ⟨rfl, rfl, rfl, by decide +kernel, rfl, by decide +kernel, by decide +kernel⟩
abbrev s_Lalike : Stmt := top 21
abbrev N_Lalike : List Str := ["_law_found", "_law_due"]
theorem sc_Lalike : FnScope N_Lalike ["_law_found", "_law_due"] (L2.defScope s_Lalike) := ⟨rfl, rfl, rfl, by decide +kernel, rfl, by decide +kernel, by decide +kernel⟩
abbrev s_Lasked : Stmt := top 22
abbrev N_Lasked : List Str := ["_law_way", "_law_thing", "_law_least", "_law_most", "_law_whole"]
theorem sc_Lasked : FnScope N_Lasked ["_law_way", "_law_thing", "_law_least", "_law_most"] (L2.defScope s_Lasked) := ⟨rfl, rfl, rfl, by decide +kernel, rfl, by decide +kernel, by decide +kernel⟩
abbrev s_Lnumber_good : Stmt := top 23
abbrev N_Lnumber_good : List Str := ["_law_number", "_law_text_here", "_law_figures", "_law_left", "_law_due"]
theorem sc_Lnumber_good : FnScope N_Lnumber_good ["_law_number"] (L2.defScope s_Lnumber_good) := ⟨rfl, rfl, rfl, by decide +kernel, rfl, by decide +kernel, by decide +kernel⟩
abbrev s_Lline : Stmt := top 24
abbrev N_Lline : List Str := ["_law_script", "_law_cell", "_law_words", "_law_between", "_law_line_here", "_law_word", "_law_blank", "_law_one"]
theorem sc_Lline : FnScope N_Lline ["_law_script"] (L2.defScope s_Lline) := ⟨rfl, rfl, rfl, by decide +kernel, rfl, by decide +kernel, by decide +kernel⟩
abbrev s_Lline_good : Stmt := top 25
abbrev N_Lline_good : List Str := ["_law_line_here", "_law_due", "_law_turn", "_law_found"]
theorem sc_Lline_good : FnScope N_Lline_good ["_law_line_here"] (L2.defScope s_Lline_good) := ⟨rfl, rfl, rfl, by decide +kernel, rfl, by decide +kernel, by decide +kernel⟩
abbrev s_law : Stmt := top 26
abbrev N_law : List Str := ["_law_script", "_law_k", "_law_cell", "_law_number", "_law_least", "_law_most", "_law_thing", "_law_turn"]
theorem sc_law : FnScope N_law ["_law_script"] (L2.defScope s_law) := ⟨rfl, rfl, rfl, by decide +kernel, rfl, by decide +kernel, by decide +kernel⟩
/-! what the module's names hold -/
structure Txt (mg : Str → Option Value) : Prop where
  z_isinstance : mg "isinstance" = none
  z_len : mg "len" = none
  z_int : mg "int" = none
  z_bool : mg "bool" = none
  z_str : mg "str" = none
  z_all : mg "all" = none
  z_range : mg "range" = none
  z_max : mg "max" = none
  z_min : mg "min" = none
  z_abs : mg "abs" = none
  z_zip : mg "zip" = none
  z_list : mg "list" = none
  z_reversed : mg "reversed" = none
  g_LETTERS : ∃ u, mg "LETTERS" = some u ∧ RelV (.str "abcdefghijklmnopqrstuvwxyz") u
  g_FIGURES : ∃ u, mg "FIGURES" = some u ∧ RelV (.str "0123456789") u
  g_MOST_LETTERS : ∃ u, mg "MOST_LETTERS" = some u ∧ RelV (.int 12) u
  g_MOST_FIGURES : ∃ u, mg "MOST_FIGURES" = some u ∧ RelV (.int 61) u
end T

namespace T
section
variable {P : Program} {w : World} {K : PySem.W.Frag} {mg : Str → Option Value} {base : Heap}
/-- a whole number -/
def isWhole : V → Bool
  | .int _ => true
  | _ => false
def sp_is_whole (K : PySem.W.Frag) : Sp := fun vs H Q _ => ∃ (x : V) (k : String), vs = [x] ∧ Kd K H x k ∧ Q (.bl (isWhole x)) H
theorem c_is_whole (T : Txt mg) (D : Df K mg "is_whole" s_is_whole ["thing"]) : Cal P w K mg base 1 "is_whole" (sp_is_whole K) := by
  refine cal_of D sc_is_whole (by walk_at "len") (fun f cdv A outer s H vs Q E hr h => ?_)
  obtain ⟨x, k, rfl, hk, q⟩ := h
  refine ⟨_, (pss_one (ps_ret (pe_and (pe_callB call_isi rfl T.z_isinstance (by decide +kernel) (pa_cons (pv 0) (pa_cons (pe_bltn (v := .ty "int") rfl T.z_int (by decide +kernel) rfl) pa_nil))) (pe_one (pe_not (pe_callB call_isi rfl T.z_isinstance (by decide +kernel) (pa_cons (pv 0) (pa_cons (pe_bltn (v := .ty "bool") rfl T.z_bool (by decide +kernel) rfl) pa_nil)))))))), ?_⟩
  cases hk <;> walk_at "sts" <;> exact q
/-- a whole number from a least to a greatest one -/
def isAmong (lo hi : Int) : V → Bool
  | .int i => decide (lo ≤ i) && decide (i ≤ hi)
  | _ => false
def sp_is_among (K : PySem.W.Frag) : Sp := fun vs H Q _ => ∃ (x : V) (k : String) (lo hi : Int), vs = [x, .int lo, .int hi] ∧ Kd K H x k ∧ Q (.bl (isAmong lo hi x)) H
theorem c_is_among (T : Txt mg) (D : Df K mg "is_among" s_is_among ["thing", "least", "most"]) (c_is_whole : Cal P w K mg base 1 "is_whole" (sp_is_whole K)) : Cal P w K mg base 2 "is_among" (sp_is_among K) := by
  refine cal_of D sc_is_among (by walk_at "len") (fun f cdv A outer s H vs Q E hr h => ?_)
  obtain ⟨x, k, lo, hi, rfl, hk, q⟩ := h
  refine ⟨_, (pss_one (ps_ret (pe_and (m_c c_is_whole hr (by decide) rfl (pa_cons (pv 0) pa_nil)) (pe_one (pe_chain op_le op_le (pv 1) (pv 0) (pv 2)))))), ?_⟩
  walk_at "sts"
  refine ⟨x, k, rfl, hk, ?_⟩
  cases hk <;> walk_at "sts"
  all_goals first | exact q | skip
  rename_i i
  refine ifb (fun h1 => ?_) (fun h1 => ?_)
  · walk_at "sts"
    have e : isAmong lo hi (.int i) = decide (i ≤ hi) := by simp only [isAmong, h1, Bool.true_and]
    rw [e] at q
    exact q
  · have e : isAmong lo hi (.int i) = false := by simp only [isAmong, h1, Bool.false_and]
    rw [e] at q
    exact q
/-- all signs of a text are some of those -/
def areSigns (z b : Str) : Bool := z.cps.toList.all fun c => decide (c ∈ b.cps.toList)
def sp_are_signs : Sp := fun vs H Q _ => ∃ (z b : Str), vs = [.str z, .str b] ∧ z.length ≤ 1000000 ∧ ∀ H', Same H H' → Q (.bl (areSigns z b)) H'
theorem c_are_signs (T : Txt mg) (D : Df K mg "are_signs" s_are_signs ["text", "signs"]) : Cal P w K mg base 1 "are_signs" sp_are_signs := by
  refine cal_of D sc_are_signs (by walk_at "len") (fun f cdv A outer s H vs Q E hr h => ?_)
  obtain ⟨z, b, rfl, hz, q⟩ := h
  refine ⟨_, (pss_one (ps_ret (pe_callB (cr_all rfl) rfl T.z_all (by decide +kernel) (pa_cons (pe_lc (own := [("sign", 2)]) (g := gName 2) (tt := tYes) rfl sc_are_signs.nd (pi_str (pv 0)) (blkOk_by (N := N_are_signs) (sc := defScope s_are_signs) (own := [("sign", 2)]) (by decide +kernel)) (fun _ _ _ _ _ => (pg_name (i := 2) sc_are_signs.nd rfl (Or.inl rfl))) (fun _ _ _ _ _ => pts_nil) (fun _ _ _ _ _ => (pe_cmpR o_in_sign (pv 2) (pv 1) (by rfl)))) pa_nil)))), ?_⟩
  walk_at "sts"
  refine lcS_map (fun c => V.bl (decide (c ∈ b.cps.toList))) hz (fun i c H2 Qy ec s2 hy => ?_) (fun L H' hL s1 h1 => ?_)
  · walk_at "sts"
    exact hy _ (Same.refl _)
  · walk_at "sts"
    refine t_all (bs := z.cps.toList.map fun c => decide (c ∈ b.cps.toList)) (SqL.of (by rw [List.map_map]; exact h1)) ?_
    have e : areSigns z b = (z.cps.toList.map fun c => decide (c ∈ b.cps.toList)).all id := by
      unfold areSigns
      rw [List.all_map]
      rfl
    rw [← e]
    exact q _ s1
/-- a name -/
def isName : V → Bool
  | .str z => decide (1 ≤ z.length) && decide (z.length ≤ 12) && areSigns z "abcdefghijklmnopqrstuvwxyz"
  | _ => false
def sp_is_name (K : PySem.W.Frag) : Sp := fun vs H Q _ => ∃ (x : V) (k : String), vs = [x] ∧ Kd K H x k ∧ (∀ z, x = .str z → z.length ≤ 1000000) ∧ ∀ H', Same H H' → Q (.bl (isName x)) H'
theorem c_is_name (T : Txt mg) (D : Df K mg "is_name" s_is_name ["thing"]) (c_are_signs : Cal P w K mg base 1 "are_signs" sp_are_signs) : Cal P w K mg base 2 "is_name" (sp_is_name K) := by
  refine cal_of D sc_is_name (by walk_at "len") (fun f cdv A outer s H vs Q E hr h => ?_)
  obtain ⟨x, k, rfl, hk, hz, q⟩ := h
  refine ⟨_, (pss_one (ps_ret (pe_and (pe_callB call_isi rfl T.z_isinstance (by decide +kernel) (pa_cons (pv 0) (pa_cons (pe_bltn (v := .ty "str") rfl T.z_str (by decide +kernel) rfl) pa_nil))) (pe_and (pe_chain op_le op_le pe_int (pe_callB cl_len_str rfl T.z_len (by decide +kernel) (pa_cons (pv 0) pa_nil)) (pe_gc rfl T.g_MOST_LETTERS)) (pe_one (m_c c_are_signs hr (by decide) rfl (pa_cons (pv 0) (pa_cons (pe_gc rfl T.g_LETTERS) pa_nil)))))))), ?_⟩
  cases hk
  case str z =>
    have hz := hz z rfl
    walk_at "sts"
    refine ifb (fun h1 => ?_) (fun h1 => ?_)
    · walk_at "sts"
      refine ifb (fun h2 => ?_) (fun h2 => ?_)
      · walk_at "sts"
        refine ⟨z, _, rfl, hz, fun H' s1 => ?_⟩
        have h3 := of_decide_eq_true h1
        have h4 := of_decide_eq_true h2
        have e : isName (.str z) = areSigns z "abcdefghijklmnopqrstuvwxyz" := by
          show (decide (1 ≤ z.length) && decide (z.length ≤ 12) && areSigns z "abcdefghijklmnopqrstuvwxyz") = _
          rw [decide_eq_true (show 1 ≤ z.length by omega), decide_eq_true (show z.length ≤ 12 by omega)]
          rfl
        have q := q H' s1
        rw [e] at q
        exact q
      · have h4 := of_decide_eq_false h2
        have e : isName (.str z) = false := by
          show (decide (1 ≤ z.length) && decide (z.length ≤ 12) && areSigns z "abcdefghijklmnopqrstuvwxyz") = _
          rw [decide_eq_false (show ¬ z.length ≤ 12 by omega), Bool.and_false, Bool.false_and]
        have q := q _ (Same.refl _)
        rw [e] at q
        exact q
    · walk_at "sts"
      have h4 := of_decide_eq_false h1
      have e : isName (.str z) = false := by
        show (decide (1 ≤ z.length) && decide (z.length ≤ 12) && areSigns z "abcdefghijklmnopqrstuvwxyz") = _
        rw [decide_eq_false (show ¬ 1 ≤ z.length by omega), Bool.false_and, Bool.false_and]
      have q := q _ (Same.refl _)
      rw [e] at q
      exact q
  all_goals (walk_at "sts"; exact q _ (Same.refl _))
def sp_number_text : Sp := fun vs H Q _ => ∃ (i : Int), vs = [.int i] ∧ i.natAbs.log2 < 1920 ∧ Q (.str (toString i)) H
theorem c_number_text (T : Txt mg) (D : Df K mg "number_text" s_number_text ["number"]) : Cal P w K mg base 1 "number_text" sp_number_text := by
  refine cal_of D sc_number_text (by walk_at "len") (fun f cdv A outer s H vs Q E hr h => ?_)
  obtain ⟨i, rfl, hi, q⟩ := h
  refine ⟨_, (pss_one (ps_ret (pe_callTy cl_str_int rfl T.z_str (by decide +kernel) (pa_cons (pv 0) pa_nil)))), ?_⟩
  walk_at "sts"
  refine t_str1 hi ?_
  exact q
end
end T

namespace T
open A
open TL (tl)
section
variable {P : Program} {w : World} {K : PySem.W.Frag} {mg : Str → Option Value} {base : Heap}
def sp_number_of (K : PySem.W.Frag) : Sp := fun vs H Q _ => ∃ (x : V) (k : String), vs = [x] ∧ Kd K H x k ∧ (∀ z, x = .str z → z.length ≤ 1000000) ∧ ∀ H', Same H H' → Q (numV x) H'
theorem c_number_of (T : Txt mg) (D : Df K mg "number_of" s_number_of ["word"]) (c_are_signs : Cal P w K mg base 1 "are_signs" sp_are_signs) : Cal P w K mg base 2 "number_of" (sp_number_of K) := by
  refine cal_of D sc_number_of (by walk_at "len") (fun f cdv A outer s H vs Q E hr h => ?_)
  obtain ⟨x, k, rfl, hk, hz, q⟩ := h
  refine ⟨_, (pss_cons (ps_if (pt_not (pt_val (pe_callB call_isi rfl T.z_isinstance (by decide +kernel) (pa_cons (pv 0) (pa_cons (pe_bltn (v := .ty "str") rfl T.z_str (by decide +kernel) rfl) pa_nil))))) (pss_one (ps_ret pe_non)) pss_nil)
  (pss_cons (ps_set (i := 1) sc_number_of.nd rfl (Or.inl rfl) (m_pec (pe_ifExp (pt_val (pe_m1 PySem.F.slot_str_startswith PySem.F.type_str_startswith mt_startswith (pv 0) pe_str)) (pe_slice sl_str (pv 0) (po_some pe_int) po_none) (pv 0))))
  (pss_cons (ps_if (m_ptc (PW.pt (pw_or (pt_not (pt_chain op_le op_le pe_int (pe_callB cl_len_str rfl T.z_len (by decide +kernel) (pa_cons (pv 1) pa_nil)) (pe_gc rfl T.g_MOST_FIGURES))) (pw_or1 (pt_not (pt_val (m_c c_are_signs hr (by decide) rfl (pa_cons (pv 1) (pa_cons (pe_gc rfl T.g_FIGURES) pa_nil))))))))) (pss_one (ps_ret pe_non)) pss_nil)
  (pss_cons (ps_if (m_ptc (PW.pt (pw_and (pt_cmpR op_eq (pe_ix ix_str (pv 1) pe_int (fun _ _ => rfl)) pe_str (nomark _)) (pw_and1 (pt_cmpR op_ne (pv 0) pe_str (nomark _)))))) (pss_one (ps_ret pe_non)) pss_nil)
  (pss_one (ps_ret (pe_callTy cl_int_str rfl T.z_int (by decide +kernel) (pa_cons (pv 0) pa_nil)))))))), ?_⟩
  cases hk
  case str z =>
    have hz := hz z rfl
    walk_at "sts"
    refine k_E (fun v H' => (∃ fg : Str, v = .str fg ∧ tl fg = figs (tl z)) ∧ H' = H) ?_ ?_
    · walk_at "sts"
      rw [starts_dash]
      refine ifb (fun h1 => ?_) (fun h1 => ?_)
      · walk_at "sts"
        refine ⟨⟨_, rfl, ?_⟩, rfl⟩
        rw [tl_from _ _ (by decide)]
        unfold figs
        rw [if_pos (of_decide_eq_true h1)]
        rfl
      · walk_at "sts"
        refine ⟨⟨_, rfl, ?_⟩, rfl⟩
        unfold figs
        rw [if_neg (of_decide_eq_false h1)]
    rintro v H1 ⟨⟨fg, rfl, ef⟩, rfl⟩
    have hl : fg.length ≤ 1000000 := by
      have := figs_le (tl z)
      rw [tl_len, ef]
      rw [tl_len] at hz
      omega
    walk_at "sts"
    refine k_B (!good (tl z)) ?_ (fun H2 s2 => ?_)
    · walk_at "sts"
      have eg : good (tl z) = (decide (1 ≤ (fg.length : Int)) && decide ((fg.length : Int) ≤ 61) && areSigns fg "0123456789") := by
        unfold good
        rw [ef.symm, tl_len]
        congr 1
        · congr 1
          · rw [Bool.eq_iff_iff]; simp only [decide_eq_true_eq]; omega
          · rw [Bool.eq_iff_iff]; simp only [decide_eq_true_eq]; omega
        · unfold areSigns
          exact List.all_congr rfl fun c => (isDig_mem c).symm
      rw [eg]
      generalize decide (1 ≤ (fg.length : Int)) = b1
      cases b1
      · walk_at "sts"
        exact ⟨rfl, Same.refl _⟩
      · walk_at "sts"
        generalize decide ((fg.length : Int) ≤ 61) = b2
        cases b2
        · walk_at "sts"
          exact ⟨rfl, Same.refl _⟩
        · walk_at "sts"
          refine ⟨_, _, rfl, hl, fun H2 s2 => ?_⟩
          walk_at "sts"
          exact ⟨rfl, s2⟩
    cases hg : good (tl z)
    · walk_at "sts"
      have e : numV (.str z) = .non := by
        show (numRd (tl z)).elim V.non V.int = .non
        unfold numRd
        rw [hg]
        rfl
      rw [e] at q
      exact q _ s2
    · walk_at "sts"
      obtain ⟨c, r, efg⟩ : ∃ c r, tl fg = c :: r := by
        unfold good at hg
        rw [← ef] at hg
        cases q : tl fg with
        | nil => rw [q] at hg; simp at hg
        | cons c r => exact ⟨c, r, rfl⟩
      have e0 : atI fg.cps.toList (0 : Int) = some c := by
        rw [show fg.cps.toList = c :: r from efg]
        exact atI_nat (j := 0) rfl
      have ez : numV (.str z) = if c = 48 ∧ tl z ≠ [48] then .non else .int (if (tl z).head? = some 45 then 0 - val (figs (tl z)) else val (figs (tl z))) := by
        show (numRd (tl z)).elim V.non V.int = _
        unfold numRd
        rw [hg, if_pos rfl, ← ef, efg]
        by_cases d : c = 48 ∧ tl z ≠ [48]
        · rw [if_pos d, if_pos (by rw [List.head?_cons, d.1]; exact ⟨rfl, d.2⟩)]
          rfl
        · rw [if_neg d, if_neg (by rw [List.head?_cons]; intro k; exact d ⟨Option.some.inj k.1, k.2⟩)]
          rfl
      rw [ez] at q
      refine k_B (decide (c = 48 ∧ tl z ≠ [48])) ?_ (fun H3 s3 => ?_)
      · walk_at "sts"
        rw [dec_sign c 48 "0" (by decide +kernel)]
        by_cases d : c = 48
        · rw [decide_eq_true d]
          walk_at "sts"
          refine ⟨?_, Same.refl _⟩
          rw [dec_text, show tl "0" = [48] by decide +kernel, Bool.eq_iff_iff]
          simp [d]
        · rw [decide_eq_false d]
          walk_at "sts"
          exact ⟨(decide_eq_false fun k => d k.1).symm, Same.refl _⟩
      · refine ifb (fun d => ?_) (fun d => ?_)
        · rw [if_pos (of_decide_eq_true d)] at q
          walk_at "sts"
          exact q _ (s2.trans s3)
        · rw [if_neg (of_decide_eq_false d)] at q
          walk_at "sts"
          have hgl : z.length ≤ 62 := by
            unfold good at hg
            simp only [Bool.and_eq_true, decide_eq_true_eq] at hg
            have h2 := hg.1.2
            unfold figs at h2
            rw [tl_len]
            split at h2
            · rw [List.length_drop] at h2; omega
            · omega
          exact t_intS (int_good hg) (by omega) (q _ (s2.trans s3))
  all_goals (walk_at "sts"; exact q _ (Same.refl _))
end
end T

namespace T
open A
open TL (tl)
section
variable {P : Program} {w : World} {K : PySem.W.Frag} {mg : Str → Option Value} {base : Heap}
/-- the words of a line -/
def sp_words_of (K : PySem.W.Frag) : Sp := fun vs H Q _ => ∃ (x : V) (k : String), vs = [x] ∧ Kd K H x k ∧ (∀ z, x = .str z → z.length ≤ 1000000) ∧
  (k ≠ "str" → Q .non H) ∧ ∀ z, x = .str z → (inV (.str "") ((Txt.split z " ").map V.str) = true → ∀ H', Same H H' → Q .non H') ∧
    (inV (.str "") ((Txt.split z " ").map V.str) = false → ∀ p H', H p = none → Same H H' → H' p = some (.lst ((Txt.split z " ").map V.str)) → Q (.ref p) H')
theorem flat_strs (l : List Str) : (l.map V.str).all flatV = true := by
  rw [List.all_map]
  exact List.all_eq_true.mpr fun _ _ => rfl
theorem c_words_of (T : Txt mg) (D : Df K mg "words_of" s_words_of ["line"]) : Cal P w K mg base 1 "words_of" (sp_words_of K) := by
  refine cal_of D sc_words_of (by walk_at "len") (fun f cdv A outer s H vs Q E hr h => ?_)
  obtain ⟨x, k, rfl, hk, hz, q1, q2⟩ := h
  refine ⟨_, (pss_cons (ps_if (pt_not (pt_val (pe_callB call_isi rfl T.z_isinstance (by decide +kernel) (pa_cons (pv 0) (pa_cons (pe_bltn (v := .ty "str") rfl T.z_str (by decide +kernel) rfl) pa_nil))))) (pss_one (ps_ret pe_non)) pss_nil)
  (pss_cons (ps_set (i := 1) sc_words_of.nd rfl (Or.inl rfl) (pe_split (pv 0) pe_str))
  (pss_cons (ps_if (pt_cmpR op_in_seq pe_str (pv 1) (by rfl)) (pss_one (ps_ret pe_non)) pss_nil)
  (pss_one (ps_ret (pv 1)))))), ?_⟩
  cases hk
  case str z =>
    have hz := hz z rfl
    obtain ⟨qa, qb⟩ := q2 z rfl
    walk_at "sts"
    refine ⟨by decide +kernel, by rw [sizeLine_eq]; omega, fun p hp => ?_⟩
    generalize eH : upd H p (.lst ((Txt.split z " ").map V.str)) = H1
    have s1 : Same H H1 := eH ▸ same_new hp
    have h1 : H1 p = some (.lst ((Txt.split z " ").map V.str)) := eH ▸ upd_same
    walk_at "sts"
    refine t_inL (SqL.of h1) rfl (flat_strs _) ?_
    walk_at "sts"
    cases hi : inV (.str "") ((Txt.split z " ").map V.str)
    · walk_at "sts"
      exact qb hi p H1 hp s1 h1
    · walk_at "sts"
      exact qa hi H1 s1
  all_goals (walk_at "sts"; exact q1 (by decide))
/-- a cell of the script -/
def cellAt (ns : List Int) (k : Int) : Int := ns.getD k.toNat 0
def sp_cell_at (K : PySem.W.Frag) : Sp := fun vs H Q _ => ∃ (a : Addr) (ns : List Int) (k : Int), vs = [.ref a, .int k] ∧ SqL K H a (ns.map V.int) ∧ 0 ≤ k ∧ Q (.int (cellAt ns k)) H
theorem c_Lcell_at (T : Txt mg) (D : Df K mg "_law_cell_at" s_Lcell_at ["_law_script", "_law_k"]) : Cal P w K mg base 1 "_law_cell_at" (sp_cell_at K) := by
  refine cal_of D sc_Lcell_at (by walk_at "len") (fun f cdv A outer s H vs Q E hr h => ?_)
  obtain ⟨a, ns, k, rfl, hs, hk, q⟩ := h
  refine ⟨_, (pss_cons (ps_if (pt_cmpR op_lt (pv 1) (pe_callB cl_len_seq rfl T.z_len (by decide +kernel) (pa_cons (pv 0) pa_nil)) (nomark _)) (pss_one (ps_ret (pe_ix ix_list (pv 0) (pv 1) (fun _ _ => rfl)))) pss_nil)
  (pss_one (ps_ret pe_int))), ?_⟩
  walk_at "sts"
  refine ifb (fun h1 => ?_) (fun h1 => ?_)
  · walk_at "sts"
    have h2 := of_decide_eq_true h1
    rw [List.length_map] at h2
    refine t_ixL (v := .int (cellAt ns k)) hs ?_ q
    rw [atI_map, atI_in 0 hk h2]
    rfl
  · walk_at "sts"
    have h2 := of_decide_eq_false h1
    rw [List.length_map] at h2
    have e : cellAt ns k = 0 := by
      unfold cellAt
      rw [List.getD_eq_getElem?_getD, List.getElem?_eq_none (by omega)]
      rfl
    rw [e] at q
    exact q
end
end T

namespace T
open A
open TL (tl)
section
variable {P : Program} {w : World} {K : PySem.W.Frag} {mg : Str → Option Value} {base : Heap}
def mixed (c k : Int) : Int := (c + 7919 * k + 1) ^ 3 * 48271 % 2147483647
theorem mixed_lo (c k : Int) : 0 ≤ mixed c k := Int.emod_nonneg _ (by decide)
theorem mixed_hi (c k : Int) : mixed c k < 2147483647 := Int.emod_lt_of_pos _ (by decide)
theorem mix_lt {c k : Int} {n : Nat} (h : c.natAbs < 2 ^ n) (h0 : 0 ≤ k) (h1 : k ≤ 1000000) : (c + 7919 * k + 1).natAbs < 2 ^ (n + 41) := by
  have e : 2 ^ (n + 41) = 2 ^ n * 2199023255552 := Nat.pow_add 2 n 41
  rw [e]
  have e2 : 1 ≤ 2 ^ n := Nat.one_le_two_pow
  generalize 2 ^ n = a at h e2
  omega
def sp_mixed : Sp := fun vs H Q _ => ∃ (c k : Int) (n : Nat), vs = [.int c, .int k] ∧ c.natAbs < 2 ^ n ∧ n ≤ 1048600 ∧ 0 ≤ k ∧ k ≤ 1000000 ∧ Q (.int (mixed c k)) H
theorem c_Lmixed (D : Df K mg "_law_mixed" s_Lmixed ["_law_cell", "_law_k"]) : Cal P w K mg base 1 "_law_mixed" sp_mixed := by
  refine cal_of D sc_Lmixed (by walk_at "len") (fun f cdv A outer s H vs Q E hr h => ?_)
  obtain ⟨c, k, n, rfl, hc, hn, h0, h1, q⟩ := h
  refine ⟨_, (pss_one (ps_ret (pe_op op_mod (pe_op op_mulX (pe_op op_powW (pe_op op_add (pe_op op_add (pv 0) (pe_op op_mulX pe_int (pv 1))) pe_int) pe_int) pe_int) pe_int))), ?_⟩
  have hb := mix_lt hc h0 h1
  have hb2 := PyProof.Rows.intBits_le hb
  walk_at "sts"
  refine t_rI (show CPowW _ _ from ⟨by decide, by omega⟩) ?_
  walk_at "sts"
  refine t_rI (mulx_ok (a := (n + 41) * 3) (b := 16) ?_ (by decide) (by omega)) ?_
  · rw [Int.natAbs_pow, Nat.pow_mul]
    exact Nat.pow_lt_pow_left hb (by decide)
  walk_at "sts"
  exact q
/-- what a small cell gives -/
theorem small_lt {c : Int} (h0 : 0 ≤ c) (h1 : c < 2147483648) : c.natAbs < 2 ^ 40 := Nat.lt_of_lt_of_le (m := 2147483648) (by omega) (by decide)
def sp_great : Sp := fun vs H Q _ => ∃ (c k : Int), vs = [.int c, .int k] ∧ 0 ≤ c ∧ c < 2147483648 ∧ 0 ≤ k ∧ k ≤ 1000 ∧ ∀ n : Int, 0 ≤ n → n < 452312848583266388373324160190187140051835877600158453279131187530910662656 → Q (.int n) H
theorem c_Lgreat (T : Txt mg) (D : Df K mg "_law_great" s_Lgreat ["_law_cell", "_law_k"]) (c_Lmixed : Cal P w K mg base 1 "_law_mixed" sp_mixed) : Cal P w K mg base 2 "_law_great" sp_great := by
  refine cal_of D sc_Lgreat (by walk_at "len") (fun f cdv A outer s H vs Q E hr h => ?_)
  obtain ⟨c, k, rfl, h0, h1, k0, k1, q⟩ := h
  refine ⟨_, (pss_cons (ps_set (i := 2) sc_Lgreat.nd rfl (Or.inl rfl) pe_int)
  (pss_cons (ps_for PassesOwn.never rfl (pi_range1 rfl T.z_range (pa_cons pe_int pa_nil)) (pg_name (i := 3) sc_Lgreat.nd rfl (Or.inl rfl)) (pss_one (ps_set (i := 2) sc_Lgreat.nd rfl (Or.inl rfl) (pe_op op_add (pe_op op_mulX (pv 2) pe_int) (m_c c_Lmixed hr (by decide) rfl (pa_cons (pv 0) (pa_cons (pe_op op_add (pe_op op_mulX pe_int (pv 1)) (pv 3)) pa_nil)))))))
  (pss_one (ps_ret (pv 2))))), ?_⟩
  walk_at "sts"
  refine forJ walk_range (fun i σ' H' => ∃ (n : Int) (v : Option V), σ' = [some (.int c), some (.int k), some (.int n), v] ∧ H' = H ∧ 0 ≤ n ∧ n < 2147483648 ^ i) ⟨0, none, rfl, rfl, by decide, by decide⟩ (fun _ _ _ _ _ => trivial) ?_ ?_
  · rintro i x σ' H' H2 hi ⟨n, v, rfl, rfl, n0, n1⟩ ⟨rfl, rfl⟩
    have hi : i < 8 := hi
    have hn : n < 452312848583266388373324160190187140051835877600158453279131187530910662656 := Int.lt_of_lt_of_le n1 (by
      have : ∀ j, j < 8 → (2147483648 : Int) ^ j ≤ 452312848583266388373324160190187140051835877600158453279131187530910662656 := by decide
      exact this i hi)
    walk_at "sts"
    refine ⟨c, _, 40, rfl, small_lt h0 h1, by decide, by omega, by omega, ?_⟩
    walk_at "sts"
    have m0 := mixed_lo c (8 * k + (0 + (i : Int)))
    have m1 := mixed_hi c (8 * k + (0 + (i : Int)))
    refine ⟨_, _, rfl, rfl, by omega, ?_⟩
    rw [Int.pow_succ]
    generalize (2147483648 : Int) ^ i = p at n1
    omega
  · rintro σ' H' ⟨n, v, rfl, rfl, n0, n1⟩
    walk_at "sts"
    exact q n n0 (Int.lt_of_lt_of_le n1 (by decide))
def sp_signs : Sp := fun vs H Q _ => vs = [] ∧ ∀ z : Str, z.length = 94 → Q (.str z) H
theorem c_Lsigns (D : Df K mg "_law_signs" s_Lsigns []) : Cal P w K mg base 1 "_law_signs" sp_signs := by
  refine cal_of D sc_Lsigns (by walk_at "len") (fun f cdv A outer s H vs Q E hr h => ?_)
  obtain ⟨rfl, q⟩ := h
  refine ⟨_, (pss_cons (ps_set (i := 0) sc_Lsigns.nd rfl (Or.inl rfl) pe_str)
  (pss_one (ps_ret (pe_op o_add_str (pv 0) pe_str)))), ?_⟩
  walk_at "sts"
  refine t_addS (by decide +kernel) ?_
  exact q _ (by decide +kernel)
end
end T

namespace T
open A
open TL (tl)
section
variable {P : Program} {w : World} {K : PySem.W.Frag} {mg : Str → Option Value} {base : Heap}
/-- a list of short texts at p, made here -/
def Short (y : V) : Prop := ∃ x, y = V.str x ∧ x.length ≤ 2
def Wrd (H0 H : Hp) (p : Addr) : Prop := Same H0 H ∧ H0 p = none ∧ ∃ ys, H p = some (.lst ys) ∧ ys.length ≤ 70 ∧ ∀ y ∈ ys, Short y
theorem sg_at {z : Str} {i : Int} (h0 : 0 ≤ i) (h1 : i < z.length) : ∃ c, atI z.cps.toList i = some c := by
  rw [TL.len_tl] at h1
  exact ⟨_, atI_in 0 h0 h1⟩
theorem str_short (i : Int) (h0 : 0 ≤ i) (h1 : i < 10) : (Str.ofString (toString i)).length ≤ 2 := by
  have : ∀ j : Fin 10, (Str.ofString (toString ((j.val : Int)))).length ≤ 2 := by decide +kernel
  obtain ⟨n, rfl⟩ := Int.eq_ofNat_of_zero_le h0
  exact this ⟨n, by omega⟩
theorem small_log (i : Int) (h0 : 0 ≤ i) (h1 : i < 2147483648) : i.natAbs.log2 < 1920 := by
  by_cases e : i.natAbs = 0
  · rw [e]; decide
  · exact Nat.lt_trans ((Nat.log2_lt e).mpr (show i.natAbs < 2 ^ 31 by omega)) (by decide)
theorem cutV_len (xs : List V) (lo hi : Option Int) : (cutV xs lo hi).length ≤ xs.length := by
  unfold cutV
  rw [List.length_take, List.length_drop]
  omega
theorem cutV_sub (xs : List V) (lo hi : Option Int) : ∀ y ∈ cutV xs lo hi, y ∈ xs := fun y h => List.mem_of_mem_drop (List.mem_of_mem_take h)
theorem sum_le : ∀ (ws : List Str) (k : Nat), (∀ x ∈ ws, x.length ≤ k) → (ws.map (·.length)).sum ≤ ws.length * k
  | [], _, _ => Nat.zero_le _
  | x :: r, k, h => by
    have h1 := h x List.mem_cons_self
    have h2 := sum_le r k fun y hy => h y (List.mem_cons_of_mem _ hy)
    rw [List.map_cons, List.sum_cons, List.length_cons, Nat.succ_mul]
    omega
def sp_text : Sp := fun vs H Q _ => ∃ (c : Int), vs = [.int c] ∧ 0 ≤ c ∧ c < 2147483648 ∧ ∀ (z : Str) H', z.length ≤ 200 → Same H H' → Q (.str z) H'
theorem c_Ltext (T : Txt mg) (D : Df K mg "_law_text" s_Ltext ["_law_cell"]) (c_Lmixed : Cal P w K mg base 1 "_law_mixed" sp_mixed) (c_Lsigns : Cal P w K mg base 1 "_law_signs" sp_signs) : Cal P w K mg base 2 "_law_text" sp_text := by
  refine cal_of D sc_Ltext (by walk_at "len") (fun f cdv A outer s H vs Q E hr h => ?_)
  obtain ⟨c, rfl, c0, c1, q⟩ := h
  refine ⟨_, (pss_cons (ps_set (i := 1) sc_Ltext.nd rfl (by first | exact Or.inl rfl | exact Or.inr rfl) pe_str)
  (pss_cons (ps_set (i := 2) sc_Ltext.nd rfl (Or.inl rfl) (pe_op op_mod (pv 0) pe_int))
  (pss_cons (ps_set (i := 3) sc_Ltext.nd rfl (Or.inl rfl) (pe_ix ix_list (pe_lst (pa_cons (pe_op op_mod (pe_op op_fdivW (pv 0) pe_int) pe_int) (pa_cons (pe_op op_add pe_int (pe_op op_mod (pe_op op_fdivW (pv 0) pe_int) pe_int)) (pa_cons (pe_op op_add pe_int (pe_op op_mod (pe_op op_fdivW (pv 0) pe_int) pe_int)) pa_nil)))) (pe_op op_mod (pe_op op_fdivW (pv 0) pe_int) pe_int) (fun _ _ => rfl)))
  (C8.pss_cut (ps_if (pt_cmpR op_lt (pv 2) pe_int (nomark _)) (pss_one (ps_setLc (i := 4) (own := [("_law_j", 5)]) (g := gName 5) (tt := tYes) rfl sc_Ltext.nd rfl rfl (sw_true rfl rfl rfl (by decide +kernel)) (pi_range1 rfl T.z_range (pa_cons (pv 3) pa_nil)) (blkOk_by (N := N_Ltext) (sc := defScope s_Ltext) (own := [("_law_j", 5)]) (by decide +kernel)) (fun _ _ _ _ _ => (pg_name (i := 5) sc_Ltext.nd rfl (Or.inl rfl))) (fun _ _ _ _ _ => pts_nil) (fun _ _ _ _ _ => (pe_ix ix_str (pv 1) (pe_op op_mod (m_c c_Lmixed hr (by decide) rfl (pa_cons (pv 0) (pa_cons (pv 5) pa_nil))) pe_int) (fun _ _ => rfl))))) (pss_one (ps_if (pt_cmpR op_eq (pv 2) pe_int (nomark _)) (pss_one (ps_setLc (i := 4) (own := [("_law_j", 5)]) (g := gName 5) (tt := tYes) rfl sc_Ltext.nd rfl rfl (sw_true rfl rfl rfl (by decide +kernel)) (pi_range1 rfl T.z_range (pa_cons (pe_ix ix_list (pe_lst (pa_cons (pv 3) (pa_cons (pe_op op_add pe_int (pe_op op_mod (pe_op op_fdivW (pv 0) pe_int) pe_int)) pa_nil))) (pe_op op_mod (pe_op op_fdivW (pv 0) pe_int) pe_int) (fun _ _ => rfl)) pa_nil)) (blkOk_by (N := N_Ltext) (sc := defScope s_Ltext) (own := [("_law_j", 5)]) (by decide +kernel)) (fun _ _ _ _ _ => (pg_name (i := 5) sc_Ltext.nd rfl (Or.inl rfl))) (fun _ _ _ _ _ => pts_nil) (fun _ _ _ _ _ => (pe_callTy cl_str_int rfl T.z_str (by decide +kernel) (pa_cons (pe_op op_mod (m_c c_Lmixed hr (by decide) rfl (pa_cons (pv 0) (pa_cons (pv 5) pa_nil))) pe_int) pa_nil))))) (pss_one (ps_if (pt_cmpR op_eq (pv 2) pe_int (nomark _)) (pss_one (ps_set (i := 4) sc_Ltext.nd rfl (Or.inl rfl) (pe_op op_cat (pe_lst (pa_cons pe_str pa_nil)) (pe_lc (own := [("_law_j", 5)]) (g := gName 5) (tt := tYes) rfl sc_Ltext.nd (pi_range1 rfl T.z_range (pa_cons (pe_ix ix_list (pe_lst (pa_cons (pv 3) (pa_cons (pe_op op_add pe_int (pe_op op_mod (pe_op op_fdivW (pv 0) pe_int) pe_int)) pa_nil))) (pe_op op_mod (pe_op op_fdivW (pv 0) pe_int) pe_int) (fun _ _ => rfl)) pa_nil)) (blkOk_by (N := N_Ltext) (sc := defScope s_Ltext) (own := [("_law_j", 5)]) (by decide +kernel)) (fun _ _ _ _ _ => (pg_name (i := 5) sc_Ltext.nd rfl (Or.inl rfl))) (fun _ _ _ _ _ => pts_nil) (fun _ _ _ _ _ => (pe_callTy cl_str_int rfl T.z_str (by decide +kernel) (pa_cons (pe_op op_mod (m_c c_Lmixed hr (by decide) rfl (pa_cons (pv 0) (pa_cons (pv 5) pa_nil))) pe_int) pa_nil))))))) (pss_one (ps_setLc (i := 4) (own := [("_law_j", 5)]) (g := gName 5) (tt := tYes) rfl sc_Ltext.nd rfl rfl (sw_true rfl rfl rfl (by decide +kernel)) (pi_range1 rfl T.z_range (pa_cons (pv 3) pa_nil)) (blkOk_by (N := N_Ltext) (sc := defScope s_Ltext) (own := [("_law_j", 5)]) (by decide +kernel)) (fun _ _ _ _ _ => (pg_name (i := 5) sc_Ltext.nd rfl (Or.inl rfl))) (fun _ _ _ _ _ => pts_nil) (fun _ _ _ _ _ => (pe_ix ix_str (m_c0 c_Lsigns hr (by decide) rfl) (pe_op op_mod (m_c c_Lmixed hr (by decide) rfl (pa_cons (pv 0) (pa_cons (pv 5) pa_nil))) pe_int) (fun _ _ => rfl))))))))))
  (C8.pss_cut (ps_if (m_ptc (PW.pt (pw_and (pt_cmpR op_eq (pe_op op_mod (pe_op op_fdivW (pv 0) pe_int) pe_int) pe_int (nomark _)) (pw_and1 (pt_cmpR (op_neNil hr.units) (pv 4) (pe_lst pa_nil) (nomark _)))))) (pss_one (ps_asg (pe_ix ix_str pe_str (pe_op op_mod (pe_op op_fdivW (pv 0) pe_int) pe_int) (fun _ _ => rfl)) (pg_sub (pv 4) (pe_op op_mod (pe_op op_fdivW (pv 0) pe_int) (pe_callB cl_len_seq rfl T.z_len (by decide +kernel) (pa_cons (pv 4) pa_nil))) set_list))) pss_nil)
  (C8.pss_cut (ps_if (pt_cmpR op_eq (pe_op op_mod (pe_op op_fdivW (pv 0) pe_int) pe_int) pe_int (nomark _)) (pss_one (ps_set (i := 4) sc_Ltext.nd rfl (Or.inl rfl) (pe_op op_cat (pe_slice sl_list (pe_slice sl_list (pe_lst (pa_cons pe_str (pa_cons pe_str (pa_cons pe_str (pa_cons pe_str pa_nil))))) (po_some (pe_op op_mod (pe_op op_fdivW (pv 0) pe_int) pe_int)) po_none) po_none (po_some pe_int)) (pv 4)))) pss_nil)
  (pss_one (ps_ret (pe_join pe_str (pv 4)))))))))), ?_⟩
  walk_at "sts"
  rename_i p1 hp1 H1 s1 h1
  obtain ⟨size, hsize, e1⟩ := pick [c / 5 % 15, 11 + c / 5 % 3, 1 + c / 5 % 3] V.int (c / 75 % 3) (by omega) (by simp only [List.length_cons, List.length_nil]; omega)
  simp only [List.mem_cons, List.not_mem_nil, or_false] at hsize
  have z0 : 0 ≤ size ∧ size ≤ 14 := by omega
  refine t_ixL (SqL.of h1) e1 ?_
  walk_at "sts"
  refine t_cut (fun σ' H' => ∃ (p : Addr) (v : Option V), σ' = [some (.int c), some (.str "abcdefghijklmnopqrstuvwxyz"), some (.int (c % 5)), some (.int size), some (.ref p), v] ∧ Wrd H H' p) ?_ ?_
  · walk_at "sts"
    refine ifb (fun a1 => ?_) (fun a1 => ?_)
    · walk_at "sts"
      refine lcR_any Short (by omega) (fun i H2 Qy hi s2 hy => ?_) (fun D H' ys hD s2 hl hy hd => ?_)
      · walk_at "sts"
        refine ⟨c, _, 40, rfl, small_lt c0 c1, by decide, by omega, by omega, ?_⟩
        walk_at "sts"
        obtain ⟨g, eg⟩ := sg_at (z := "abcdefghijklmnopqrstuvwxyz") (i := mixed c (0 + (i : Int)) % 26) (by omega) (by rw [show ("abcdefghijklmnopqrstuvwxyz" : Str).length = 26 by decide +kernel]; omega)
        refine t_ixS (by decide +kernel) eg ?_
        exact hy _ _ (Same.refl _) ⟨_, rfl, Nat.le_succ 1⟩
      · walk_at "sts"
        exact ⟨_, _, rfl, s1.trans s2, s1.free hD, _, hd, by omega, hy⟩
    · walk_at "sts"
      refine ifb (fun a2 => ?_) (fun a2 => ?_)
      · walk_at "sts"
        rename_i p2 hp2 H2 s2 h2
        obtain ⟨n, hn, e2⟩ := pick [size, 59 + c / 5 % 5] V.int (c / 225 % 2) (by omega) (by simp only [List.length_cons, List.length_nil]; omega)
        simp only [List.mem_cons, List.not_mem_nil, or_false] at hn
        refine t_ixL (SqL.of h2) e2 ?_
        walk_at "sts"
        refine lcR_any Short (by omega) (fun i H3 Qy hi s3 hy => ?_) (fun D H' ys hD s3 hl hy hd => ?_)
        · walk_at "sts"
          refine ⟨c, _, 40, rfl, small_lt c0 c1, by decide, by omega, by omega, ?_⟩
          walk_at "sts"
          refine t_str1 (small_log _ (by omega) (by omega)) ?_
          exact hy _ _ (Same.refl _) ⟨_, rfl, str_short _ (by omega) (by omega)⟩
        · walk_at "sts"
          exact ⟨_, _, rfl, (s1.trans s2).trans s3, s1.free (s2.free hD), _, hd, by omega, hy⟩
      · walk_at "sts"
        refine ifb (fun a3 => ?_) (fun a3 => ?_)
        · walk_at "sts"
          rename_i p2 hp2 H2 s2 h2 p3 hp3 H3 s3 h3
          obtain ⟨n, hn, e3⟩ := pick [size, 60 + c / 5 % 3] V.int (c / 225 % 2) (by omega) (by simp only [List.length_cons, List.length_nil]; omega)
          simp only [List.mem_cons, List.not_mem_nil, or_false] at hn
          refine t_ixL (SqL.of h3) e3 ?_
          walk_at "sts"
          refine lcR_any Short (by omega) (fun i H4 Qy hi s4 hy => ?_) (fun D H' ys hD s4 hl hy hd => ?_)
          · walk_at "sts"
            refine ⟨c, _, 40, rfl, small_lt c0 c1, by decide, by omega, by omega, ?_⟩
            walk_at "sts"
            refine t_str1 (small_log _ (by omega) (by omega)) ?_
            exact hy _ _ (Same.refl _) ⟨_, rfl, str_short _ (by omega) (by omega)⟩
          · walk_at "sts"
            refine t_cat (s4 _ _ (s3 _ _ h2)) hd (by rw [sizeLine_eq, List.length_singleton]; omega) ?_
            walk_at "new"
            rename_i p5 hp5 H5 s5 h5
            walk_at "sts"
            refine ⟨_, _, rfl, (((s1.trans s2).trans s3).trans s4).trans s5, s1.free (s2.free (s3.free (s4.free hp5))), _, h5, by rw [List.length_append, List.length_singleton]; omega, ?_⟩
            intro y hm
            rcases List.mem_append.mp hm with hm | hm
            · rw [List.mem_singleton.mp hm]
              exact ⟨_, rfl, by decide +kernel⟩
            · exact hy y hm
        · walk_at "sts"
          refine lcR_any Short (by omega) (fun i H3 Qy hi s3 hy => ?_) (fun D H' ys hD s3 hl hy hd => ?_)
          · walk_at "sts"
            refine ⟨rfl, fun z hz => ?_⟩
            walk_at "sts"
            refine ⟨c, _, 40, rfl, small_lt c0 c1, by decide, by omega, by omega, ?_⟩
            walk_at "sts"
            obtain ⟨g, eg⟩ := sg_at (z := z) (i := mixed c (0 + (i : Int)) % 94) (by omega) (by rw [hz]; omega)
            refine t_ixS (by rw [hz]; decide +kernel) eg ?_
            exact hy _ _ (Same.refl _) ⟨_, rfl, Nat.le_succ 1⟩
          · walk_at "sts"
            exact ⟨_, _, rfl, s1.trans s3, s1.free hD, _, hd, by omega, hy⟩
  · rintro σ' H2 ⟨p, v, rfl, s2, hp, ys, hd, hl, hy⟩
    refine t_cut (fun σ' H' => ∃ (p : Addr) (v : Option V), σ' = [some (.int c), some (.str "abcdefghijklmnopqrstuvwxyz"), some (.int (c % 5)), some (.int size), some (.ref p), v] ∧ Wrd H H' p) ?_ ?_
    · walk_at "sts"
      refine k_B (decide (c / 450 % 4 = 1) && !ys.isEmpty) ?_ (fun H3 s3 => ?_)
      · walk_at "sts"
        by_cases a : c / 450 % 4 = 1
        · rw [decide_eq_true (show V.int (c / 450 % 4) = V.int 1 by rw [a]), decide_eq_true a]
          walk_at "sts"
          exact ⟨rfl, by assumption⟩
        · rw [decide_eq_false (show ¬ V.int (c / 450 % 4) = V.int 1 from fun e => a (V.int.inj e)), decide_eq_false a]
          walk_at "sts"
          exact ⟨rfl, Same.refl _⟩
      · refine ifb (fun a => ?_) (fun a => ?_)
        · walk_at "sts"
          have hne : 0 < ys.length := by
            rw [Bool.and_eq_true] at a
            cases ys with
            | nil => exact absurd a.2 (by decide)
            | cons _ _ => exact Nat.succ_pos _
          obtain ⟨g, eg⟩ := sg_at (z := "0-A _\t\n9az+.") (i := c / 1800 % 12) (by omega) (by rw [show ("0-A _\t\n9az+." : Str).length = 12 by decide +kernel]; omega)
          refine t_ixS (by decide +kernel) eg ?_
          walk_at "sts"
          refine t_setL (s3 _ _ hd) (Int.emod_nonneg _ (by omega)) (Int.emod_lt_of_pos _ (by omega)) ?_
          refine ⟨_, _, rfl, same_upd (s2.trans s3) hp, hp, _, upd_same, by rw [List.length_set]; omega, fun y hm => ?_⟩
          rcases List.mem_or_eq_of_mem_set hm with hm | hm
          · exact hy y hm
          · exact ⟨_, hm, Nat.le_succ 1⟩
        · walk_at "sts"
          exact ⟨_, _, rfl, s2.trans s3, hp, ys, s3 _ _ hd, hl, hy⟩
    · rintro σ' H3 ⟨p', v, rfl, s3, hp', ys', hd', hl', hy'⟩
      refine t_cut (fun σ' H' => ∃ (p : Addr) (v : Option V), σ' = [some (.int c), some (.str "abcdefghijklmnopqrstuvwxyz"), some (.int (c % 5)), some (.int size), some (.ref p), v] ∧ Same H H' ∧ ∃ ys, H' p = some (.lst ys) ∧ ys.length ≤ 80 ∧ ∀ y ∈ ys, Short y) ?_ ?_
      · walk_at "sts"
        refine ifb (fun a => ?_) (fun a => ?_)
        · walk_at "sts"
          rename_i p4 hp4 H4 s4 h4
          refine t_slL (SqL.of h4) ?_
          walk_at "new"
          rename_i p5 hp5 H5 s5 h5
          walk_at "sts"
          refine t_slL (SqL.of h5) ?_
          walk_at "new"
          rename_i p6 hp6 H6 s6 h6
          walk_at "sts"
          refine t_cat h6 (s6 _ _ (s5 _ _ (s4 _ _ hd'))) ?_ ?_
          · have h1 := cutV_len (cutV [V.str "0", V.str "-", V.str "00", V.str "-0"] (some (c / 1800 % 4)) none) none (some 1)
            have h2 := cutV_len [V.str "0", V.str "-", V.str "00", V.str "-0"] (some (c / 1800 % 4)) none
            have h3 : [V.str "0", V.str "-", V.str "00", V.str "-0"].length = 4 := rfl
            rw [sizeLine_eq]
            omega
          walk_at "new"
          rename_i p7 hp7 H7 s7 h7
          walk_at "sts"
          have h1 := cutV_len (cutV [V.str "0", V.str "-", V.str "00", V.str "-0"] (some (c / 1800 % 4)) none) none (some 1)
          have h2 := cutV_len [V.str "0", V.str "-", V.str "00", V.str "-0"] (some (c / 1800 % 4)) none
          have h3 : [V.str "0", V.str "-", V.str "00", V.str "-0"].length = 4 := rfl
          refine ⟨_, _, rfl, (((s3.trans s4).trans s5).trans s6).trans s7, _, h7, by rw [List.length_append]; omega, fun y hm => ?_⟩
          rcases List.mem_append.mp hm with hm | hm
          · have hm2 := cutV_sub _ _ _ y (cutV_sub _ _ _ y hm)
            simp only [List.mem_cons, List.not_mem_nil, or_false] at hm2
            rcases hm2 with e | e | e | e <;> exact ⟨_, e, by decide +kernel⟩
          · exact hy' y hm
        · walk_at "sts"
          exact ⟨_, _, rfl, s3, ys', hd', by omega, hy'⟩
      · rintro σ' H8 ⟨p8, v8, rfl, s8, ys8, hd8, hl8, hy8⟩
        walk_at "sts"
        obtain ⟨ws, rfl, hw⟩ := texts_of hy8
        rw [List.length_map] at hl8
        have hsum := sum_le ws 2 hw
        refine ⟨_, _, ws, rfl, rfl, Or.inl (SqL.of hd8), ?_, ?_⟩
        · rw [show ("" : Str).length = 0 by decide +kernel]
          omega
        · walk_at "sts"
          exact q _ _ (by rw [len_join0]; omega) s8
end
end T

namespace T
open A
open TL (tl)
section
variable {P : Program} {w : World} {K : PySem.W.Frag} {mg : Str → Option Value} {base : Heap}
def sp_odd (K : PySem.W.Frag) : Sp := fun vs H Q _ => ∃ (c : Int), vs = [.int c] ∧ ∀ x k H', Same H H' → Kd K H' x k → k ≠ "str" → Q x H'
theorem c_Lodd (T : Txt mg) (D : Df K mg "_law_odd" s_Lodd ["_law_cell"]) : Cal P w K mg base 1 "_law_odd" (sp_odd K) := by
  refine cal_of D sc_Lodd (by walk_at "len") (fun f cdv A outer s H vs Q E hr h => ?_)
  obtain ⟨c, rfl, q⟩ := h
  refine ⟨_, (pss_one (ps_ret (pe_ix ix_list (pe_lst (pa_cons pe_non (pa_cons pe_bl (pa_cons pe_bl (pa_cons pe_int (pa_cons (pe_tup pa_nil) (pa_cons (pe_lst (pa_cons pe_str pa_nil)) (pa_cons (pe_tup (pa_cons pe_str pa_nil)) (pa_cons pe_dnewK (pa_cons (pe_lst pa_nil) (pa_cons (pe_un un_neg pe_int) pa_nil))))))))))) (pe_op op_mod (pv 0) pe_int) (fun _ _ => rfl)))), ?_⟩
  walk_at "sts"
  rename_i p1 hp1 H1 s1 h1 p2 hp2 H2 s2 h2 p3 hp3 H3 s3 h3 p4 hp4 H4 s4 h4 p5 hp5 H5 s5 h5 p6 hp6 H6 s6 h6
  obtain ⟨x, hx, ex⟩ := pick [V.non, .bl true, .bl false, .int 5, .ref p1, .ref p2, .ref p3, .ref p4, .ref p5, .int (-3)] id (c % 10) (by omega) (by simp only [List.length_cons, List.length_nil]; omega)
  refine t_ixL (SqL.of h6) ex ?_
  simp only [List.mem_cons, List.not_mem_nil, or_false] at hx
  rcases hx with e | e | e | e | e | e | e | e | e | e <;> subst e <;> refine q _ _ _ (((((s1.trans s2).trans s3).trans s4).trans s5).trans s6) (by walk_at "kd") (by decide)
theorem isName_str (z : Str) : isName (.str z) = (decide (1 ≤ z.length) && decide (z.length ≤ 12) && areSigns z "abcdefghijklmnopqrstuvwxyz") := rfl
theorem in_letters (z b : Str) : (z.cps.toList.filterMap fun c => if c ∈ b.cps.toList then none else some (V.str ⟨#[c]⟩)).isEmpty = areSigns z b := by
  unfold areSigns
  induction z.cps.toList with
  | nil => rfl
  | cons c r ih =>
    rw [List.filterMap_cons, List.all_cons]
    by_cases h : c ∈ b.cps.toList
    · simp only [h, if_true, decide_true, Bool.true_and]
      exact ih
    · simp only [h, if_false, decide_false, Bool.false_and]
      rfl
theorem c_Lis_name (T : Txt mg) (D : Df K mg "_law_is_name" s_Lis_name ["_law_thing"]) : Cal P w K mg base 1 "_law_is_name" (sp_is_name K) := by
  refine cal_of D sc_Lis_name (by walk_at "len") (fun f cdv A outer s H vs Q E hr h => ?_)
  obtain ⟨x, k, rfl, hk, hz, q⟩ := h
  refine ⟨_, (pss_cons (ps_if (m_ptc (PW.pt (pw_or (pt_not (pt_val (pe_callB call_isi rfl T.z_isinstance (by decide +kernel) (pa_cons (pv 0) (pa_cons (pe_bltn (v := .ty "str") rfl T.z_str (by decide +kernel) rfl) pa_nil))))) (pw_or1 (pt_not (pt_chain op_le op_le pe_int (pe_callB cl_len_str rfl T.z_len (by decide +kernel) (pa_cons (pv 0) pa_nil)) pe_int)))))) (pss_one (ps_ret pe_bl)) pss_nil)
  (pss_one (ps_ret (pe_cmpR (op_eqNil hr.units) (pe_lc (own := [("_law_sign", 1)]) (g := gName 1) rfl sc_Lis_name.nd (pi_str (pv 0)) (blkOk_by (N := N_Lis_name) (sc := defScope s_Lis_name) (own := [("_law_sign", 1)]) (by decide +kernel)) (fun _ _ _ _ _ => (pg_name (i := 1) sc_Lis_name.nd rfl (Or.inl rfl))) (fun _ _ _ _ _ => (pts_one (pt_cmpR o_notin_sign (pv 1) pe_str (by rfl)))) (fun _ _ _ _ _ => (pv 1))) (pe_lst pa_nil) (nomark _))))), ?_⟩
  cases hk
  case str z =>
    have hz := hz z rfl
    walk_at "sts"
    refine k_B (!(decide (1 ≤ z.length) && decide (z.length ≤ 12))) ?_ (fun H1 s1 => ?_)
    · walk_at "sts"
      have e1 : decide ((1 : Int) ≤ (z.length : Int)) = decide (1 ≤ z.length) := by rw [Bool.eq_iff_iff]; simp only [decide_eq_true_eq]; omega
      rw [e1]
      generalize decide (1 ≤ z.length) = b1
      cases b1
      · walk_at "sts"
        exact ⟨rfl, Same.refl _⟩
      · walk_at "sts"
        have e2 : decide ((z.length : Int) ≤ 12) = decide (z.length ≤ 12) := by rw [Bool.eq_iff_iff]; simp only [decide_eq_true_eq]; omega
        rw [e2]
        exact ⟨by rw [Bool.true_and], Same.refl _⟩
    · have q2 := q
      rw [isName_str] at q2
      cases hc : (decide (1 ≤ z.length) && decide (z.length ≤ 12))
      · walk_at "sts"
        rw [hc] at q2
        exact q2 _ s1
      · rw [hc] at q2
        walk_at "sts"
        refine lcS_fm (fun c => if c ∈ ("abcdefghijklmnopqrstuvwxyz" : Str).cps.toList then none else some (V.str ⟨#[c]⟩)) hz (fun i c H2 Qy Qn ec s2 hy hn => ?_) (fun L H' hL s2 h1 => ?_)
        · walk_at "sts"
          by_cases hm : c ∈ ("abcdefghijklmnopqrstuvwxyz" : Str).cps.toList
          · refine ifF (by simp only [hm, decide_true]; rfl) ?_
            exact hn _ (Same.refl _) (if_pos hm)
          · refine ifT (by simp only [hm, decide_false]; rfl) ?_
            walk_at "sts"
            exact hy _ _ (Same.refl _) (if_neg hm)
        · walk_at "sts"
          rename_i p3 hp3 H3 s3 h3
          rw [in_letters]
          exact q2 _ ((s1.trans s2).trans s3)
  all_goals
    walk_at "sts"
    refine k_B true ?_ (fun H1 s1 => ?_)
    · walk_at "sts"
      exact ⟨rfl, Same.refl _⟩
    · walk_at "sts"
      exact q _ s1
end
end T

namespace T
open A
open TL (tl)
section
variable {P : Program} {w : World} {K : PySem.W.Frag} {mg : Str → Option Value} {base : Heap}
theorem idx_dig (c : Nat) (h : isDig c = true) : Txt.index0 "0123456789" ⟨#[c]⟩ = some (c - 48) := by
  have k : ∀ c ∈ [48, 49, 50, 51, 52, 53, 54, 55, 56, 57], Txt.index0 "0123456789" ⟨#[c]⟩ = some (c - 48) := by decide +kernel
  refine k c ?_
  have h2 := isDig_mem c
  rw [h, show tl "0123456789" = [48, 49, 50, 51, 52, 53, 54, 55, 56, 57] by decide +kernel] at h2
  exact of_decide_eq_true h2
theorem numV_str (z : Str) : numV (.str z) = (numRd (tl z)).elim .non .int := rfl
/-- the law's own reading of a number -/
theorem c_Lnumber_of (T : Txt mg) (D : Df K mg "_law_number_of" s_Lnumber_of ["_law_word"]) : Cal P w K mg base 1 "_law_number_of" (sp_number_of K) := by
  refine cal_of D sc_Lnumber_of (by walk_at "len") (fun f cdv A outer s H vs Q E hr h => ?_)
  obtain ⟨x, k, rfl, hk, hz, q⟩ := h
  refine ⟨_, (pss_cons (ps_if (pt_not (pt_val (pe_callB call_isi rfl T.z_isinstance (by decide +kernel) (pa_cons (pv 0) (pa_cons (pe_bltn (v := .ty "str") rfl T.z_str (by decide +kernel) rfl) pa_nil))))) (pss_one (ps_ret pe_non)) pss_nil)
  (pss_cons (ps_set (i := 1) sc_Lnumber_of.nd rfl (Or.inl rfl) (m_pec (pe_ifExp (pt_cmpR op_eq (pe_slice sl_str (pv 0) po_none (po_some pe_int)) pe_str (nomark _)) (pe_slice sl_str (pv 0) (po_some pe_int) po_none) (pv 0))))
  (pss_cons (ps_if (m_ptc (PW.pt (pw_or (pt_not (pt_chain op_le op_le pe_int (pe_callB cl_len_str rfl T.z_len (by decide +kernel) (pa_cons (pv 1) pa_nil)) pe_int)) (pw_or1 (pt_cmpR (op_neNil hr.units) (pe_lc (own := [("_law_sign", 3)]) (g := gName 3) rfl sc_Lnumber_of.nd (pi_str (pv 1)) (blkOk_by (N := N_Lnumber_of) (sc := defScope s_Lnumber_of) (own := [("_law_sign", 3)]) (by decide +kernel)) (fun _ _ _ _ _ => (pg_name (i := 3) sc_Lnumber_of.nd rfl (Or.inl rfl))) (fun _ _ _ _ _ => (pts_one (pt_cmpR o_notin_sign (pv 3) pe_str (by rfl)))) (fun _ _ _ _ _ => (pv 3))) (pe_lst pa_nil) (nomark _)))))) (pss_one (ps_ret pe_non)) pss_nil)
  (pss_cons (ps_if (m_ptc (PW.pt (pw_and (pt_cmpR op_eq (pe_ix ix_str (pv 1) pe_int (fun _ _ => rfl)) pe_str (nomark _)) (pw_and1 (pt_cmpR op_ne (pv 0) pe_str (nomark _)))))) (pss_one (ps_ret pe_non)) pss_nil)
  (pss_cons (ps_set (i := 2) sc_Lnumber_of.nd rfl (Or.inl rfl) pe_int)
  (pss_cons (ps_for PassesOwn.never rfl (pi_str (pv 1)) (pg_name (i := 3) sc_Lnumber_of.nd rfl (Or.inl rfl)) (pss_one (ps_set (i := 2) sc_Lnumber_of.nd rfl (Or.inl rfl) (pe_op op_add (pe_op op_mulX pe_int (pv 2)) (pe_m1 PySem.F.slot_str_index PySem.F.type_str_index mt_sidx pe_str (pv 3))))))
  (pss_one (ps_ret (m_pec (pe_ifExp (pt_cmpR op_eq (pe_ix ix_str (pv 0) pe_int (fun _ _ => rfl)) pe_str (nomark _)) (pe_op op_sub pe_int (pv 2)) (pv 2))))))))))), ?_⟩
  cases hk
  case str z =>
    have hz := hz z rfl
    walk_at "sts"
    refine k_E (fun v H' => (∃ fg : Str, v = .str fg ∧ tl fg = figs (tl z)) ∧ H' = H) ?_ ?_
    · walk_at "sts"
      have e1 : decide (V.str (cutS z none (some 1)) = V.str "-") = decide ((tl z).head? = some 45) := by
        rw [dec_text, tl_to z 1 (by decide), show tl "-" = [45] by decide +kernel]
        cases tl z with
        | nil => rfl
        | cons a r =>
          rw [Bool.eq_iff_iff]
          simp
      rw [e1]
      refine ifb (fun h1 => ?_) (fun h1 => ?_)
      · walk_at "sts"
        refine ⟨⟨_, rfl, ?_⟩, rfl⟩
        rw [tl_from _ _ (by decide)]
        unfold figs
        rw [if_pos (of_decide_eq_true h1)]
        rfl
      · walk_at "sts"
        refine ⟨⟨_, rfl, ?_⟩, rfl⟩
        unfold figs
        rw [if_neg (of_decide_eq_false h1)]
    rintro v H1 ⟨⟨fg, rfl, ef⟩, rfl⟩
    have hl : fg.length ≤ 1000000 := by
      have := figs_le (tl z)
      rw [tl_len, ef]
      rw [tl_len] at hz
      omega
    walk_at "sts"
    refine k_B (!good (tl z)) ?_ (fun H2 s2 => ?_)
    · walk_at "sts"
      have eg : good (tl z) = (decide (1 ≤ (fg.length : Int)) && decide ((fg.length : Int) ≤ 61) && areSigns fg "0123456789") := by
        unfold good
        rw [ef.symm, tl_len]
        congr 1
        · congr 1
          · rw [Bool.eq_iff_iff]; simp only [decide_eq_true_eq]; omega
          · rw [Bool.eq_iff_iff]; simp only [decide_eq_true_eq]; omega
        · unfold areSigns
          exact List.all_congr rfl fun c => (isDig_mem c).symm
      rw [eg]
      generalize decide (1 ≤ (fg.length : Int)) = b1
      cases b1
      · walk_at "sts"
        exact ⟨rfl, Same.refl _⟩
      · walk_at "sts"
        generalize decide ((fg.length : Int) ≤ 61) = b2
        cases b2
        · walk_at "sts"
          exact ⟨rfl, Same.refl _⟩
        · walk_at "sts"
          refine lcS_fm (fun c => if c ∈ ("0123456789" : Str).cps.toList then none else some (V.str ⟨#[c]⟩)) hl (fun i c H2 Qy Qn ec s2 hy hn => ?_) (fun L H' hL s2 h1 => ?_)
          · walk_at "sts"
            by_cases hm : c ∈ ("0123456789" : Str).cps.toList
            · refine ifF (by simp only [hm, decide_true]; rfl) ?_
              exact hn _ (Same.refl _) (if_pos hm)
            · refine ifT (by simp only [hm, decide_false]; rfl) ?_
              walk_at "sts"
              exact hy _ _ (Same.refl _) (if_neg hm)
          · walk_at "sts"
            rename_i p3 hp3 H3 s3 h3
            rw [in_letters]
            exact ⟨rfl, s2.trans s3⟩
    cases hg : good (tl z)
    · walk_at "sts"
      have e : numV (.str z) = .non := by
        rw [numV_str]
        unfold numRd
        rw [hg]
        rfl
      rw [e] at q
      exact q _ s2
    · walk_at "sts"
      have hg2 := hg
      unfold good at hg2
      rw [← ef] at hg2
      simp only [Bool.and_eq_true, decide_eq_true_eq] at hg2
      obtain ⟨⟨g1, g2⟩, g3⟩ := hg2
      obtain ⟨c, r, efg⟩ : ∃ c r, tl fg = c :: r := by
        cases q : tl fg with
        | nil => rw [q] at g1; simp at g1
        | cons c r => exact ⟨c, r, rfl⟩
      have e0 : atI fg.cps.toList (0 : Int) = some c := by
        rw [show fg.cps.toList = c :: r from efg]
        exact atI_nat (j := 0) rfl
      have ez : numV (.str z) = if c = 48 ∧ tl z ≠ [48] then .non else .int (if (tl z).head? = some 45 then 0 - val (figs (tl z)) else val (figs (tl z))) := by
        rw [numV_str]
        unfold numRd
        rw [hg, if_pos rfl, ← ef, efg]
        by_cases d : c = 48 ∧ tl z ≠ [48]
        · rw [if_pos d, if_pos (by rw [List.head?_cons, d.1]; exact ⟨rfl, d.2⟩)]
          rfl
        · rw [if_neg d, if_neg (by rw [List.head?_cons]; intro k; exact d ⟨Option.some.inj k.1, k.2⟩)]
          rfl
      rw [ez] at q
      refine k_B (decide (c = 48 ∧ tl z ≠ [48])) ?_ (fun H3 s3 => ?_)
      · walk_at "sts"
        rw [dec_sign c 48 "0" (by decide +kernel)]
        by_cases d : c = 48
        · rw [decide_eq_true d]
          walk_at "sts"
          refine ⟨?_, Same.refl _⟩
          rw [dec_text, show tl "0" = [48] by decide +kernel, Bool.eq_iff_iff]
          simp [d]
        · rw [decide_eq_false d]
          walk_at "sts"
          exact ⟨(decide_eq_false fun k => d k.1).symm, Same.refl _⟩
      · refine ifb (fun d => ?_) (fun d => ?_)
        · rw [if_pos (of_decide_eq_true d)] at q
          walk_at "sts"
          exact q _ (s2.trans s3)
        · rw [if_neg (of_decide_eq_false d)] at q
          walk_at "sts"
          have hle : (tl fg).length ≤ 61 := g2
          refine forJ walk_sgs (fun i σ' H' => ∃ v : Option V, σ' = [some (.str z), some (.str fg), some (.int (val ((tl fg).take i))), v] ∧ H' = H3) ⟨none, rfl, rfl⟩ (fun _ _ _ _ _ => trivial) ?_ ?_
          · rintro i x σ' H' H4 hi ⟨v, rfl, rfl⟩ ⟨rfl, d, ed, rfl⟩
            have hd : isDig d = true := List.all_eq_true.mp g3 d (List.mem_of_getElem? ed)
            have hlt := val_lt ((tl fg).take i) (List.all_eq_true.mpr fun x hx => List.all_eq_true.mp g3 x (List.mem_of_mem_take hx))
            have hp : 10 ^ ((tl fg).take i).length ≤ 10 ^ 61 := Nat.pow_le_pow_right (by decide) (by rw [List.length_take]; omega)
            generalize 10 ^ ((tl fg).take i).length = pp at hlt hp
            walk_at "sts"
            refine t_sidx (idx_dig d hd) ?_
            walk_at "sts"
            refine ⟨some (.str ⟨#[d]⟩), ?_, rfl⟩
            have et : (tl fg).take (i + 1) = (tl fg).take i ++ [d] := by rw [List.take_add_one, show (tl fg)[i]? = some d from ed]; rfl
            rw [et, val_snoc _ _ hd]
            rfl
          · rintro σ' H3' ⟨v, rfl, rfl⟩
            have et : (tl fg).take fg.cps.toList.length = tl fg := List.take_length
            rw [et, ef]
            obtain ⟨c', r', ez'⟩ : ∃ c r, tl z = c :: r := by
              cases q : tl z with
              | nil =>
                have := figs_le (tl z)
                rw [← ef, q, efg] at this
                simp at this
              | cons c r => exact ⟨c, r, rfl⟩
            walk_at "sts"
            refine k_E (fun v H' => v = .int (if (tl z).head? = some 45 then 0 - val (figs (tl z)) else val (figs (tl z))) ∧ H' = H3') ?_ ?_
            · have e0 : atI z.cps.toList (0 : Int) = some c' := by
                rw [show z.cps.toList = c' :: r' from ez']
                exact atI_nat (j := 0) rfl
              walk_at "sts"
              have eh : decide (V.str ⟨#[c']⟩ = V.str "-") = decide ((tl z).head? = some 45) := by
                rw [dec_sign c' 45 "-" (by decide +kernel), ez', List.head?_cons, Bool.eq_iff_iff]
                simp
              rw [eh]
              by_cases d : (tl z).head? = some 45
              · rw [decide_eq_true d, if_pos d]
                walk_at "sts"
                exact ⟨rfl, rfl⟩
              · rw [decide_eq_false d, if_neg d]
                walk_at "sts"
                exact ⟨rfl, rfl⟩
            · rintro v H' ⟨rfl, rfl⟩
              exact q _ (s2.trans s3)
  all_goals (walk_at "sts"; exact q _ (Same.refl _))
/-- a thing and the same thing -/
def sp_alike (K : PySem.W.Frag) : Sp := fun vs H Q _ => ∃ (x : V), vs = [x, x] ∧ (x = .non ∨ (∃ b, x = .bl b) ∨ ∃ i, x = .int i) ∧ Q (.bl true) H
theorem c_Lalike (T : Txt mg) (D : Df K mg "_law_alike" s_Lalike ["_law_found", "_law_due"]) : Cal P w K mg base 1 "_law_alike" (sp_alike K) := by
  refine cal_of D sc_Lalike (by walk_at "len") (fun f cdv A outer s H vs Q E hr h => ?_)
  obtain ⟨x, rfl, hx, q⟩ := h
  refine ⟨_, (pss_cons (ps_if (m_ptc (PW.pt (pw_or (pt_cmpR op_ne (pe_callB call_isi rfl T.z_isinstance (by decide +kernel) (pa_cons (pv 0) (pa_cons (pe_bltn (v := .ty "bool") rfl T.z_bool (by decide +kernel) rfl) pa_nil))) (pe_callB call_isi rfl T.z_isinstance (by decide +kernel) (pa_cons (pv 1) (pa_cons (pe_bltn (v := .ty "bool") rfl T.z_bool (by decide +kernel) rfl) pa_nil))) (nomark _)) (pw_or1 (pt_cmpR op_ne (pe_callB call_isi rfl T.z_isinstance (by decide +kernel) (pa_cons (pv 0) (pa_cons (pe_bltn (v := .ty "int") rfl T.z_int (by decide +kernel) rfl) pa_nil))) (pe_callB call_isi rfl T.z_isinstance (by decide +kernel) (pa_cons (pv 1) (pa_cons (pe_bltn (v := .ty "int") rfl T.z_int (by decide +kernel) rfl) pa_nil))) (nomark _)))))) (pss_one (ps_ret pe_bl)) pss_nil)
  (pss_one (ps_ret (pe_cmpR (op_eqD hr.units) (pv 0) (pv 1) (nomark _))))), ?_⟩
  have hd : ∃ d, Dp K H x d ∧ SeqAt.shaped d = true ∧ PyData.eqv d d = true := by
    rcases hx with rfl | ⟨b, rfl⟩ | ⟨i, rfl⟩
    · exact ⟨_, .non, rfl, rfl⟩
    · exact ⟨_, .bl b, rfl, by simp [PyData.eqv]⟩
    · exact ⟨_, .int i, rfl, by simp [PyData.eqv]⟩
  obtain ⟨d, d1, d2, d3⟩ := hd
  walk_at "sts"
  refine k_T (fun b H' => b = false ∧ H' = H) ?_ ?_
  · rcases hx with rfl | ⟨b, rfl⟩ | ⟨i, rfl⟩ <;> walk_at "sts" <;> exact ⟨rfl, rfl⟩
  · rintro b H' ⟨rfl, rfl⟩
    walk_at "sts"
    refine t_eqD d1 d1 d2 d2 ?_
    rw [d3]
    exact q
/-- one question about a thing -/
def sp_asked (K : PySem.W.Frag) : Sp := fun vs H Q _ => ∃ (way : Int) (x : V) (k : String) (lo hi : Int), vs = [.int way, x, .int lo, .int hi] ∧ Kd K H x k ∧ (∀ z, x = .str z → z.length ≤ 1000000) ∧ ∀ H', Same H H' → Q (.bl true) H'
theorem numV_kind (x : V) : numV x = .non ∨ (∃ b, numV x = .bl b) ∨ ∃ i, numV x = .int i := by
  unfold numV
  split
  · cases numRd _ with
    | none => exact .inl rfl
    | some i => exact .inr (.inr ⟨i, rfl⟩)
  · exact .inl rfl
theorem c_Lasked (T : Txt mg) (D : Df K mg "_law_asked" s_Lasked ["_law_way", "_law_thing", "_law_least", "_law_most"])
    (c_is_whole : Cal P w K mg base 1 "is_whole" (sp_is_whole K)) (c_is_among : Cal P w K mg base 2 "is_among" (sp_is_among K)) (c_is_name : Cal P w K mg base 2 "is_name" (sp_is_name K)) (c_number_of : Cal P w K mg base 2 "number_of" (sp_number_of K))
    (c_Lis_name : Cal P w K mg base 1 "_law_is_name" (sp_is_name K)) (c_Lnumber_of : Cal P w K mg base 1 "_law_number_of" (sp_number_of K)) (c_Lalike : Cal P w K mg base 1 "_law_alike" (sp_alike K)) : Cal P w K mg base 3 "_law_asked" (sp_asked K) := by
  refine cal_of D sc_Lasked (by walk_at "len") (fun f cdv A outer s H vs Q E hr h => ?_)
  obtain ⟨way, x, k, lo, hi, rfl, hk, hz, q⟩ := h
  refine ⟨_, (pss_cons (ps_if (pt_cmpR op_eq (pv 0) pe_int (nomark _)) (pss_one (ps_ret (m_c c_Lalike hr (by decide) rfl (pa_cons (m_c c_is_name hr (by decide) rfl (pa_cons (pv 1) pa_nil)) (pa_cons (m_c c_Lis_name hr (by decide) rfl (pa_cons (pv 1) pa_nil)) pa_nil))))) pss_nil)
  (pss_cons (ps_if (pt_cmpR op_eq (pv 0) pe_int (nomark _)) (pss_one (ps_ret (m_c c_Lalike hr (by decide) rfl (pa_cons (m_c c_number_of hr (by decide) rfl (pa_cons (pv 1) pa_nil)) (pa_cons (m_c c_Lnumber_of hr (by decide) rfl (pa_cons (pv 1) pa_nil)) pa_nil))))) pss_nil)
  (pss_cons (ps_set (i := 4) sc_Lasked.nd rfl (Or.inl rfl) (pe_and (pe_callB call_isi rfl T.z_isinstance (by decide +kernel) (pa_cons (pv 1) (pa_cons (pe_bltn (v := .ty "int") rfl T.z_int (by decide +kernel) rfl) pa_nil))) (pe_one (pe_not (pe_callB call_isi rfl T.z_isinstance (by decide +kernel) (pa_cons (pv 1) (pa_cons (pe_bltn (v := .ty "bool") rfl T.z_bool (by decide +kernel) rfl) pa_nil)))))))
  (pss_cons (ps_if (pt_cmpR op_eq (pv 0) pe_int (nomark _)) (pss_one (ps_ret (m_c c_Lalike hr (by decide) rfl (pa_cons (m_c c_is_whole hr (by decide) rfl (pa_cons (pv 1) pa_nil)) (pa_cons (pv 4) pa_nil))))) pss_nil)
  (pss_one (ps_ret (m_c c_Lalike hr (by decide) rfl (pa_cons (m_c c_is_among hr (by decide) rfl (pa_cons (pv 1) (pa_cons (pv 2) (pa_cons (pv 3) pa_nil)))) (pa_cons (pe_and (pv 4) (pe_and (pe_cmpR op_le (pv 2) (pv 1) (nomark _)) (pe_one (pe_cmpR op_le (pv 1) (pv 3) (nomark _))))) pa_nil))))))))), ?_⟩
  walk_at "sts"
  refine ifb (fun a => ?_) (fun a => ?_)
  · walk_at "sts"
    refine ⟨x, k, rfl, hk, hz, fun H1 s1 => ?_⟩
    walk_at "sts"
    refine ⟨x, k, rfl, hk.mono s1, hz, fun H2 s2 => ?_⟩
    walk_at "sts"
    exact ⟨_, rfl, .inr (.inl ⟨_, rfl⟩), q _ (s1.trans s2)⟩
  · walk_at "sts"
    refine ifb (fun a => ?_) (fun a => ?_)
    · walk_at "sts"
      refine ⟨x, k, rfl, hk, hz, fun H1 s1 => ?_⟩
      walk_at "sts"
      refine ⟨x, k, rfl, hk.mono s1, hz, fun H2 s2 => ?_⟩
      walk_at "sts"
      exact ⟨_, rfl, numV_kind x, q _ (s1.trans s2)⟩
    · cases hk <;> walk_at "sts"
      all_goals
        refine ifb (fun a => ?_) (fun a => ?_)
        · walk_at "sts"
          refine ⟨_, _, rfl, by walk_at "kd", ?_⟩
          walk_at "sts"
          exact ⟨_, rfl, .inr (.inl ⟨_, rfl⟩), q _ (Same.refl _)⟩
        · walk_at "sts"
          refine ⟨_, _, _, _, rfl, by walk_at "kd", ?_⟩
          walk_at "sts"
          first
            | exact ⟨_, rfl, .inr (.inl ⟨_, rfl⟩), q _ (Same.refl _)⟩
            | (rename_i i
               refine ifb (fun c => ?_) (fun c => ?_)
               · walk_at "sts"
                 have e : isAmong lo hi (.int i) = decide (i ≤ hi) := by simp only [isAmong, c, Bool.true_and]
                 rw [e]
                 exact ⟨_, rfl, .inr (.inl ⟨_, rfl⟩), q _ (Same.refl _)⟩
               · walk_at "sts"
                 have e : isAmong lo hi (.int i) = false := by simp only [isAmong, c, Bool.false_and]
                 rw [e]
                 exact ⟨_, rfl, .inr (.inl ⟨_, rfl⟩), q _ (Same.refl _)⟩)
end
end T

namespace T
open A
open TL (tl numL)
section
variable {P : Program} {w : World} {K : PySem.W.Frag} {mg : Str → Option Value} {base : Heap}
theorem small_log2 {n : Nat} (h : n < 10 ^ 61) : n.log2 < 1920 := by
  by_cases e : n = 0
  · subst e; decide
  · refine (Nat.log2_lt e).mpr (Nat.lt_of_lt_of_le h ?_)
    exact Nat.le_of_ble_eq_true rfl
def numI (n : Int) : List Nat := if n < 0 then 45 :: numL n.natAbs else numL n.natAbs
theorem tl_int (n : Int) : tl (Str.ofString (toString n)) = numI n := by
  unfold numI
  cases n with
  | ofNat m =>
    rw [if_neg (by have := Int.natCast_nonneg m; exact Int.not_lt.mpr this)]
    exact TL.tl_num m
  | negSucc m =>
    rw [if_pos (by omega)]
    have e := TL.tl_num (m + 1)
    show (Str.ofString _).cps.toList = _
    rw [signs_ofString] 
    have e : (Str.ofString (toString ((m + 1 : Nat) : Int))).cps.toList = numL (m + 1) := TL.tl_num (m + 1)
    rw [signs_ofString] at e
    show ("-" ++ Nat.repr (m + 1)).toList.map Char.toNat = _
    rw [String.toList_append, List.map_append]
    exact congrArg (fun l => 45 :: l) e
theorem numL_head {n : Nat} (h : 1 ≤ n) : (numL n).head? ≠ some 48 := by
  induction n using Nat.strongRecOn with
  | _ n ih =>
    by_cases h10 : n < 10
    · rw [TL.numL_lt h10]
      simp only [List.head?_cons, ne_eq, Option.some.injEq]
      omega
    · rw [TL.numL_step (by omega)]
      have e := ih (n / 10) (by omega) (by omega)
      have e2 := TL.numL_ne (n / 10)
      cases c : numL (n / 10) with
      | nil => exact absurd c e2
      | cons a r => rw [c] at e; exact e
theorem numL_hd (n : Nat) : ∃ a r, numL n = a :: r ∧ 48 ≤ a := by
  cases c : numL n with
  | nil => exact absurd c (TL.numL_ne n)
  | cons a r => exact ⟨a, r, rfl, (TL.numL_digits n a (by rw [c]; exact List.mem_cons_self)).1⟩
theorem figs_num (n : Int) : figs (numI n) = numL n.natAbs := by
  unfold figs numI
  by_cases h : n < 0
  · rw [if_pos h]; rfl
  · rw [if_neg h]
    obtain ⟨a, r, e, l⟩ := numL_hd n.natAbs
    rw [e]
    refine if_neg ?_
    simp only [List.head?_cons, Option.some.injEq]
    omega
theorem numRd_num {n : Int} (h : n.natAbs < 10 ^ 61) : numRd (numI n) = some n := by
  have hg : good (numI n) = true := by
    unfold good
    rw [figs_num]
    have h1 := TL.numL_ne n.natAbs
    have h2 := TL.numL_len (by decide) h
    have h3 := TL.numL_digits n.natAbs
    simp only [Bool.and_eq_true, decide_eq_true_eq, List.all_eq_true]
    refine ⟨⟨List.length_pos_iff.mpr h1, h2⟩, fun c hc => ?_⟩
    have := h3 c hc
    unfold isDig
    simp only [Bool.and_eq_true, decide_eq_true_eq]
    exact this
  have hv : val (numL n.natAbs) = n.natAbs := by
    unfold val
    rw [TL.numL_val]
  unfold numRd
  rw [if_pos hg, figs_num, hv]
  obtain ⟨a, r, e, l⟩ := numL_hd n.natAbs
  rw [if_neg]
  · unfold numI
    by_cases h : n < 0
    · rw [if_pos h, List.head?_cons, if_pos rfl]
      congr 1
      omega
    · rw [if_neg h, e, if_neg (by simp only [List.head?_cons, Option.some.injEq]; omega)]
      congr 1
      omega
  · rintro ⟨h1, h2⟩
    by_cases h0 : n.natAbs = 0
    · obtain rfl : n = 0 := by omega
      exact h2 (by decide +kernel)
    · exact numL_head (by omega) h1
def sp_number_good : Sp := fun vs H Q _ => ∃ (n : Int), vs = [.int n] ∧ n.natAbs < 10 ^ 61 ∧ ∀ H', Same H H' → Q (.bl true) H'
theorem c_Lnumber_good (T : Txt mg) (D : Df K mg "_law_number_good" s_Lnumber_good ["_law_number"]) (c_number_text : Cal P w K mg base 1 "number_text" sp_number_text)
    (c_number_of : Cal P w K mg base 2 "number_of" (sp_number_of K)) (c_Lalike : Cal P w K mg base 1 "_law_alike" (sp_alike K)) : Cal P w K mg base 3 "_law_number_good" sp_number_good := by
  refine cal_of D sc_Lnumber_good (by walk_at "len") (fun f cdv A outer s H vs Q E hr h => ?_)
  obtain ⟨n, rfl, hn, q⟩ := h
  refine ⟨_, (pss_cons (ps_set (i := 1) sc_Lnumber_good.nd rfl (Or.inl rfl) (m_c c_number_text hr (by decide) rfl (pa_cons (pv 0) pa_nil)))
  (pss_cons (ps_set (i := 2) sc_Lnumber_good.nd rfl (Or.inl rfl) (pe_lst pa_nil))
  (pss_cons (ps_set (i := 3) sc_Lnumber_good.nd rfl (Or.inl rfl) (pe_callB cl_abs rfl T.z_abs (by decide +kernel) (pa_cons (pv 0) pa_nil)))
  (pss_cons (ps_while PassesOwn.never (m_ptc (PW.pt (pw_or (pt_cmpR op_gt (pv 3) pe_int (nomark _)) (pw_or1 (pt_cmpR (op_eqNil hr.units) (pv 2) (pe_lst pa_nil) (nomark _)))))) (pss_cons (ps_expr (pe_bm PySem.F.plainAttrs_list PySem.F.slot_list_append PySem.F.type_list_append mt_append (pv 2) (pa_cons (pe_ix ix_str pe_str (pe_op op_mod (pv 3) pe_int) (fun _ _ => rfl)) pa_nil)))
  (pss_one (ps_set (i := 3) sc_Lnumber_good.nd rfl (Or.inl rfl) (pe_op op_fdivW (pv 3) pe_int)))))
  (pss_cons (ps_set (i := 4) sc_Lnumber_good.nd rfl (Or.inl rfl) (pe_op o_add_str (pe_op op_repS pe_str (pe_callTy cl_int1 rfl T.z_int (by decide +kernel) (pa_cons (pe_cmpR op_lt (pv 0) pe_int (nomark _)) pa_nil))) (pe_joinRev rfl pe_str rfl T.z_reversed (pv 2))))
  (pss_one (ps_ret (pe_and (pe_callB call_isi rfl T.z_isinstance (by decide +kernel) (pa_cons (pv 1) (pa_cons (pe_bltn (v := .ty "str") rfl T.z_str (by decide +kernel) rfl) pa_nil))) (pe_and (pe_cmpR op_eq (pv 1) (pv 4) (nomark _)) (pe_one (m_c c_Lalike hr (by decide) rfl (pa_cons (m_c c_number_of hr (by decide) rfl (pa_cons (pv 1) pa_nil)) (pa_cons (pv 0) pa_nil))))))))))))), ?_⟩
  walk_at "sts"
  refine ⟨_, rfl, small_log2 hn, ?_⟩
  walk_at "sts"
  rename_i p hp H1 s1 h1
  have hz : ((if n < 0 then -n else n) : Int) = (n.natAbs : Int) := by split <;> omega
  rw [hz]
  clear hz
  refine ⟨fun m σ' H' => ∃ (left : Nat) (ws : List Str), σ' = [some (.int n), some (.str (Str.ofString (toString n))), some (.ref p), some (.int left), none] ∧ Same H H' ∧ H' p = some (.lst (ws.map V.str)) ∧ m = left + (if ws = [] then 1 else 0)
    ∧ (∀ x ∈ ws, x.length = 1) ∧ numL n.natAbs = (if left = 0 ∧ ws ≠ [] then [] else numL left) ++ (ws.reverse.map tl).flatten,
    ⟨_, n.natAbs, [], rfl, s1, h1, rfl, (fun _ h => nomatch h), ?_⟩, ?_⟩
  · rw [if_neg (fun h => h.2 rfl)]
    exact (List.append_nil _).symm
  rintro m σ' H2 ⟨left, ws, rfl, s2, h2, rfl, hw, hN⟩
  have hlen : ws.length ≤ 61 := by
    have e1 := TL.numL_len (by decide) hn
    rw [hN, List.length_append, List.length_flatten, List.map_map] at e1
    have e2 : (ws.reverse.map (List.length ∘ tl)).sum = ws.length := by
      rw [List.map_congr_left (g := fun _ => 1) (fun x hx => by
        show (tl x).length = 1
        rw [← tl_len]
        exact hw x (List.mem_reverse.mp hx))]
      rw [List.map_const', List.sum_replicate_nat, List.length_reverse, Nat.mul_one]
    omega
  clear s1 h1
  refine k_B (decide (0 < left) || ws.isEmpty) ?_ (fun H3 s3 => ?_)
  · walk_at "sts"
    refine ifb (fun c => ?_) (fun c => ?_)
    · have c2 : 0 < left := by simpa using c
      exact ⟨by rw [decide_eq_true c2]; rfl, Same.refl _⟩
    · have c2 : ¬ 0 < left := by simpa using c
      rw [decide_eq_false c2]
      walk_at "sts"
      exact ⟨by rw [List.isEmpty_map]; rfl, by assumption⟩
  have h3 := s3 _ _ h2
  have s23 := s2.trans s3
  clear s2 s3 h2
  refine ifb (fun c => ?_) (fun c => ?_)
  · have hN2 : numL n.natAbs = numL left ++ (ws.reverse.map tl).flatten := by
      rw [hN, if_neg]
      rintro ⟨a, b⟩
      subst a
      cases ws with
      | nil => exact b rfl
      | cons x r => cases c
    refine ⟨_, fun σ' H' h => h, ?_⟩
    walk_at "sts"
    refine ⟨ty_list (.of h3), ?_⟩
    walk_at "sts"
    have ei : atI (Str.ofString "0123456789").cps.toList ((left : Int) % 10) = some (48 + left % 10) := by
      have k : ∀ d : Nat, d < 10 → atI (Str.ofString "0123456789").cps.toList (d : Int) = some (48 + d) := by decide +kernel
      exact k (left % 10) (Nat.mod_lt _ (by decide))
    refine t_ixS (by decide +kernel) ei ?_
    walk_at "sts"
    refine t_append h3 (by rw [List.length_map, sizeLine_eq]; omega) ?_
    walk_at "sts"
    have ew : ∀ x : Str, ws ++ [x] ≠ [] := fun x e => by simp at e
    refine ⟨_, ?_, left / 10, ws ++ [⟨#[48 + left % 10]⟩], ?_, same_upd s23 hp, ?_, rfl, ?_, ?_⟩
    · rw [if_neg (ew _)]
      by_cases c0 : ws = []
      · rw [if_pos c0]; omega
      · rw [if_neg c0]
        have : 0 < left := by
          rcases Bool.or_eq_true .. ▸ c with c1 | c1
          · exact of_decide_eq_true c1
          · exact absurd (List.isEmpty_iff.mp c1) c0
        omega
    · rfl
    · rw [upd_same, List.map_append]
      rfl
    · intro x hx
      rcases List.mem_append.mp hx with h | h
      · exact hw x h
      · rw [List.mem_singleton.mp h]; rfl
    · rw [hN2, List.reverse_append, List.map_append, List.flatten_append]
      by_cases c0 : left < 10
      · rw [TL.numL_lt c0, if_pos ⟨by omega, ew _⟩, show left % 10 = left by omega]
        rfl
      · rw [TL.numL_step (by omega), if_neg (by omega), List.append_assoc]
        rfl
  · have hl : left = 0 ∧ ws ≠ [] := by
      have c1 := c
      rw [Bool.or_eq_false_iff] at c1
      refine ⟨?_, fun e => ?_⟩
      · have := of_decide_eq_false c1.1
        omega
      · rw [e] at c1
        exact absurd c1.2 (by decide)
    rw [if_pos hl, List.nil_append] at hN
    walk_at "sts"
    have hd : ∀ (q : Bool), (0 : Int) ≤ (if q = true then 1 else 0) ∧ ((if q = true then 1 else 0) : Int) ≤ 1 := by decide
    have hj : (Txt.join "" ws.reverse).length ≤ 61 := by
      rw [tl_len, tl_join0, ← hN]
      exact TL.numL_len (by decide) hn
    have key : (if ((if decide (n < 0) = true then 1 else 0) : Int) = 0 then Str.empty else Str.ofString "-") ++ Txt.join "" ws.reverse = Str.ofString (toString n) := by
      refine tl_ext ?_
      rw [tl_cat, tl_join0, ← hN, tl_int]
      unfold numI
      by_cases h0 : n < 0
      · rw [decide_eq_true h0, if_pos rfl, if_neg (by decide), if_pos h0]; rfl
      · rw [decide_eq_false h0, if_neg h0]; rfl
    have hs1 : (ws.map (·.length)).sum = ws.length := by
      rw [List.map_congr_left (g := fun _ => 1) hw, List.map_const', List.sum_replicate_nat, Nat.mul_one]
    refine t_repS (hd _).1 (hd _).2 (by decide +kernel) ?_
    refine t_joinRev ?_
    walk_at "sts"
    refine ⟨_, _, ws, rfl, rfl, .of h3, ?_, ?_⟩
    · rw [hs1, show (Str.ofString "").length = 0 by decide +kernel]
      omega
    refine t_addS ?_ ?_
    · have : (if ((if decide (n < 0) = true then 1 else 0) : Int) = 0 then Str.empty else Str.ofString "-").length ≤ 1 := by
        split <;> decide +kernel
      rw [sizeLine_eq]
      omega
    rw [key]
    walk_at "sts"
    rw [decide_eq_true rfl]
    refine ⟨_, rfl, ?_⟩
    walk_at "sts"
    refine ⟨_, _, rfl, M.Kd.str _, fun z e => ?_, fun H4 s4 => ?_⟩
    · cases e
      rw [tl_len, tl_int]
      have := TL.numL_len (by decide) hn
      unfold numI
      split
      · rw [List.length_cons]; omega
      · omega
    rw [show numV (.str (Str.ofString (toString n))) = .int n by
      show (numRd (tl (Str.ofString (toString n)))).elim V.non V.int = _
      rw [tl_int, numRd_num hn]; rfl]
    walk_at "sts"
    exact ⟨_, rfl, .inr (.inr ⟨_, rfl⟩), q _ (s23.trans s4)⟩
end
end T

namespace T
open A
open TL (tl)
section
variable {P : Program} {w : World} {K : PySem.W.Frag} {mg : Str → Option Value} {base : Heap}
theorem cell_bits {ns : List Int} {n : Nat} (h : ∀ i ∈ ns, i.natAbs < 2 ^ n) (k : Int) : (cellAt ns k).natAbs < 2 ^ n := by
  unfold cellAt
  rw [List.getD_eq_getElem?_getD]
  cases e : ns[k.toNat]? with
  | none => exact Nat.two_pow_pos n
  | some x => exact h x (List.mem_of_getElem? e)
theorem cut_len (xs : List V) (lo hi : Int) (h : 0 ≤ lo) (h2 : lo ≤ hi) : (cutV xs (some lo) (some hi)).length ≤ (hi - lo).toNat := by
  unfold cutV
  rw [List.length_take, List.length_drop, sIx_int _ _ _ h, sIx_int _ _ _ (by omega)]
  omega
def Sh2 (y : V) : Prop := ∃ x, y = V.str x ∧ x.length ≤ 2
def Sh200 (y : V) : Prop := ∃ x, y = V.str x ∧ x.length ≤ 200
theorem spaces (k : Nat) : ((List.replicate k [V.str " "]).flatten).length = k ∧ ∀ y ∈ (List.replicate k [V.str " "]).flatten, Sh2 y := by
  refine ⟨by rw [List.length_flatten, List.map_replicate, List.sum_replicate_nat]; exact Nat.mul_one k, fun y hy => ?_⟩
  obtain ⟨l, hl, hy⟩ := List.mem_flatten.mp hy
  rw [List.eq_of_mem_replicate hl] at hy
  rw [List.mem_singleton.mp hy]
  exact ⟨_, rfl, by decide +kernel⟩
/-- a script: how great its cells are -/
def Bits (ns : List Int) : Prop := ∃ n ≤ 1048600, ∀ i ∈ ns, i.natAbs < 2 ^ n
def sp_line (K : PySem.W.Frag) : Sp := fun vs H Q _ => ∃ (a : Addr) (ns : List Int), vs = [.ref a] ∧ SqL K H a (ns.map V.int) ∧ Bits ns ∧ ∀ (z : Str) H', z.length ≤ 2000 → Same H H' → Q (.str z) H'
theorem c_Lline (T : Txt mg) (D : Df K mg "_law_line" s_Lline ["_law_script"]) (c_Lcell_at : Cal P w K mg base 1 "_law_cell_at" (sp_cell_at K)) (c_Lmixed : Cal P w K mg base 1 "_law_mixed" sp_mixed) (c_Ltext : Cal P w K mg base 2 "_law_text" sp_text) :
    Cal P w K mg base 3 "_law_line" (sp_line K) := by
  refine cal_of D sc_Lline (by walk_at "len") (fun f cdv A outer s H vs Q E hr h => ?_)
  obtain ⟨a, ns, rfl, hs, ⟨n, hn, hb⟩, q⟩ := h
  refine ⟨_, (pss_cons (ps_set (i := 1) sc_Lline.nd rfl (Or.inl rfl) (m_c c_Lmixed hr (by decide) rfl (pa_cons (m_c c_Lcell_at hr (by decide) rfl (pa_cons (pv 0) (pa_cons pe_int pa_nil))) (pa_cons pe_int pa_nil))))
  (pss_cons (ps_setLc (i := 2) (own := [("_law_one", 7)]) (g := gName 7) (tt := tYes) rfl sc_Lline.nd rfl rfl (sw_true rfl rfl rfl (by decide +kernel)) (pi_list (pe_slice sl_list (pv 0) (po_some pe_int) (po_some (pe_op op_add pe_int (pe_op op_mod (pv 1) pe_int))))) (blkOk_by (N := N_Lline) (sc := defScope s_Lline) (own := [("_law_one", 7)]) (by decide +kernel)) (fun _ _ _ _ _ => (pg_name (i := 7) sc_Lline.nd rfl (Or.inl rfl))) (fun _ _ _ _ _ => pts_nil) (fun _ _ _ _ _ => (m_c c_Ltext hr (by decide) rfl (pa_cons (m_c c_Lmixed hr (by decide) rfl (pa_cons (pv 7) (pa_cons pe_int pa_nil))) pa_nil))))
  (pss_cons (ps_set (i := 3) sc_Lline.nd rfl (Or.inl rfl) (pe_op op_rep (pe_lst (pa_cons pe_str pa_nil)) (pe_callB cl_len_seq rfl T.z_len (by decide +kernel) (pa_cons (pv 2) pa_nil))))
  (C8.pss_cut (ps_if (pt_cmpR (op_neNil hr.units) (pv 2) (pe_lst pa_nil) (nomark _)) (pss_one (ps_asg (pe_ix ix_list (pe_lst (pa_cons pe_str (pa_cons pe_str (pa_cons pe_str (pa_cons pe_str (pa_cons pe_str (pa_cons pe_str pa_nil))))))) (pe_op op_mod (pe_op op_fdivW (pv 1) pe_int) pe_int) (fun _ _ => rfl)) (pg_sub (pv 3) (pe_op op_mod (pe_op op_fdivW (pv 1) pe_int) (pe_callB cl_len_seq rfl T.z_len (by decide +kernel) (pa_cons (pv 2) pa_nil))) set_list))) pss_nil)
  (pss_cons (ps_set (i := 4) sc_Lline.nd rfl (Or.inl rfl) pe_str)
  (pss_cons (ps_for PassesOwn.never rfl (pi_zip rfl T.z_zip (pa_cons (pv 2) (pa_cons (pv 3) pa_nil))) (pg_tup rfl (pgs_cons (pg_name (i := 5) sc_Lline.nd rfl (Or.inl rfl)) (pgs_cons (pg_name (i := 6) sc_Lline.nd rfl (Or.inl rfl)) pgs_nil))) (pss_one (ps_set (i := 4) sc_Lline.nd rfl (Or.inl rfl) (pe_op o_add_str (pe_op o_add_str (pv 4) (m_pec (pe_ifExp (pt_cmpR op_ne (pv 4) pe_str (nomark _)) (pv 6) pe_str))) (pv 5)))))
  (pss_one (ps_ret (pe_op o_add_str (pv 4) (pe_ix ix_list (pe_lst (pa_cons pe_str (pa_cons pe_str pa_nil))) (pe_callTy cl_int1 rfl T.z_int (by decide +kernel) (pa_cons (pe_cmpR op_eq (pe_op op_mod (pe_op op_fdivW (pv 1) pe_int) pe_int) pe_int (nomark _)) pa_nil)) (fun _ _ => rfl))))))))))), ?_⟩
  walk_at "sts"
  refine ⟨_, _, _, rfl, hs, by decide, ?_⟩
  walk_at "sts"
  refine ⟨_, _, n, rfl, cell_bits hb 1, hn, by decide, by decide, ?_⟩
  walk_at "sts"
  have hm0 := mixed_lo (cellAt ns 1) 3
  have hm1 := mixed_hi (cellAt ns 1) 3
  generalize mixed (cellAt ns 1) 3 = c at hm0 hm1
  refine t_slL hs ?_
  walk_at "new"
  rename_i p1 hp1 H1 s1 h1
  walk_at "sts"
  have hl := cut_len (ns.map V.int) 2 (2 + c % 7) (by decide) (by omega)
  have hmem : ∀ x ∈ cutV (ns.map V.int) (some 2) (some (2 + c % 7)), ∃ i : Int, x = .int i ∧ i.natAbs < 2 ^ n := fun x hx => by
    obtain ⟨i, hi, e⟩ := List.mem_map.mp (cutV_sub _ _ _ x hx)
    exact ⟨i, e.symm, hb i hi⟩
  refine lcL_any _ (SqL.of h1) Sh200 (by omega) (fun i x H2 Qy ex s2 k => ?_) (fun L H2 ys hL s2 hyl hys h2 => ?_)
  · obtain ⟨j, rfl, hj⟩ := hmem x (List.mem_of_getElem? ex)
    walk_at "sts"
    refine ⟨_, _, n, rfl, hj, hn, by decide, by decide, ?_⟩
    walk_at "sts"
    refine ⟨_, rfl, mixed_lo _ _, by have := mixed_hi j 50; omega, fun z H3 hz s3 => k _ _ s3 ⟨_, rfl, hz⟩⟩
  have hy6 : ys.length ≤ 6 := by omega
  have s02 := s1.trans s2
  clear s1 s2 h1 hl hmem hyl
  walk_at "sts"
  rename_i p3 hp3 H3 s3 h3
  walk_at "sts"
  refine ⟨p3, ys.length, _, rfl, rfl, h3, by omega, by omega, by rw [sizeLine_eq]; show 1 * _ ≤ _; omega, ?_⟩
  rw [Int.toNat_natCast]
  obtain ⟨hsl, hsm⟩ := spaces ys.length
  generalize (List.replicate ys.length [V.str " "]).flatten = bt at hsl hsm
  walk_at "new"
  rename_i p4 hp4 H4 s4 h4
  have h24 := s4 _ _ (s3 _ _ h2)
  have s04 := (s02.trans s3).trans s4
  have hp40 := s02.free (s3.free hp4)
  have h2p := s3 _ _ h2
  clear s3 s4 h2 s02 h3 hp3
  refine t_cut (fun σ' H' => ∃ bt : List V, σ' = [some (.ref a), some (.int c), some (.ref L), some (.ref p4), none, none, none, none] ∧ Same H H' ∧ H' L = some (.lst ys) ∧ H' p4 = some (.lst bt) ∧ bt.length = ys.length ∧ ∀ y ∈ bt, Sh2 y) ?_ ?_
  · walk_at "sts"
    rename_i p5 hp5 H5 s5 h5
    refine ifb (fun e => ?_) (fun e => ?_)
    · have hy0 : 0 < ys.length := by
        cases ys with
        | nil => cases e
        | cons x r => exact Nat.succ_pos _
      walk_at "sts"
      rename_i p6 hp6 H6 s6 h6
      refine t_ixL (SqL.of h6) (atI_in (V.str "") (i := c / 42 % 6) (by omega) (by show _ < (6 : Int); omega)) ?_
      walk_at "sts"
      refine t_setL (s6 _ _ (s5 _ _ h4)) (Int.emod_nonneg _ (by omega)) (by rw [hsl]; exact Int.emod_lt_of_pos _ (by omega)) ?_
      refine ⟨_, rfl, same_upd ((s04.trans s5).trans s6) ?_, ?_, upd_same, by rw [List.length_set]; exact hsl, fun y hm => ?_⟩
      · exact hp40
      · rw [upd_ne (ne_of_none h2p hp4)]
        exact s6 _ _ (s5 _ _ h24)
      · rcases List.mem_or_eq_of_mem_set hm with hm | hm
        · exact hsm y hm
        · have hx : ∀ k : Nat, k < 6 → Sh2 (([V.str " ", V.str "  ", V.str "", V.str "\t", V.str "\n", V.str " "] : List V).getD k (V.str "")) := by
            intro k hk
            rcases (show k = 0 ∨ k = 1 ∨ k = 2 ∨ k = 3 ∨ k = 4 ∨ k = 5 by omega) with e | e | e | e | e | e <;> subst e <;> exact ⟨_, rfl, by decide +kernel⟩
          rw [hm]
          exact hx _ (by omega)
    · walk_at "sts"
      exact ⟨bt, rfl, s04.trans s5, s5 _ _ h24, s5 _ _ h4, hsl, hsm⟩
  · rintro σ' H' ⟨bt', rfl, s, hL2, h42, hl2, hm2⟩
    clear s04 h24 h4 hsl hsm
    walk_at "sts"
    have w := walk_zip (K := K) (a := L) (b := p4) (xs := ys) (ys := bt') (n := ys.length) (by omega)
    refine forJ w (fun i σ2 H2 => ∃ (z : Str) (u v : Option V), σ2 = [some (.ref a), some (.int c), some (.ref L), some (.ref p4), some (.str z), u, v, none] ∧ Same H' H2 ∧ z.length ≤ i * 202) ⟨"", none, none, rfl, Same.refl _, by decide +kernel⟩ (fun i σ2 H2 hi h => ?_) (fun i x σ2 H2 H3 hi h y => ?_) (fun σ2 H2 h => ?_)
    · obtain ⟨z, u, v, rfl, s2, hz⟩ := h
      exact ⟨.of (s2 _ _ hL2), .of (s2 _ _ h42)⟩
    · obtain ⟨z, u, v, rfl, s2, hz⟩ := h
      obtain ⟨tp, x1, x2, rfl, htp, rfl, e1, e2⟩ := y
      obtain ⟨y1, rfl, hy1⟩ := hys x1 (List.mem_of_getElem? e1)
      obtain ⟨y2, rfl, hy2⟩ := hm2 x2 (List.mem_of_getElem? e2)
      refine t_gtup (SqT.of upd_same) rfl ?_
      walk_at "sts"
      have s3 := s2.trans (same_new (o := HO.tup [.str y1, .str y2]) htp)
      refine k_E (fun v H' => (∃ b : Str, v = .str b ∧ b.length ≤ 2) ∧ H' = upd H2 tp (.tup [.str y1, .str y2])) ?_ ?_
      · walk_at "sts"
        refine ifb (fun e => ?_) (fun e => ?_)
        · walk_at "sts"
          exact ⟨⟨_, rfl, hy2⟩, rfl⟩
        · walk_at "sts"
          exact ⟨⟨_, rfl, by decide +kernel⟩, rfl⟩
      rintro v' H4 ⟨⟨b, rfl, hb2⟩, rfl⟩
      refine t_addS (by rw [sizeLine_eq]; omega) ?_
      walk_at "sts"
      refine t_addS (by rw [PyProof.Rows.len_cat, sizeLine_eq]; omega) ?_
      walk_at "sts"
      exact ⟨_, _, _, rfl, s3, by rw [PyProof.Rows.len_cat, PyProof.Rows.len_cat]; omega⟩
    · obtain ⟨z, u, v, rfl, s2, hz⟩ := h
      walk_at "sts"
      rename_i p9 hp9 H9 s9 h9
      have hk : ∀ b : Bool, ∃ x : Str, x.length ≤ 1 ∧ atI [V.str "", V.str " "] (if b = true then 1 else 0) = some (.str x) := by
        intro b
        cases b
        · exact ⟨_, by decide +kernel, rfl⟩
        · exact ⟨_, by decide +kernel, rfl⟩
      obtain ⟨x, hx, ex⟩ := hk (decide (V.int (c / 252 % 9) = V.int 1))
      refine t_ixL (SqL.of h9) ex ?_
      walk_at "sts"
      exact q _ _ (by rw [PyProof.Rows.len_cat]; omega) ((s.trans s2).trans s9)
def sp_line_good : Sp := fun vs H Q _ => ∃ (z : Str), vs = [.str z] ∧ z.length ≤ 1000000 ∧ ∀ H', Same H H' → Q (.bl true) H'
theorem c_Lline_good (T : Txt mg) (D : Df K mg "_law_line_good" s_Lline_good ["_law_line_here"]) (c_words_of : Cal P w K mg base 1 "words_of" (sp_words_of K)) : Cal P w K mg base 2 "_law_line_good" sp_line_good := by
  refine cal_of D sc_Lline_good (by walk_at "len") (fun f cdv A outer s H vs Q E hr h => ?_)
  obtain ⟨z, rfl, hz, q⟩ := h
  refine ⟨_, (pss_cons (ps_set (i := 1) sc_Lline_good.nd rfl (Or.inl rfl) (pe_split (pv 0) pe_str))
  (pss_cons (ps_if (pt_cmpR op_in_seq pe_str (pv 1) (by rfl)) (pss_one (ps_ret (pe_cmpR o_isN (m_c c_words_of hr (by decide) rfl (pa_cons (pv 0) pa_nil)) pe_non (nomark _)))) pss_nil)
  (pss_cons (ps_for PassesOwn.never rfl (pi_range1 rfl T.z_range (pa_cons pe_int pa_nil)) (pg_name (i := 2) sc_Lline_good.nd rfl (Or.inl rfl)) (pss_cons (ps_set (i := 3) sc_Lline_good.nd rfl (Or.inl rfl) (m_c c_words_of hr (by decide) rfl (pa_cons (pv 0) pa_nil)))
  (pss_cons (ps_if (m_ptc (PW.pt (pw_or (pt_not (pt_val (pe_callB call_isi rfl T.z_isinstance (by decide +kernel) (pa_cons (pv 3) (pa_cons (pe_bltn (v := .ty "list") rfl T.z_list (by decide +kernel) rfl) pa_nil))))) (pw_or1 (pt_cmpR (op_neStrs hr.units) (pv 3) (pv 1) (nomark _)))))) (pss_one (ps_ret pe_bl)) pss_nil)
  (pss_one (ps_expr (pe_bm PySem.F.plainAttrs_list PySem.F.slot_list_append PySem.F.type_list_append mt_append (pv 3) (pa_cons pe_str pa_nil)))))))
  (pss_one (ps_ret pe_bl))))), ?_⟩
  walk_at "sts"
  refine ⟨by decide +kernel, by rw [sizeLine_eq]; omega, ?_⟩
  walk_at "new"
  rename_i p hp H1 s1 h1
  walk_at "sts"
  refine t_inL (SqL.of h1) rfl (flat_strs _) ?_
  walk_at "sts"
  have hwl := split_le z " "
  obtain ⟨ws, hws⟩ : ∃ ws, Txt.split z " " = ws := ⟨_, rfl⟩
  rw [hws] at h1 hwl ⊢
  show (if inV (V.str "") (ws.map V.str) = true then _ else _)
  refine ifb (fun e => ?_) (fun e => ?_)
  · walk_at "sts"
    refine ⟨_, _, rfl, M.Kd.str _, (fun z' e' => by cases e'; exact hz), fun e' => absurd rfl e', fun z' e' => ?_⟩
    cases e'
    rw [hws]
    refine ⟨fun _ H2 s2 => ?_, fun e2 => by rw [e] at e2; cases e2⟩
    walk_at "sts"
    exact q _ (s1.trans s2)
  · walk_at "sts"
    refine forJ walk_range (fun i σ2 H2 => ∃ (u v : Option V), σ2 = [some (.str z), some (.ref p), u, v] ∧ Same H1 H2) ⟨_, _, rfl, Same.refl _⟩ (fun i σ2 H2 hi h => trivial) (fun i x σ2 H2 H3 hi h y => ?_) (fun σ2 H2 h => ?_)
    · obtain ⟨u, v, rfl, s2⟩ := h
      obtain ⟨rfl, rfl⟩ := y
      walk_at "sts"
      refine ⟨_, _, rfl, M.Kd.str _, (fun z' e' => by cases e'; exact hz), fun e' => absurd rfl e', fun z' e' => ?_⟩
      cases e'
      rw [hws]
      refine ⟨(fun e2 => by rw [e] at e2; cases e2), fun _ p3 H3 hp3 s3 h3 => ?_⟩
      walk_at "sts"
      refine k_B false ?_ (fun H4 s4 => ?_)
      · walk_at "sts"
        refine t_neStrs ws (SqL.of h3) (SqL.of (s3 _ _ (s2 _ _ h1))) ?_
        walk_at "sts"
        exact ⟨rfl, Same.refl _⟩
      walk_at "sts"
      refine ⟨ty_list (.of (s4 _ _ h3)), ?_⟩
      walk_at "sts"
      refine t_append (s4 _ _ h3) (by rw [List.length_map, sizeLine_eq]; omega) ?_
      walk_at "sts"
      exact ⟨_, _, rfl, same_upd ((s2.trans s3).trans s4) (s2.free hp3)⟩
    · obtain ⟨u, v, rfl, s2⟩ := h
      walk_at "sts"
      exact q _ (s1.trans s2)
end
end T

namespace T
open A
open TL (tl)
section
variable {P : Program} {w : World} {K : PySem.W.Frag} {mg : Str → Option Value} {base : Heap}
def sp_law (K : PySem.W.Frag) : Sp := fun vs H Q _ => ∃ (a : Addr) (ns : List Int), vs = [.ref a] ∧ SqL K H a (ns.map V.int) ∧ Bits ns ∧ ∀ H', Same H H' → Q (.bl true) H'
theorem ok_law {f : Addr} {fd : FuncData} (T : Txt mg) (F : L2.Fun K "law" "law" s_law f fd) (c_Lline_good : Cal P w K mg base 2 "_law_line_good" sp_line_good) (c_Lline : Cal P w K mg base 3 "_law_line" (sp_line K)) (c_words_of : Cal P w K mg base 1 "words_of" (sp_words_of K))
    (c_Lodd : Cal P w K mg base 1 "_law_odd" (sp_odd K)) (c_Lcell_at : Cal P w K mg base 1 "_law_cell_at" (sp_cell_at K)) (c_Lmixed : Cal P w K mg base 1 "_law_mixed" sp_mixed) (c_Lgreat : Cal P w K mg base 2 "_law_great" sp_great)
    (c_Ltext : Cal P w K mg base 2 "_law_text" sp_text) (c_Lasked : Cal P w K mg base 3 "_law_asked" (sp_asked K)) (c_Lnumber_good : Cal P w K mg base 3 "_law_number_good" sp_number_good) : FnOk P w K mg base L2.CX0 4 f fd ["_law_script"] (sp_law K) := by
  refine F.ok sc_law (by walk_at "len") (fun cdv A outer s H vs Q E hr h => ?_)
  obtain ⟨a, ns, rfl, hs, ⟨n, hn, hb⟩, q⟩ := h
  refine ⟨_, (pss_cons (ps_if (m_ptc (PW.pt (pw_or (pt_not (pt_val (m_c c_Lline_good hr (by decide) rfl (pa_cons (m_c c_Lline hr (by decide) rfl (pa_cons (pv 0) pa_nil)) pa_nil)))) (pw_or1 (pt_cmpR o_notN (m_c c_words_of hr (by decide) rfl (pa_cons (m_c c_Lodd hr (by decide) rfl (pa_cons (m_c c_Lcell_at hr (by decide) rfl (pa_cons (pv 0) (pa_cons pe_int pa_nil))) pa_nil)) pa_nil)) pe_non (nomark _)))))) (pss_one (ps_ret pe_bl)) pss_nil)
  (pss_cons (ps_for PassesOwn.never rfl (pi_range2 rfl T.z_range (pa_cons pe_int (pa_cons (pe_callB (cl_max2 rfl) rfl T.z_max (by decide +kernel) (pa_cons pe_int (pa_cons (pe_callB (cl_min2 rfl) rfl T.z_min (by decide +kernel) (pa_cons (pe_callB cl_len_seq rfl T.z_len (by decide +kernel) (pa_cons (pv 0) pa_nil)) (pa_cons pe_int pa_nil))) pa_nil))) pa_nil))) (pg_name (i := 1) sc_law.nd rfl (Or.inl rfl)) (pss_cons (ps_set (i := 2) sc_law.nd rfl (Or.inl rfl) (m_c c_Lmixed hr (by decide) rfl (pa_cons (m_c c_Lcell_at hr (by decide) rfl (pa_cons (pv 0) (pa_cons (pv 1) pa_nil))) (pa_cons (pv 1) pa_nil))))
  (pss_cons (ps_set (i := 3) sc_law.nd rfl (Or.inl rfl) (pe_op op_sub (pe_op op_mod (pv 2) pe_int) pe_int))
  (C8.pss_cut (ps_if (pt_cmpR op_eq (pe_op op_mod (pe_op op_fdivW (pv 2) pe_int) pe_int) pe_int (nomark _)) (pss_one (ps_set (i := 3) sc_law.nd rfl (Or.inl rfl) (pe_op op_mulX (pe_op op_mod (pe_op op_sub (m_c c_Lgreat hr (by decide) rfl (pa_cons (pv 2) (pa_cons pe_int pa_nil))) (m_c c_Lgreat hr (by decide) rfl (pa_cons (pv 2) (pa_cons pe_int pa_nil)))) (pe_op op_powW pe_int pe_int)) (pe_ix ix_list (pe_lst (pa_cons pe_int (pa_cons (pe_un un_neg pe_int) pa_nil))) (pe_op op_mod (pe_op op_fdivW (pv 2) pe_int) pe_int) (fun _ _ => rfl))))) pss_nil)
  (C8.pss_cut (ps_asg (pe_ix ix_list (pe_lst (pa_cons (pe_tup (pa_cons (pv 3) (pa_cons (pe_op op_add (pv 3) (pe_op op_mod (pv 2) pe_int)) pa_nil))) (pa_cons (pe_tup (pa_cons (pe_op op_add (pv 3) pe_int) (pa_cons (pe_op op_add (pv 3) pe_int) pa_nil))) (pa_cons (pe_tup (pa_cons (pe_un un_neg pe_int) (pa_cons pe_int pa_nil))) (pa_cons (pe_tup (pa_cons pe_int (pa_cons pe_int pa_nil))) pa_nil))))) (pe_op op_mod (pe_op op_fdivW (pv 2) pe_int) pe_int) (fun _ _ => rfl)) (pg_tup rfl (pgs_cons (pg_name (i := 4) sc_law.nd rfl (Or.inl rfl)) (pgs_cons (pg_name (i := 5) sc_law.nd rfl (Or.inl rfl)) pgs_nil))))
  (pss_cons (ps_for PassesOwn.never rfl (pi_list (pe_lst (pa_cons (m_c c_Ltext hr (by decide) rfl (pa_cons (pv 2) pa_nil)) (pa_cons (pv 3) (pa_cons (m_c c_Lodd hr (by decide) rfl (pa_cons (pe_op op_fdivW (pv 2) pe_int) pa_nil)) pa_nil))))) (pg_name (i := 6) sc_law.nd rfl (Or.inl rfl)) (pss_one (ps_for PassesOwn.never rfl (pi_range1 rfl T.z_range (pa_cons pe_int pa_nil)) (pg_name (i := 7) sc_law.nd rfl (Or.inl rfl)) (pss_one (ps_if (pt_not (pt_val (m_c c_Lasked hr (by decide) rfl (pa_cons (pe_op op_mod (pe_op op_add (pe_op op_mulX (pv 7) (pe_ix ix_list (pe_lst (pa_cons pe_int (pa_cons pe_int pa_nil))) (pe_op op_mod (pe_op op_fdivW (pv 2) pe_int) pe_int) (fun _ _ => rfl))) (pv 2)) pe_int) (pa_cons (pv 6) (pa_cons (pv 4) (pa_cons (pv 5) pa_nil))))))) (pss_one (ps_ret pe_bl)) pss_nil)))))
  (pss_one (ps_if (pt_not (pt_val (m_c c_Lnumber_good hr (by decide) rfl (pa_cons (pv 3) pa_nil)))) (pss_one (ps_ret pe_bl)) pss_nil))))))))
  (pss_one (ps_ret pe_bl)))), ?_⟩
  walk_at "sts"
  refine k_B false ?_ (fun H1 s1 => ?_)
  · walk_at "sts"
    refine ⟨_, _, rfl, hs, ⟨n, hn, hb⟩, fun z H1 hz s1 => ?_⟩
    walk_at "sts"
    refine ⟨_, rfl, by omega, fun H2 s2 => ?_⟩
    walk_at "sts"
    refine ⟨_, _, _, rfl, (s1.trans s2).seq hs, by decide, ?_⟩
    walk_at "sts"
    refine ⟨_, rfl, fun x k H3 s3 hk hne => ?_⟩
    walk_at "sts"
    refine ⟨_, _, rfl, hk, (fun z e => ?_), fun _ => ?_, fun z e => ?_⟩
    · subst e; cases hk; exact absurd rfl hne
    · walk_at "sts"
      exact ⟨rfl, (s1.trans s2).trans s3⟩
    · subst e; cases hk; exact absurd rfl hne
  have hs1 := s1.seq hs
  walk_at "sts"
  have hlen : ∀ u : Int, (2 : Int) + ((if (if (63 : Int) < u then 63 else u) > 3 then (if (63 : Int) < u then 63 else u) else 3) - 2).toNat ≤ 63 := by
    intro u
    split <;> split <;> omega
  have hlen := hlen (ns.map V.int).length
  generalize ((if (if (63 : Int) < ((ns.map V.int).length : Nat) then 63 else (((ns.map V.int).length : Nat) : Int)) > 3 then (if (63 : Int) < ((ns.map V.int).length : Nat) then 63 else (((ns.map V.int).length : Nat) : Int)) else 3) - 2).toNat = N at hlen ⊢
  refine forJ walk_range (fun i σ2 H2 => ∃ (v1 v2 v3 v4 v5 v6 v7 : Option V), σ2 = [some (.ref a), v1, v2, v3, v4, v5, v6, v7] ∧ Same H1 H2) ⟨_, _, _, _, _, _, _, rfl, Same.refl _⟩ (fun i σ2 H2 hi h => trivial) (fun i x σ2 H2 H3 hi h y => ?_) (fun σ2 H2 h => ?_)
  · obtain ⟨v1, v2, v3, v4, v5, v6, v7, rfl, s2⟩ := h
    obtain ⟨rfl, rfl⟩ := y
    have hs2 := s2.seq hs1
    walk_at "sts"
    refine ⟨_, _, _, rfl, hs2, by omega, ?_⟩
    walk_at "sts"
    refine ⟨_, _, n, rfl, cell_bits hb _, hn, by omega, by omega, ?_⟩
    walk_at "sts"
    generalize hcm : mixed (cellAt ns (2 + i)) (2 + i) = c
    have hc0 : 0 ≤ c := hcm ▸ mixed_lo _ _
    have hc1 : c < 2147483647 := hcm ▸ mixed_hi _ _
    clear hcm
    refine t_cut (fun σ' H' => ∃ nb : Int, nb.natAbs < 10 ^ 61 ∧ σ' = [some (.ref a), some (.int (2 + i)), some (.int c), some (.int nb), v4, v5, v6, v7] ∧ Same H1 H') ?_ ?_
    · walk_at "sts"
      refine ifb (fun e => ?_) (fun e => ?_)
      · walk_at "sts"
        refine ⟨_, _, rfl, hc0, by omega, by decide, by decide, fun g1 h10 h11 => ?_⟩
        walk_at "sts"
        refine ⟨_, _, rfl, hc0, by omega, by decide, by decide, fun g2 h20 h21 => ?_⟩
        walk_at "sts"
        refine t_rI (show CPowW _ _ from ⟨by decide, by decide⟩) ?_
        refine t_rI (by decide) ?_
        have hm : ∃ m : Int, (g1 - g2) % 10 ^ (61 : Int).toNat = m ∧ 0 ≤ m ∧ m < 10000000000000000000000000000000000000000000000000000000000000 := ⟨_, rfl, Int.emod_nonneg _ (by decide), Int.emod_lt_of_pos _ (by decide)⟩
        obtain ⟨m, em, hm0, hm1⟩ := hm
        rw [em]
        clear em
        walk_at "sts"
        rename_i p7 hp7 H7 s7 h7
        have hk : ∀ d : Int, 0 ≤ d → d < 2 → ∃ j : Int, (j = 1 ∨ j = -1) ∧ atI [V.int 1, V.int (-1)] d = some (.int j) := by
          intro d h0 h1
          rcases (show d = 0 ∨ d = 1 by omega) with e | e <;> subst e
          · exact ⟨_, .inl rfl, rfl⟩
          · exact ⟨_, .inr rfl, rfl⟩
        obtain ⟨j, hj, ej⟩ := hk (c / 500 % 2) (by omega) (by omega)
        refine t_ixL (SqL.of h7) ej ?_
        refine t_rI (M.CMulX_small (by omega) (by omega) (by omega) (by omega)) ?_
        refine ⟨m * j, ?_, rfl, s2.trans s7⟩
        rcases hj with e | e <;> subst e <;> omega
      · walk_at "sts"
        exact ⟨_, by omega, rfl, s2⟩
    rintro σ' H4 ⟨nb, hnb, rfl, s4⟩
    refine t_cut (fun σ' H' => ∃ lo hi : Int, σ' = [some (.ref a), some (.int (2 + i)), some (.int c), some (.int nb), some (.int lo), some (.int hi), v6, v7] ∧ Same H1 H') ?_ ?_
    · walk_at "sts"
      rename_i p1 hp1 H5 s5 h5 p2 hp2 H6 s6 h6 p3 hp3 H7 s7 h7 p4 hp4 H8 s8 h8 p5 hp5 H9 s9 h9
      have g4 := s9 _ _ h8
      have g3 := s9 _ _ (s8 _ _ h7)
      have g2 := s9 _ _ (s8 _ _ (s7 _ _ h6))
      have g1 := s9 _ _ (s8 _ _ (s7 _ _ (s6 _ _ h5)))
      have s := ((((s4.trans s5).trans s6).trans s7).trans s8).trans s9
      have hk : ∀ d : Int, 0 ≤ d → d < 4 → ∃ (p : Addr) (lo hi : Int), H9 p = some (.tup [.int lo, .int hi]) ∧ atI [V.ref p1, V.ref p2, V.ref p3, V.ref p4] d = some (.ref p) := by
        intro d h0 h1
        rcases (show d = 0 ∨ d = 1 ∨ d = 2 ∨ d = 3 by omega) with e | e | e | e <;> subst e
        · exact ⟨p1, _, _, g1, rfl⟩
        · exact ⟨p2, _, _, g2, rfl⟩
        · exact ⟨p3, _, _, g3, rfl⟩
        · exact ⟨p4, _, _, g4, rfl⟩
      obtain ⟨p, lo, hi2, hp, ep⟩ := hk (c / 82 % 4) (by omega) (by omega)
      refine t_ixL (SqL.of h9) ep ?_
      walk_at "sts"
      refine t_gtup (SqT.of hp) rfl ?_
      walk_at "sts"
      exact ⟨_, _, rfl, s⟩
    rintro σ' H5 ⟨lo, hi2, rfl, s5⟩
    walk_at "sts"
    refine ⟨_, rfl, hc0, by omega, fun z H6 hz s6 => ?_⟩
    walk_at "sts"
    refine ⟨_, rfl, fun x k H7 s7 hk hne => ?_⟩
    walk_at "sts"
    rename_i p8 hp8 H8 s8 h8
    have hkd : ∀ y ∈ ([.str z, .int nb, x] : List V), ∃ k, Kd K H8 y k ∧ ∀ z, y = .str z → z.length ≤ 1000000 := by
      intro y hy
      simp only [List.mem_cons, List.not_mem_nil, or_false] at hy
      rcases hy with e | e | e
      · subst e; exact ⟨_, .str _, fun z' e => by cases e; omega⟩
      · subst e; exact ⟨_, .int _, fun z' e => nomatch e⟩
      · subst e; exact ⟨_, hk.mono s8, fun z' e => by subst e; cases hk; exact absurd rfl hne⟩
    refine forJ (walk_list (xs := [.str z, .int nb, x])) (fun i3 σ2 H2 => ∃ (v6 v7 : Option V), σ2 = [some (.ref a), some (.int (2 + i)), some (.int c), some (.int nb), some (.int lo), some (.int hi2), v6, v7] ∧ Same H8 H2) ⟨_, _, rfl, Same.refl _⟩ (fun i3 σ2 H2 hi h => ?_) (fun i3 y σ2 H2 H3 hi h yy => ?_) (fun σ2 H2 h => ?_)
    · obtain ⟨v6, v7, rfl, s9⟩ := h
      exact .of (s9 _ _ h8)
    · obtain ⟨v6, v7, rfl, s9⟩ := h
      obtain ⟨rfl, ey⟩ := yy
      obtain ⟨ky, hky, hyz⟩ := hkd y (List.mem_of_getElem? ey)
      walk_at "sts"
      refine forJ walk_range (fun i3 σ2 H2 => ∃ (v7 : Option V), σ2 = [some (.ref a), some (.int (2 + i)), some (.int c), some (.int nb), some (.int lo), some (.int hi2), some y, v7] ∧ Same H8 H2) ⟨_, rfl, s9⟩ (fun i3 σ2 H2 hi h => trivial) (fun i4 y4 σ4 H4 H5 hi4 h yy => ?_) (fun σ2 H2 h => ?_)
      · obtain ⟨v7, rfl, s10⟩ := h
        obtain ⟨rfl, rfl⟩ := yy
        walk_at "sts"
        rename_i p11 hp11 H11 s11 h11
        have hk : ∀ d : Int, 0 ≤ d → d < 2 → ∃ j : Int, (1 ≤ j ∧ j ≤ 3) ∧ atI [V.int 1, V.int 3] d = some (.int j) := by
          intro d h0 h1
          rcases (show d = 0 ∨ d = 1 by omega) with e | e <;> subst e
          · exact ⟨_, by decide, rfl⟩
          · exact ⟨_, by decide, rfl⟩
        obtain ⟨j, hj, ej⟩ := hk (c / 9 % 2) (by omega) (by omega)
        refine t_ixL (SqL.of h11) ej ?_
        refine t_rI (M.CMulX_small (by omega) (by omega) (by omega) (by omega)) ?_
        walk_at "sts"
        refine ⟨_, _, _, _, _, rfl, hky.mono (s10.trans s11), hyz, fun H12 s12 => ?_⟩
        walk_at "sts"
        exact (s10.trans s11).trans s12
      · obtain ⟨v7, rfl, s10⟩ := h
        exact ⟨_, _, rfl, s10⟩
    · obtain ⟨v6, v7, rfl, s9⟩ := h
      walk_at "sts"
      refine ⟨_, rfl, hnb, fun H10 s10 => ?_⟩
      walk_at "sts"
      exact ⟨_, _, _, _, _, _, _, rfl, ((((s5.trans s6).trans s7).trans s8).trans s9).trans s10⟩
  · obtain ⟨v1, v2, v3, v4, v5, v6, v7, rfl, s2⟩ := h
    walk_at "sts"
    exact q _ (s1.trans s2)
end
end T

namespace T
theorem all_mk {l : PySem.W.OpenLaw} {w : World} {K : PySem.W.Frag} {h : Heap} {mg : Str → Option Value} {fa : Addr} (X : K.In h) (G : h.Ns mainGlobals mg) (hfa : mg "law" = some (.ref fa))
    {t_g_LETTERS : Tok}
    {t_g_FIGURES : Tok}
    {t_g_MOST_LETTERS : Tok}
    {t_g_MOST_FIGURES : Tok}
    {f1 : Addr} {od1 an1 : Option Addr} {sl1 : Array (Option Value)} {oc1 kV1 dc1 pm1 cd1 ct1 : Value}
    {f2 : Addr} {od2 an2 : Option Addr} {sl2 : Array (Option Value)} {oc2 kV2 dc2 pm2 cd2 ct2 : Value}
    {f3 : Addr} {od3 an3 : Option Addr} {sl3 : Array (Option Value)} {oc3 kV3 dc3 pm3 cd3 ct3 : Value}
    {f4 : Addr} {od4 an4 : Option Addr} {sl4 : Array (Option Value)} {oc4 kV4 dc4 pm4 cd4 ct4 : Value}
    {f5 : Addr} {od5 an5 : Option Addr} {sl5 : Array (Option Value)} {oc5 kV5 dc5 pm5 cd5 ct5 : Value}
    {f6 : Addr} {od6 an6 : Option Addr} {sl6 : Array (Option Value)} {oc6 kV6 dc6 pm6 cd6 ct6 : Value}
    {f7 : Addr} {od7 an7 : Option Addr} {sl7 : Array (Option Value)} {oc7 kV7 dc7 pm7 cd7 ct7 : Value}
    {f8 : Addr} {od8 an8 : Option Addr} {sl8 : Array (Option Value)} {oc8 kV8 dc8 pm8 cd8 ct8 : Value}
    {f9 : Addr} {od9 an9 : Option Addr} {sl9 : Array (Option Value)} {oc9 kV9 dc9 pm9 cd9 ct9 : Value}
    {f10 : Addr} {od10 an10 : Option Addr} {sl10 : Array (Option Value)} {oc10 kV10 dc10 pm10 cd10 ct10 : Value}
    {f11 : Addr} {od11 an11 : Option Addr} {sl11 : Array (Option Value)} {oc11 kV11 dc11 pm11 cd11 ct11 : Value}
    {f12 : Addr} {od12 an12 : Option Addr} {sl12 : Array (Option Value)} {oc12 kV12 dc12 pm12 cd12 ct12 : Value}
    {f13 : Addr} {od13 an13 : Option Addr} {sl13 : Array (Option Value)} {oc13 kV13 dc13 pm13 cd13 ct13 : Value}
    {f14 : Addr} {od14 an14 : Option Addr} {sl14 : Array (Option Value)} {oc14 kV14 dc14 pm14 cd14 ct14 : Value}
    {f15 : Addr} {od15 an15 : Option Addr} {sl15 : Array (Option Value)} {oc15 kV15 dc15 pm15 cd15 ct15 : Value}
    {f16 : Addr} {od16 an16 : Option Addr} {sl16 : Array (Option Value)} {oc16 kV16 dc16 pm16 cd16 ct16 : Value}
    {f17 : Addr} {od17 an17 : Option Addr} {sl17 : Array (Option Value)} {oc17 kV17 dc17 pm17 cd17 ct17 : Value}
    {f18 : Addr} {od18 an18 : Option Addr} {sl18 : Array (Option Value)} {oc18 kV18 dc18 pm18 cd18 ct18 : Value}
    {f19 : Addr} {od19 an19 : Option Addr} {sl19 : Array (Option Value)} {oc19 kV19 dc19 pm19 cd19 ct19 : Value}
    {f20 : Addr} {od20 an20 : Option Addr} {sl20 : Array (Option Value)} {oc20 kV20 dc20 pm20 cd20 ct20 : Value}
    {f21 : Addr} {od21 an21 : Option Addr} {sl21 : Array (Option Value)} {oc21 kV21 dc21 pm21 cd21 ct21 : Value}
    (z_isinstance : PySem.W.nsIn K mainGlobals "isinstance" = some none)
    (z_len : PySem.W.nsIn K mainGlobals "len" = some none)
    (z_int : PySem.W.nsIn K mainGlobals "int" = some none)
    (z_bool : PySem.W.nsIn K mainGlobals "bool" = some none)
    (z_str : PySem.W.nsIn K mainGlobals "str" = some none)
    (z_all : PySem.W.nsIn K mainGlobals "all" = some none)
    (z_range : PySem.W.nsIn K mainGlobals "range" = some none)
    (z_max : PySem.W.nsIn K mainGlobals "max" = some none)
    (z_min : PySem.W.nsIn K mainGlobals "min" = some none)
    (z_abs : PySem.W.nsIn K mainGlobals "abs" = some none)
    (z_zip : PySem.W.nsIn K mainGlobals "zip" = some none)
    (z_list : PySem.W.nsIn K mainGlobals "list" = some none)
    (z_reversed : PySem.W.nsIn K mainGlobals "reversed" = some none)
    (g_LETTERS : PySem.W.nsIn K mainGlobals "LETTERS" = some (some (.str "abcdefghijklmnopqrstuvwxyz" t_g_LETTERS)))
    (g_FIGURES : PySem.W.nsIn K mainGlobals "FIGURES" = some (some (.str "0123456789" t_g_FIGURES)))
    (g_MOST_LETTERS : PySem.W.nsIn K mainGlobals "MOST_LETTERS" = some (some (.int 12 t_g_MOST_LETTERS)))
    (g_MOST_FIGURES : PySem.W.nsIn K mainGlobals "MOST_FIGURES" = some (some (.int 61 t_g_MOST_FIGURES)))
    (a1 : PySem.W.nsIn K mainGlobals "is_whole" = some (some (.ref f1))) (l1 : K.lookup f1 = some ⟨oc1, od1, .func (PySem.W.fnOf "is_whole" "is_whole" (defArgs s_is_whole) (defBody s_is_whole) (defScope s_is_whole) .none kV1 dc1 pm1 an1 cd1 ct1), sl1⟩) (c1 : PySem.W.codeIn K cd1 "is_whole" = true) (k1 : PySem.W.keepIn K (.ref f1) = true)
    (a2 : PySem.W.nsIn K mainGlobals "is_among" = some (some (.ref f2))) (l2 : K.lookup f2 = some ⟨oc2, od2, .func (PySem.W.fnOf "is_among" "is_among" (defArgs s_is_among) (defBody s_is_among) (defScope s_is_among) .none kV2 dc2 pm2 an2 cd2 ct2), sl2⟩) (c2 : PySem.W.codeIn K cd2 "is_among" = true) (k2 : PySem.W.keepIn K (.ref f2) = true)
    (a3 : PySem.W.nsIn K mainGlobals "are_signs" = some (some (.ref f3))) (l3 : K.lookup f3 = some ⟨oc3, od3, .func (PySem.W.fnOf "are_signs" "are_signs" (defArgs s_are_signs) (defBody s_are_signs) (defScope s_are_signs) .none kV3 dc3 pm3 an3 cd3 ct3), sl3⟩) (c3 : PySem.W.codeIn K cd3 "are_signs" = true) (k3 : PySem.W.keepIn K (.ref f3) = true)
    (a4 : PySem.W.nsIn K mainGlobals "is_name" = some (some (.ref f4))) (l4 : K.lookup f4 = some ⟨oc4, od4, .func (PySem.W.fnOf "is_name" "is_name" (defArgs s_is_name) (defBody s_is_name) (defScope s_is_name) .none kV4 dc4 pm4 an4 cd4 ct4), sl4⟩) (c4 : PySem.W.codeIn K cd4 "is_name" = true) (k4 : PySem.W.keepIn K (.ref f4) = true)
    (a5 : PySem.W.nsIn K mainGlobals "number_text" = some (some (.ref f5))) (l5 : K.lookup f5 = some ⟨oc5, od5, .func (PySem.W.fnOf "number_text" "number_text" (defArgs s_number_text) (defBody s_number_text) (defScope s_number_text) .none kV5 dc5 pm5 an5 cd5 ct5), sl5⟩) (c5 : PySem.W.codeIn K cd5 "number_text" = true) (k5 : PySem.W.keepIn K (.ref f5) = true)
    (a6 : PySem.W.nsIn K mainGlobals "number_of" = some (some (.ref f6))) (l6 : K.lookup f6 = some ⟨oc6, od6, .func (PySem.W.fnOf "number_of" "number_of" (defArgs s_number_of) (defBody s_number_of) (defScope s_number_of) .none kV6 dc6 pm6 an6 cd6 ct6), sl6⟩) (c6 : PySem.W.codeIn K cd6 "number_of" = true) (k6 : PySem.W.keepIn K (.ref f6) = true)
    (a7 : PySem.W.nsIn K mainGlobals "words_of" = some (some (.ref f7))) (l7 : K.lookup f7 = some ⟨oc7, od7, .func (PySem.W.fnOf "words_of" "words_of" (defArgs s_words_of) (defBody s_words_of) (defScope s_words_of) .none kV7 dc7 pm7 an7 cd7 ct7), sl7⟩) (c7 : PySem.W.codeIn K cd7 "words_of" = true) (k7 : PySem.W.keepIn K (.ref f7) = true)
    (a8 : PySem.W.nsIn K mainGlobals "_law_cell_at" = some (some (.ref f8))) (l8 : K.lookup f8 = some ⟨oc8, od8, .func (PySem.W.fnOf "_law_cell_at" "_law_cell_at" (defArgs s_Lcell_at) (defBody s_Lcell_at) (defScope s_Lcell_at) .none kV8 dc8 pm8 an8 cd8 ct8), sl8⟩) (c8 : PySem.W.codeIn K cd8 "_law_cell_at" = true) (k8 : PySem.W.keepIn K (.ref f8) = true)
    (a9 : PySem.W.nsIn K mainGlobals "_law_mixed" = some (some (.ref f9))) (l9 : K.lookup f9 = some ⟨oc9, od9, .func (PySem.W.fnOf "_law_mixed" "_law_mixed" (defArgs s_Lmixed) (defBody s_Lmixed) (defScope s_Lmixed) .none kV9 dc9 pm9 an9 cd9 ct9), sl9⟩) (c9 : PySem.W.codeIn K cd9 "_law_mixed" = true) (k9 : PySem.W.keepIn K (.ref f9) = true)
    (a10 : PySem.W.nsIn K mainGlobals "_law_great" = some (some (.ref f10))) (l10 : K.lookup f10 = some ⟨oc10, od10, .func (PySem.W.fnOf "_law_great" "_law_great" (defArgs s_Lgreat) (defBody s_Lgreat) (defScope s_Lgreat) .none kV10 dc10 pm10 an10 cd10 ct10), sl10⟩) (c10 : PySem.W.codeIn K cd10 "_law_great" = true) (k10 : PySem.W.keepIn K (.ref f10) = true)
    (a11 : PySem.W.nsIn K mainGlobals "_law_signs" = some (some (.ref f11))) (l11 : K.lookup f11 = some ⟨oc11, od11, .func (PySem.W.fnOf "_law_signs" "_law_signs" (defArgs s_Lsigns) (defBody s_Lsigns) (defScope s_Lsigns) .none kV11 dc11 pm11 an11 cd11 ct11), sl11⟩) (c11 : PySem.W.codeIn K cd11 "_law_signs" = true) (k11 : PySem.W.keepIn K (.ref f11) = true)
    (a12 : PySem.W.nsIn K mainGlobals "_law_text" = some (some (.ref f12))) (l12 : K.lookup f12 = some ⟨oc12, od12, .func (PySem.W.fnOf "_law_text" "_law_text" (defArgs s_Ltext) (defBody s_Ltext) (defScope s_Ltext) .none kV12 dc12 pm12 an12 cd12 ct12), sl12⟩) (c12 : PySem.W.codeIn K cd12 "_law_text" = true) (k12 : PySem.W.keepIn K (.ref f12) = true)
    (a13 : PySem.W.nsIn K mainGlobals "_law_odd" = some (some (.ref f13))) (l13 : K.lookup f13 = some ⟨oc13, od13, .func (PySem.W.fnOf "_law_odd" "_law_odd" (defArgs s_Lodd) (defBody s_Lodd) (defScope s_Lodd) .none kV13 dc13 pm13 an13 cd13 ct13), sl13⟩) (c13 : PySem.W.codeIn K cd13 "_law_odd" = true) (k13 : PySem.W.keepIn K (.ref f13) = true)
    (a14 : PySem.W.nsIn K mainGlobals "_law_is_name" = some (some (.ref f14))) (l14 : K.lookup f14 = some ⟨oc14, od14, .func (PySem.W.fnOf "_law_is_name" "_law_is_name" (defArgs s_Lis_name) (defBody s_Lis_name) (defScope s_Lis_name) .none kV14 dc14 pm14 an14 cd14 ct14), sl14⟩) (c14 : PySem.W.codeIn K cd14 "_law_is_name" = true) (k14 : PySem.W.keepIn K (.ref f14) = true)
    (a15 : PySem.W.nsIn K mainGlobals "_law_number_of" = some (some (.ref f15))) (l15 : K.lookup f15 = some ⟨oc15, od15, .func (PySem.W.fnOf "_law_number_of" "_law_number_of" (defArgs s_Lnumber_of) (defBody s_Lnumber_of) (defScope s_Lnumber_of) .none kV15 dc15 pm15 an15 cd15 ct15), sl15⟩) (c15 : PySem.W.codeIn K cd15 "_law_number_of" = true) (k15 : PySem.W.keepIn K (.ref f15) = true)
    (a16 : PySem.W.nsIn K mainGlobals "_law_alike" = some (some (.ref f16))) (l16 : K.lookup f16 = some ⟨oc16, od16, .func (PySem.W.fnOf "_law_alike" "_law_alike" (defArgs s_Lalike) (defBody s_Lalike) (defScope s_Lalike) .none kV16 dc16 pm16 an16 cd16 ct16), sl16⟩) (c16 : PySem.W.codeIn K cd16 "_law_alike" = true) (k16 : PySem.W.keepIn K (.ref f16) = true)
    (a17 : PySem.W.nsIn K mainGlobals "_law_asked" = some (some (.ref f17))) (l17 : K.lookup f17 = some ⟨oc17, od17, .func (PySem.W.fnOf "_law_asked" "_law_asked" (defArgs s_Lasked) (defBody s_Lasked) (defScope s_Lasked) .none kV17 dc17 pm17 an17 cd17 ct17), sl17⟩) (c17 : PySem.W.codeIn K cd17 "_law_asked" = true) (k17 : PySem.W.keepIn K (.ref f17) = true)
    (a18 : PySem.W.nsIn K mainGlobals "_law_number_good" = some (some (.ref f18))) (l18 : K.lookup f18 = some ⟨oc18, od18, .func (PySem.W.fnOf "_law_number_good" "_law_number_good" (defArgs s_Lnumber_good) (defBody s_Lnumber_good) (defScope s_Lnumber_good) .none kV18 dc18 pm18 an18 cd18 ct18), sl18⟩) (c18 : PySem.W.codeIn K cd18 "_law_number_good" = true) (k18 : PySem.W.keepIn K (.ref f18) = true)
    (a19 : PySem.W.nsIn K mainGlobals "_law_line" = some (some (.ref f19))) (l19 : K.lookup f19 = some ⟨oc19, od19, .func (PySem.W.fnOf "_law_line" "_law_line" (defArgs s_Lline) (defBody s_Lline) (defScope s_Lline) .none kV19 dc19 pm19 an19 cd19 ct19), sl19⟩) (c19 : PySem.W.codeIn K cd19 "_law_line" = true) (k19 : PySem.W.keepIn K (.ref f19) = true)
    (a20 : PySem.W.nsIn K mainGlobals "_law_line_good" = some (some (.ref f20))) (l20 : K.lookup f20 = some ⟨oc20, od20, .func (PySem.W.fnOf "_law_line_good" "_law_line_good" (defArgs s_Lline_good) (defBody s_Lline_good) (defScope s_Lline_good) .none kV20 dc20 pm20 an20 cd20 ct20), sl20⟩) (c20 : PySem.W.codeIn K cd20 "_law_line_good" = true) (k20 : PySem.W.keepIn K (.ref f20) = true)
    (a21 : PySem.W.nsIn K mainGlobals "law" = some (some (.ref f21))) (l21 : K.lookup f21 = some ⟨oc21, od21, .func (PySem.W.fnOf "law" "law" (defArgs s_law) (defBody s_law) (defScope s_law) .none kV21 dc21 pm21 an21 cd21 ct21), sl21⟩) (c21 : PySem.W.codeIn K cd21 "law" = true) (k21 : PySem.W.keepIn K (.ref f21) = true) :
    ∃ fd : FuncData, (∀ (s : Shared) (v : Value), BindsTo s fd ⟨[v], []⟩ [("_law_script", v)]) ∧ ∀ base : Heap, K.In base → base.Ns mainGlobals mg → FnOk l.prog w K mg base L2.CX0 4 fa fd ["_law_script"] (sp_law K) := by
  have F1 := L2.fun_mk (st := s_is_whole) l1 c1 k1
  have D_is_whole : Df K mg "is_whole" s_is_whole ["thing"] := ⟨⟨_, _, F1, PySem.W.mg_of X G a1, F1.binds fun _ _ _ _ _ _ us hl => match us, hl with | [_], _ => rfl⟩⟩
  have F2 := L2.fun_mk (st := s_is_among) l2 c2 k2
  have D_is_among : Df K mg "is_among" s_is_among ["thing", "least", "most"] := ⟨⟨_, _, F2, PySem.W.mg_of X G a2, F2.binds fun _ _ _ _ _ _ us hl => match us, hl with | [_, _, _], _ => rfl⟩⟩
  have F3 := L2.fun_mk (st := s_are_signs) l3 c3 k3
  have D_are_signs : Df K mg "are_signs" s_are_signs ["text", "signs"] := ⟨⟨_, _, F3, PySem.W.mg_of X G a3, F3.binds fun _ _ _ _ _ _ us hl => match us, hl with | [_, _], _ => rfl⟩⟩
  have F4 := L2.fun_mk (st := s_is_name) l4 c4 k4
  have D_is_name : Df K mg "is_name" s_is_name ["thing"] := ⟨⟨_, _, F4, PySem.W.mg_of X G a4, F4.binds fun _ _ _ _ _ _ us hl => match us, hl with | [_], _ => rfl⟩⟩
  have F5 := L2.fun_mk (st := s_number_text) l5 c5 k5
  have D_number_text : Df K mg "number_text" s_number_text ["number"] := ⟨⟨_, _, F5, PySem.W.mg_of X G a5, F5.binds fun _ _ _ _ _ _ us hl => match us, hl with | [_], _ => rfl⟩⟩
  have F6 := L2.fun_mk (st := s_number_of) l6 c6 k6
  have D_number_of : Df K mg "number_of" s_number_of ["word"] := ⟨⟨_, _, F6, PySem.W.mg_of X G a6, F6.binds fun _ _ _ _ _ _ us hl => match us, hl with | [_], _ => rfl⟩⟩
  have F7 := L2.fun_mk (st := s_words_of) l7 c7 k7
  have D_words_of : Df K mg "words_of" s_words_of ["line"] := ⟨⟨_, _, F7, PySem.W.mg_of X G a7, F7.binds fun _ _ _ _ _ _ us hl => match us, hl with | [_], _ => rfl⟩⟩
  have F8 := L2.fun_mk (st := s_Lcell_at) l8 c8 k8
  have D_Lcell_at : Df K mg "_law_cell_at" s_Lcell_at ["_law_script", "_law_k"] := ⟨⟨_, _, F8, PySem.W.mg_of X G a8, F8.binds fun _ _ _ _ _ _ us hl => match us, hl with | [_, _], _ => rfl⟩⟩
  have F9 := L2.fun_mk (st := s_Lmixed) l9 c9 k9
  have D_Lmixed : Df K mg "_law_mixed" s_Lmixed ["_law_cell", "_law_k"] := ⟨⟨_, _, F9, PySem.W.mg_of X G a9, F9.binds fun _ _ _ _ _ _ us hl => match us, hl with | [_, _], _ => rfl⟩⟩
  have F10 := L2.fun_mk (st := s_Lgreat) l10 c10 k10
  have D_Lgreat : Df K mg "_law_great" s_Lgreat ["_law_cell", "_law_k"] := ⟨⟨_, _, F10, PySem.W.mg_of X G a10, F10.binds fun _ _ _ _ _ _ us hl => match us, hl with | [_, _], _ => rfl⟩⟩
  have F11 := L2.fun_mk (st := s_Lsigns) l11 c11 k11
  have D_Lsigns : Df K mg "_law_signs" s_Lsigns [] := ⟨⟨_, _, F11, PySem.W.mg_of X G a11, F11.binds fun _ _ _ _ _ _ us hl => match us, hl with | [], _ => rfl⟩⟩
  have F12 := L2.fun_mk (st := s_Ltext) l12 c12 k12
  have D_Ltext : Df K mg "_law_text" s_Ltext ["_law_cell"] := ⟨⟨_, _, F12, PySem.W.mg_of X G a12, F12.binds fun _ _ _ _ _ _ us hl => match us, hl with | [_], _ => rfl⟩⟩
  have F13 := L2.fun_mk (st := s_Lodd) l13 c13 k13
  have D_Lodd : Df K mg "_law_odd" s_Lodd ["_law_cell"] := ⟨⟨_, _, F13, PySem.W.mg_of X G a13, F13.binds fun _ _ _ _ _ _ us hl => match us, hl with | [_], _ => rfl⟩⟩
  have F14 := L2.fun_mk (st := s_Lis_name) l14 c14 k14
  have D_Lis_name : Df K mg "_law_is_name" s_Lis_name ["_law_thing"] := ⟨⟨_, _, F14, PySem.W.mg_of X G a14, F14.binds fun _ _ _ _ _ _ us hl => match us, hl with | [_], _ => rfl⟩⟩
  have F15 := L2.fun_mk (st := s_Lnumber_of) l15 c15 k15
  have D_Lnumber_of : Df K mg "_law_number_of" s_Lnumber_of ["_law_word"] := ⟨⟨_, _, F15, PySem.W.mg_of X G a15, F15.binds fun _ _ _ _ _ _ us hl => match us, hl with | [_], _ => rfl⟩⟩
  have F16 := L2.fun_mk (st := s_Lalike) l16 c16 k16
  have D_Lalike : Df K mg "_law_alike" s_Lalike ["_law_found", "_law_due"] := ⟨⟨_, _, F16, PySem.W.mg_of X G a16, F16.binds fun _ _ _ _ _ _ us hl => match us, hl with | [_, _], _ => rfl⟩⟩
  have F17 := L2.fun_mk (st := s_Lasked) l17 c17 k17
  have D_Lasked : Df K mg "_law_asked" s_Lasked ["_law_way", "_law_thing", "_law_least", "_law_most"] := ⟨⟨_, _, F17, PySem.W.mg_of X G a17, F17.binds fun _ _ _ _ _ _ us hl => match us, hl with | [_, _, _, _], _ => rfl⟩⟩
  have F18 := L2.fun_mk (st := s_Lnumber_good) l18 c18 k18
  have D_Lnumber_good : Df K mg "_law_number_good" s_Lnumber_good ["_law_number"] := ⟨⟨_, _, F18, PySem.W.mg_of X G a18, F18.binds fun _ _ _ _ _ _ us hl => match us, hl with | [_], _ => rfl⟩⟩
  have F19 := L2.fun_mk (st := s_Lline) l19 c19 k19
  have D_Lline : Df K mg "_law_line" s_Lline ["_law_script"] := ⟨⟨_, _, F19, PySem.W.mg_of X G a19, F19.binds fun _ _ _ _ _ _ us hl => match us, hl with | [_], _ => rfl⟩⟩
  have F20 := L2.fun_mk (st := s_Lline_good) l20 c20 k20
  have D_Lline_good : Df K mg "_law_line_good" s_Lline_good ["_law_line_here"] := ⟨⟨_, _, F20, PySem.W.mg_of X G a20, F20.binds fun _ _ _ _ _ _ us hl => match us, hl with | [_], _ => rfl⟩⟩
  have e := hfa.symm.trans (PySem.W.mg_of X G a21)
  cases e
  have T : Txt mg := ⟨PySem.W.mg_none_of X G z_isinstance, PySem.W.mg_none_of X G z_len, PySem.W.mg_none_of X G z_int, PySem.W.mg_none_of X G z_bool, PySem.W.mg_none_of X G z_str, PySem.W.mg_none_of X G z_all, PySem.W.mg_none_of X G z_range, PySem.W.mg_none_of X G z_max, PySem.W.mg_none_of X G z_min, PySem.W.mg_none_of X G z_abs, PySem.W.mg_none_of X G z_zip, PySem.W.mg_none_of X G z_list, PySem.W.mg_none_of X G z_reversed, ⟨_, PySem.W.mg_of X G g_LETTERS, ⟨_, rfl⟩⟩, ⟨_, PySem.W.mg_of X G g_FIGURES, ⟨_, rfl⟩⟩, ⟨_, PySem.W.mg_of X G g_MOST_LETTERS, ⟨_, rfl⟩⟩, ⟨_, PySem.W.mg_of X G g_MOST_FIGURES, ⟨_, rfl⟩⟩⟩
  refine ⟨PySem.W.fnOf "law" "law" (defArgs s_law) (defBody s_law) (defScope s_law) .none kV21 dc21 pm21 an21 cd21 ct21, fun s v => .of_eq rfl, fun base _ _ => ?_⟩
  have c_is_whole := c_is_whole (P := l.prog) (w := w) (base := base) T D_is_whole
  have c_is_among := c_is_among (P := l.prog) (w := w) (base := base) T D_is_among c_is_whole
  have c_are_signs := c_are_signs (P := l.prog) (w := w) (base := base) T D_are_signs
  have c_is_name := c_is_name (P := l.prog) (w := w) (base := base) T D_is_name c_are_signs
  have c_number_text := c_number_text (P := l.prog) (w := w) (base := base) T D_number_text
  have c_number_of := c_number_of (P := l.prog) (w := w) (base := base) T D_number_of c_are_signs
  have c_words_of := c_words_of (P := l.prog) (w := w) (base := base) T D_words_of
  have c_Lcell_at := c_Lcell_at (P := l.prog) (w := w) (base := base) T D_Lcell_at
  have c_Lmixed := c_Lmixed (P := l.prog) (w := w) (base := base) D_Lmixed
  have c_Lgreat := c_Lgreat (P := l.prog) (w := w) (base := base) T D_Lgreat c_Lmixed
  have c_Lsigns := c_Lsigns (P := l.prog) (w := w) (base := base) D_Lsigns
  have c_Ltext := c_Ltext (P := l.prog) (w := w) (base := base) T D_Ltext c_Lmixed c_Lsigns
  have c_Lodd := c_Lodd (P := l.prog) (w := w) (base := base) T D_Lodd
  have c_Lis_name := c_Lis_name (P := l.prog) (w := w) (base := base) T D_Lis_name
  have c_Lnumber_of := c_Lnumber_of (P := l.prog) (w := w) (base := base) T D_Lnumber_of
  have c_Lalike := c_Lalike (P := l.prog) (w := w) (base := base) T D_Lalike
  have c_Lasked := c_Lasked (P := l.prog) (w := w) (base := base) T D_Lasked c_is_whole c_is_among c_is_name c_number_of c_Lis_name c_Lnumber_of c_Lalike
  have c_Lnumber_good := c_Lnumber_good (P := l.prog) (w := w) (base := base) T D_Lnumber_good c_number_text c_number_of c_Lalike
  have c_Lline := c_Lline (P := l.prog) (w := w) (base := base) T D_Lline c_Lcell_at c_Lmixed c_Ltext
  have c_Lline_good := c_Lline_good (P := l.prog) (w := w) (base := base) T D_Lline_good c_words_of
  exact ok_law T (L2.fun_mk l21 c21 k21) c_Lline_good c_Lline c_words_of c_Lodd c_Lcell_at c_Lmixed c_Lgreat c_Ltext c_Lasked c_Lnumber_good
end T
set_option maxHeartbeats 0 in
theorem PySem.Challenge.cw_flowhall_k01_words_and_numbers_holds : PySem.Challenge.rw_flowhall_k01_words_and_numbers.Holds := by
  w_on; o_law; k_head; (case hw => w_witness2)
  k_fill
  refine L2.walk_ofB (l := PySem.Challenge.rw_flowhall_k01_words_and_numbers) (n := 63) (k := 4) (x := "_law_script") (CX := fun _ => L2.CX0) (sp := fun w => T.sp_law _) rfl (by decide) rfl ⟨rfl, by decide, by decide⟩ (fun w h Y => PySem.W.kIn_of Y) ?F (fun _ _ a ns hl hb _ hS => ⟨a, ns, rfl, hS, ⟨1048576, by decide, fun i hi => Nat.lt_of_lt_of_le (PyProof.Rows.natAbs_lt_pow_bits i) (Nat.pow_le_pow_right (by decide) (hb i hi))⟩, fun _ _ => rfl⟩) (fun _ _ _ _ _ z => z)
  case F =>
    intro w mg fa h KX G hmg
    refine' T.all_mk KX G hmg ?z_isinstance ?z_len ?z_int ?z_bool ?z_str ?z_all ?z_range ?z_max ?z_min ?z_abs ?z_zip ?z_list ?z_reversed ?g_LETTERS ?g_FIGURES ?g_MOST_LETTERS ?g_MOST_FIGURES ?a1 ?l1 ?c1 ?k1 ?a2 ?l2 ?c2 ?k2 ?a3 ?l3 ?c3 ?k3 ?a4 ?l4 ?c4 ?k4 ?a5 ?l5 ?c5 ?k5 ?a6 ?l6 ?c6 ?k6 ?a7 ?l7 ?c7 ?k7 ?a8 ?l8 ?c8 ?k8 ?a9 ?l9 ?c9 ?k9 ?a10 ?l10 ?c10 ?k10 ?a11 ?l11 ?c11 ?k11 ?a12 ?l12 ?c12 ?k12 ?a13 ?l13 ?c13 ?k13 ?a14 ?l14 ?c14 ?k14 ?a15 ?l15 ?c15 ?k15 ?a16 ?l16 ?c16 ?k16 ?a17 ?l17 ?c17 ?k17 ?a18 ?l18 ?c18 ?k18 ?a19 ?l19 ?c19 ?k19 ?a20 ?l20 ?c20 ?k20 ?a21 ?l21 ?c21 ?k21
    (case z_isinstance => k_is)
    (case z_len => k_is)
    (case z_int => k_is)
    (case z_bool => k_is)
    (case z_str => k_is)
    (case z_all => k_is)
    (case z_range => k_is)
    (case z_max => k_is)
    (case z_min => k_is)
    (case z_abs => k_is)
    (case z_zip => k_is)
    (case z_list => k_is)
    (case z_reversed => k_is)
    (case g_LETTERS => k_is)
    (case g_FIGURES => k_is)
    (case g_MOST_LETTERS => k_is)
    (case g_MOST_FIGURES => k_is)
    (case a1 => k_is)
    (case l1 => k_is)
    (case c1 => k_is)
    (case k1 => k_is)
    (case a2 => k_is)
    (case l2 => k_is)
    (case c2 => k_is)
    (case k2 => k_is)
    (case a3 => k_is)
    (case l3 => k_is)
    (case c3 => k_is)
    (case k3 => k_is)
    (case a4 => k_is)
    (case l4 => k_is)
    (case c4 => k_is)
    (case k4 => k_is)
    (case a5 => k_is)
    (case l5 => k_is)
    (case c5 => k_is)
    (case k5 => k_is)
    (case a6 => k_is)
    (case l6 => k_is)
    (case c6 => k_is)
    (case k6 => k_is)
    (case a7 => k_is)
    (case l7 => k_is)
    (case c7 => k_is)
    (case k7 => k_is)
    (case a8 => k_is)
    (case l8 => k_is)
    (case c8 => k_is)
    (case k8 => k_is)
    (case a9 => k_is)
    (case l9 => k_is)
    (case c9 => k_is)
    (case k9 => k_is)
    (case a10 => k_is)
    (case l10 => k_is)
    (case c10 => k_is)
    (case k10 => k_is)
    (case a11 => k_is)
    (case l11 => k_is)
    (case c11 => k_is)
    (case k11 => k_is)
    (case a12 => k_is)
    (case l12 => k_is)
    (case c12 => k_is)
    (case k12 => k_is)
    (case a13 => k_is)
    (case l13 => k_is)
    (case c13 => k_is)
    (case k13 => k_is)
    (case a14 => k_is)
    (case l14 => k_is)
    (case c14 => k_is)
    (case k14 => k_is)
    (case a15 => k_is)
    (case l15 => k_is)
    (case c15 => k_is)
    (case k15 => k_is)
    (case a16 => k_is)
    (case l16 => k_is)
    (case c16 => k_is)
    (case k16 => k_is)
    (case a17 => k_is)
    (case l17 => k_is)
    (case c17 => k_is)
    (case k17 => k_is)
    (case a18 => k_is)
    (case l18 => k_is)
    (case c18 => k_is)
    (case k18 => k_is)
    (case a19 => k_is)
    (case l19 => k_is)
    (case c19 => k_is)
    (case k19 => k_is)
    (case a20 => k_is)
    (case l20 => k_is)
    (case c20 => k_is)
    (case k20 => k_is)
    (case a21 => k_is)
    (case l21 => k_is)
    (case c21 => k_is)
    (case k21 => k_is)

