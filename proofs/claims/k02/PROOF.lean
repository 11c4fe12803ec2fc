import PyProof.Rows.All
import Wide.All
import OpenK.AllK
import Wide.FinOn
import HandS.ForMost
import HandS.IsInst
import HandS.Codes
import HandS.WideBits
import HandS.TupAny
import HandS.SortInts
import HandS.StrMore
import HandS.Walk
import HandS.EndBits
import HandS.More
import HandS.Zip
import PyProof.StrBlock2
import HandS.Rev
import PyProof.JoinWalk
import HandS.CallSlots
import HandS.Defaults
import HandS.DictComp
import HandS.DictEq
import HandS.Style
import HandS.WordsExc
import PySem.Challenge.RW_flowhall_k02_nets_by_deeds
set_option Elab.async false
set_option linter.all false
set_option maxRecDepth 100000
namespace M
open PySem PySem.Spec PyProof.Rows L2

/-! ### defs that may be called -/
section
variable {P : Program} {w : World} {K : PySem.W.Frag} {mg : Str → Option Value} {base : Heap}
/-- a def of the module's text, under its name -/
structure Df (K : PySem.W.Frag) (mg : Str → Option Value) (x : Str) (st : Stmt) (ps : List Str) : Prop where
  ex : ∃ (f : Addr) (fd : FuncData), L2.Fun K x x st f fd ∧ mg x = some (.ref f) ∧ L2.Binds K fd ps []
/-- a def that keeps its promise when called by its name -/
structure Cal (P : Program) (w : World) (K : PySem.W.Frag) (mg : Str → Option Value) (base : Heap) (k : Nat) (x : Str) (sp : Sp) : Prop where
  ex : ∃ (f : Addr) (fd : FuncData) (ps : List Str), FnOk P w K mg base L2.CX0 k f fd ps sp ∧ mg x = some (.ref f) ∧ PySem.W.keepIn K (.ref f) = true ∧ Binds K fd ps []
theorem cal_of {x : Str} {st : Stmt} {N ps : List Str} {k : Nat} {sp : Sp} (D : Df K mg x st ps) (S : FnScope N ps (L2.defScope st)) (len : ∀ vs H Q E, sp vs H Q E → vs.length = ps.length)
    (hbody : ∀ (f : Addr) (cdv : Value) (A : Around) (outer : List Env) (s : Shared) (H : Hp) (vs : List V) (Q : VK) (E : XK), Room k (A.deeper (envOfC x (L2.defScope st) s.heap.objs.size f cdv)) → sp vs H Q E →
      ∃ t, PSs (cxOf L2.CX0 P w K mg base N x (L2.defScope st) f cdv A outer s H E).nox (L2.defBody st) t ∧ t { nx := fun _ H' => Q .non H', rt := Q } (start N vs) H) : Cal P w K mg base (k + 1) x sp := by
  obtain ⟨f, fd, F, hm, hb⟩ := D.ex
  exact ⟨f, fd, ps, F.ok S len (fun cdv A outer s H vs Q E hr h => hbody f cdv A outer s H vs Q E hr h), hm, F.kp, hb⟩
end
section
variable {X : Cx} {k j : Nat} {C : Addr} {x m : Str} {sp : Sp} {p pos apos : Pos} {e o : Expr} {es : List Expr} {ta : TE} {t : TA}
theorem m_c (c : Cal X.prog X.w X.K X.mg X.base k x sp) (hr : Room j X.A) (hk : k ≤ j) (hg : Gl X x) (ha : PA X (e :: es) t)
    (hdb : (x == ("__debug__" : Str)) = false := by decide) (he : starEach (e :: es) X.env = (false, eval e X.env) :: starEach es X.env := by rfl) (hpl : (backTo pos (starEach es X.env)).any (·.1) = false := by rfl) :
    PE X (.Call (.Name x p) (e :: es) [] pos) (tCall sp [] L2.E0 t) := by
  obtain ⟨f, fd, ps, F, hm, kp, b⟩ := c.ex
  exact pe_call F (hr.mono hk) hg hm kp b .nil L2.pass0 ha hdb he hpl
theorem m_c0 (c : Cal X.prog X.w X.K X.mg X.base k x sp) (hr : Room j X.A) (hk : k ≤ j) (hg : Gl X x)
    (hdb : (x == ("__debug__" : Str)) = false := by decide) :
    PE X (.Call (.Name x p) [] [] pos) (tCall sp [] L2.E0 tNil) := by
  obtain ⟨f, fd, ps, F, hm, kp, b⟩ := c.ex
  exact pe_call0 F (hr.mono hk) hg hm kp b .nil L2.pass0 hdb
theorem pe_gc {v : V} (hg : Gl X x) (h : ∃ u, X.mg x = some u ∧ RelV v u) (hd : (x == ("__debug__" : Str)) = false := by decide) : PE X (.Name x pos) (tC v) := by
  obtain ⟨u, e, r⟩ := h
  exact pe_glob hg e r hd
end

/-! ### more operators -/
section
variable {X : Cx}
def CPowW (i j : Int) : Prop := 0 ≤ j ∧ (Builtin.Int.intBits i : Int) * j ≤ 2 ^ 27
theorem op_powW : OpR X (binaryOp .Pow) (rI CPowW fun i j => .int (i ^ j.toNat)) := opI fun _ _ _ _ _ _ _ hc q => pow_int hc.1 hc.2 q
end
end M

namespace M
open PySem PySem.Spec PyProof.Rows L2
/-! ### steps of a reading -/
def NewL (xs : List V) (H : Hp) (Q : VK) : Prop := xs.length ≤ sizeLine ∧ ∀ p, H p = none → Q (.ref p) (upd H p (.lst xs))
def NewT (xs : List V) (H : Hp) (Q : VK) : Prop := xs.length ≤ sizeLine ∧ ∀ p, H p = none → Q (.ref p) (upd H p (.tup xs))
section
variable {K : PySem.W.Frag} {σ : L2.St} {H H' : Hp} {Q : VK} {ta tb tc te : TE} {c d : TT} {v x y : V} {D : Ends} {t u : TS} {i : Nat}
theorem t_var (h : σ[i]? = some (some v)) (q : Q v H) : tVar i σ H Q := ⟨v, h, q⟩
theorem t_cst (q : Q v H) : tC v σ H Q := q
theorem t_op {r : R2} (h : ta σ H fun x H1 => tb σ H1 fun y H2 => r x y H2 Q) : tOp r ta tb σ H Q := h
theorem t_un {r : V → Hp → VK → Prop} (h : ta σ H fun x H1 => r x H1 Q) : tUn r ta σ H Q := h
theorem t_chain {r r' : R2} (h : ta σ H fun x H1 => tb σ H1 fun y H2 => r x y H2 fun z H3 => ∃ k, z = .bl k ∧ (if k = true then tc σ H3 fun w' H4 => r' y w' H4 Q else Q (.bl false) H3)) : tChain r r' ta tb tc σ H Q := h
theorem t_cb {r : List V → Hp → VK → Prop} {t : TA} (h : t σ H fun vs H1 => r vs H1 Q) : tCB r t σ H Q := h
theorem t_call {sp : Sp} {E : XK} {t : TA} (h : t σ H fun vs H1 => sp (vs ++ []) H1 Q E) : tCall sp [] E t σ H Q := h
theorem t_nil {Q : List V → Hp → Prop} (h : Q [] H) : tNil σ H Q := h
theorem t_cons {Q : List V → Hp → Prop} {tr : TA} (h : ta σ H fun x H1 => tr σ H1 fun xs H2 => Q (x :: xs) H2) : tCons ta tr σ H Q := h
theorem t_ret (h : te σ H D.rt) : tRet te D σ H := h
theorem t_retN (h : D.rt .non H) : tRetN D σ H := h
theorem t_asg {g : TG} (h : te σ H fun x H1 => g x σ H1 D.nx) : tAsg te g D σ H := h
theorem t_gname {Q : L2.St → Hp → Prop} (h : Q (σ.set i (some v)) H) : gName i v σ H Q := h
theorem t_seq (h : t { D with nx := u D } σ H) : tSeq t u D σ H := h
theorem t_cut (Mid : L2.St → Hp → Prop) (h1 : t { D with nx := Mid } σ H) (h2 : ∀ σ' H', Mid σ' H' → u D σ' H') : C8.tCut t u D σ H := ⟨Mid, h1, h2⟩
theorem t_lst0 {t : TA} (h : t σ H fun xs H1 => NewL xs H1 Q) : tLst t σ H Q := h
theorem t_tup0 {t : TA} (h : t σ H fun xs H1 => NewT xs H1 Q) : tTup t σ H Q := h
theorem k_newL {xs : List V} (h : xs.length ≤ sizeLine) (k : ∀ p, H p = none → Q (.ref p) (upd H p (.lst xs))) : NewL xs H Q := ⟨h, k⟩
theorem k_newT {xs : List V} (h : xs.length ≤ sizeLine) (k : ∀ p, H p = none → Q (.ref p) (upd H p (.tup xs))) : NewT xs H Q := ⟨h, k⟩
theorem t_rU {g : Int → V} {i : Int} (q : Q (g i) H) : rU g (.int i) H Q := ⟨i, rfl, q⟩
theorem k_dnew (k : ∀ p, H p = none → Q (.ref p) (upd H p (.dK []))) : tDNewK σ H Q := k
theorem t_next (h : D.nx σ H) : tNext D σ H := h
theorem t_ifs (h : c σ H fun b H1 => if b = true then t D σ H1 else u D σ H1) : tIfS c t u D σ H := h
theorem t_drop (h : te σ H fun _ H1 => D.nx σ H1) : tDrop te D σ H := h
theorem t_test {Q : Bool → Hp → Prop} (h : te σ H fun x H' => ∃ k, x = .bl k ∧ Q k H') : tTest te σ H Q := h
theorem t_B {Q : Bool → Hp → Prop} (h : te σ H fun x H' => ∃ k, x = .bl k ∧ Q k H') : tB te σ H Q := h
theorem t_not {Q : Bool → Hp → Prop} (h : c σ H fun b H1 => Q (!b) H1) : tNot c σ H Q := h
theorem t_and {Q : Bool → Hp → Prop} (h : c σ H fun b H1 => if b = true then d σ H1 Q else Q false H1) : tAnd c d σ H Q := h
theorem t_or {Q : Bool → Hp → Prop} (h : c σ H fun b H1 => if b = true then Q true H1 else d σ H1 Q) : tOr c d σ H Q := h
theorem t_andV (h : ta σ H fun x H1 => ∃ c, x = .bl c ∧ if c = true then tb σ H1 Q else Q (.bl false) H1) : tAndV ta tb σ H Q := h
theorem t_orV (h : ta σ H fun x H1 => ∃ c, x = .bl c ∧ if c = true then Q (.bl true) H1 else tb σ H1 Q) : tOrV ta tb σ H Q := h
theorem t_notV (h : ta σ H fun x H1 => ∃ c, x = .bl c ∧ Q (.bl (!c)) H1) : tNotV ta σ H Q := h
theorem t_if (h : c σ H fun b H1 => if b = true then ta σ H1 Q else tb σ H1 Q) : tIf c ta tb σ H Q := h
theorem t_par {ta : TA} {i j : Nat} (h : ta σ H fun vs H1 => ∃ v w, vs = [v, w] ∧ D.nx ((σ.set i (some v)).set j (some w)) H1) : tPar i j ta D σ H := h
theorem t_sl {r : V → Option Int → Option Int → Hp → VK → Prop} {tl th : TO} (h : te σ H fun x H1 => tl σ H1 fun l H2 => th σ H2 fun u H3 => r x l u H3 Q) : tSl r te tl th σ H Q := h
theorem t_nopart {Q : Option Int → Hp → Prop} (h : Q none H) : tNoPart σ H Q := h
theorem t_part {Q : Option Int → Hp → Prop} (h : te σ H fun x H1 => ∃ i, x = .int i ∧ Q (some i) H1) : tPart te σ H Q := h
theorem t_bm0 {T : String} {r : V → List V → Hp → VK → Prop} (h : te σ H fun x H1 => tyV K T x H1 ∧ r x [] H1 Q) : tBM0 K T r te σ H Q := h
theorem t_bm {T : String} {r : V → List V → Hp → VK → Prop} {t : TA} (h : te σ H fun x H1 => tyV K T x H1 ∧ t σ H1 fun xs H2 => r x xs H2 Q) : tBM K T r te t σ H Q := h
theorem t_m1 {r : V → List V → Hp → VK → Prop} (h : ta σ H fun x H1 => (∃ a, x = .str a) ∧ te σ H1 fun y H2 => r x [y] H2 Q) : tM1 r ta te σ H Q := h
theorem t_m0 {r : V → List V → Hp → VK → Prop} (h : ta σ H fun x H1 => (∃ a, x = .str a) ∧ r x [] H1 Q) : tM0 r ta σ H Q := h
theorem t_rI0 {g : Int → Int → V} {i j : Int} (q : Q (g i j) H) : rI0 g (.int i) (.int j) H Q := ⟨i, j, rfl, rfl, q⟩
theorem t_rI {C : Int → Int → Prop} {g : Int → Int → V} {i j : Int} (h : C i j) (q : Q (g i j) H) : rI C g (.int i) (.int j) H Q := ⟨i, j, rfl, rfl, h, q⟩
theorem t_rEq (h : scal x y = true) (q : Q (.bl (decide (x = y))) H) : rEq x y H Q := ⟨h, q⟩
theorem t_rNe (h : scal x y = true) (q : Q (.bl (!decide (x = y))) H) : rNe x y H Q := ⟨h, q⟩
theorem same_new {p : Addr} {o : HO} (h : H p = none) : Same H (upd H p o) := fun b u e => by
  rw [upd_ne (ne_of_none e h)]
  exact e
/-! isinstance with a built-in type: the kinds are texts -/
/-- what kind a thing is -/
inductive Kd (K : PySem.W.Frag) (H : Hp) : V → String → Prop where
  | non : Kd K H .non "NoneType"
  | bl (b : Bool) : Kd K H (.bl b) "bool"
  | int (i : Int) : Kd K H (.int i) "int"
  | str (x : Str) : Kd K H (.str x) "str"
  | lst {a : Addr} {xs : List V} (e : H a = some (.lst xs)) : Kd K H (.ref a) "list"
  | tup {a : Addr} {xs : List V} (e : H a = some (.tup xs)) : Kd K H (.ref a) "tuple"
  | dK {a : Addr} {xs : List (Key × V)} (e : H a = some (.dK xs)) : Kd K H (.ref a) "dict"
theorem Kd.mono {x : V} {k : String} (s : Same H H') (h : Kd K H x k) : Kd K H' x k := by
  cases h with
  | non => exact .non
  | bl b => exact .bl b
  | int i => exact .int i
  | str x => exact .str x
  | lst e => exact .lst (s _ _ e)
  | tup e => exact .tup (s _ _ e)
  | dK e => exact .dK (s _ _ e)
theorem Kd.ty {x : V} {k : String} (h : Kd K H x k) : TyX K H x (.type k) := by
  cases h with
  | non => exact .base .non
  | bl b => exact .base (.bl b)
  | int i => exact .base (.int i)
  | str x => exact .base (.str x)
  | lst e => exact .base (.lst e)
  | tup e => exact .base (.tup e)
  | dK e => exact .base (.dK e)
theorem t_isi {k n : String} {b : Bool} (h : Kd K H x k) (e : kitB k n = some b) (q : Q (.bl b) H) : rIsi K [x, .ty n] H Q :=
  ⟨x, .ty n, .type k, .type n, b, rfl, .ty n, h.ty, kit_ty e, q⟩
theorem ifb {b : Bool} {A B : Prop} (h1 : b = true → A) (h2 : b = false → B) : if b = true then A else B := by
  cases b with
  | true => exact h1 rfl
  | false => exact h2 rfl
theorem ifT {b : Bool} {A B : Prop} (h : b = true) (h1 : A) : if b = true then A else B := by
  rw [if_pos h]
  exact h1
theorem ifF {b : Bool} {A B : Prop} (h : b = false) (h1 : B) : if b = true then A else B := by
  rw [if_neg (by rw [h]; decide)]
  exact h1
theorem CMulX_small {i j : Int} (h1 : -1000000000000000000000000000000000000000000000000000000000000000000000000000000000000 ≤ i) (h2 : i ≤ 1000000000000000000000000000000000000000000000000000000000000000000000000000000000000) (h3 : -1000000000000000000000000000000000000000000000000000000000000000000000000000000000000 ≤ j) (h4 : j ≤ 1000000000000000000000000000000000000000000000000000000000000000000000000000000000000) : CMulX i j :=
  mulx_ok (a := 300) (b := 300) (Nat.lt_of_le_of_lt (m := 1000000000000000000000000000000000000000000000000000000000000000000000000000000000000) (by omega) (by decide +kernel)) (Nat.lt_of_le_of_lt (m := 1000000000000000000000000000000000000000000000000000000000000000000000000000000000000) (by omega) (by decide +kernel)) (by decide)
theorem CDivW_small {i j : Int} (h1 : 0 < j) (h2 : j ≤ 1000000000000000000000000000000000000000000000000000000000000000000000000000000000000) : CDivW i j :=
  wide_div (b := 300) h1 (Nat.lt_of_le_of_lt (m := 1000000000000000000000000000000000000000000000000000000000000000000000000000000000000) (by omega) (by decide +kernel)) (by decide) (by decide)
/-! an expression, a test, whose value is told once: what follows is shown from P alone -/
def tCutE (te : TE) : TE := fun σ H Q => ∃ P : VK, te σ H P ∧ ∀ v H', P v H' → Q v H'
def tCutT (t : TT) : TT := fun σ H Q => ∃ P : Bool → Hp → Prop, t σ H P ∧ ∀ b H', P b H' → Q b H'
theorem m_pec {X : Cx} {e : Expr} {te : TE} (h : PE X e te) : PE X e (tCutE te) := ⟨fun pins s σ H Q I ⟨P, h1, h2⟩ =>
  thn (h.run pins s σ H P I h1) fun _ _ ⟨v, H', I', r, q⟩ => ⟨v, H', I', r, h2 v H' q⟩⟩
theorem m_ptc {X : Cx} {e : Expr} {t : TT} (h : PT X e t) : PT X e (tCutT t) := ⟨fun pins s σ H Q I ⟨P, h1, h2⟩ =>
  thn (h.run pins s σ H P I h1) fun b _ ⟨H', I', q⟩ => ⟨H', I', h2 b H' q⟩⟩
theorem k_E (P : VK) (h1 : te σ H P) (h2 : ∀ v H', P v H' → Q v H') : tCutE te σ H Q := ⟨P, h1, h2⟩
theorem k_T {Q : Bool → Hp → Prop} (P : Bool → Hp → Prop) (h1 : c σ H P) (h2 : ∀ b H', P b H' → Q b H') : tCutT c σ H Q := ⟨P, h1, h2⟩
theorem k_V (v : V) (h1 : te σ H fun x H' => x = v ∧ Same H H') (h2 : ∀ H', Same H H' → Q v H') : tCutE te σ H Q := ⟨_, h1, fun _ H' ⟨e, s⟩ => by rw [e]; exact h2 H' s⟩
theorem k_B {Q : Bool → Hp → Prop} (b : Bool) (h1 : c σ H fun x H' => x = b ∧ Same H H') (h2 : ∀ H', Same H H' → Q b H') : tCutT c σ H Q := ⟨_, h1, fun _ H' ⟨e, s⟩ => by rw [e]; exact h2 H' s⟩
end
end M

namespace M
open PySem PySem.Spec PyProof.Rows L2
/-! ### comprehensions, loops -/
/-- what a comprehension asks of an iterator -/
def LcJ (J : It) (H1 : Hp) (g : TG) (tt : TT) (te : TE) (vs : List Nat) (σ : L2.St) (Qd : Addr → Hp → Prop) : Prop := ∀ D, H1 D = none → ∃ W : Nat → Nat → Hp → Prop, (∃ m, W 0 m (upd H1 D (.lst []))) ∧ ∀ i m H, W i m H →
  (J.stop i H ∧ Qd D H) ∨ (J.go i H ∧ ∃ Nx : Hp → Prop, (∀ H', Nx H' → ∃ m', m' < m ∧ W (i + 1) m' H') ∧ ∀ x H', J.yld i H x H' → g x (wipe σ vs) H' fun σ2 H2 => wipe σ2 vs = wipe σ vs ∧ tt σ2 H2 fun b H3 =>
    if b = true then te σ2 H3 fun y H4 => ∃ acc, H4 D = some (.lst acc) ∧ acc.length < sizeLine ∧ Nx (upd H4 D (.lst (acc ++ [y]))) else Nx H3)
def ForJ (J : It) (σ : L2.St) (H1 : Hp) (g : TG) (tb : TS) (D : Ends) : Prop := ∃ W : Nat → Nat → L2.St → Hp → Prop, (∃ m, W 0 m σ H1) ∧ ∀ i m σ H, W i m σ H →
  (J.stop i H ∧ D.nx σ H) ∨ (J.go i H ∧ ∃ N : L2.St → Hp → Prop, (∀ σ' H', N σ' H' → ∃ m', m' < m ∧ W (i + 1) m' σ' H') ∧ ∀ x H', J.yld i H x H' → g x σ H' fun σ2 H2 => tb { D with nx := N, ct := N, bk := D.nx } σ2 H2)
section
variable {K : PySem.W.Frag} {σ : L2.St} {H H' : Hp} {Q : VK} {ta tb tc te : TE} {wi : TI} {g : TG} {tt : TT} {vs : List Nat} {D : Ends} {t u : TS} {J : It} {n : Nat} {G : Hp → Prop} {Y : Nat → Hp → V → Hp → Prop}
theorem t_lc (h : wi σ H fun J H1 => LcJ J H1 g tt te vs σ fun D H2 => Q (.ref D) H2) : tLc wi g tt te vs σ H Q := h
theorem t_for (h : wi σ H fun J H1 => ForJ J σ H1 g t D) : tFor wi g t D σ H := h
theorem forJ (w : Walk J n G Y) (Pv : Nat → L2.St → Hp → Prop) (h0 : Pv 0 σ H) (hG : ∀ i σ H, i ≤ n → Pv i σ H → G H)
    (hs : ∀ i x σ H H', i < n → Pv i σ H → Y i H x H' → g x σ H' fun σ2 H2 => t { D with nx := Pv (i + 1), ct := Pv (i + 1), bk := D.nx } σ2 H2) (hd : ∀ σ H, Pv n σ H → D.nx σ H) : ForJ J σ H g t D :=
  for_it w Pv h0 hG hs hd
theorem same_upd {H0 : Hp} {a : Addr} {o : HO} (s : Same H0 H) (n : H0 a = none) : Same H0 (upd H a o) := fun b u e => by
  rw [upd_ne (ne_of_none e n)]
  exact s b u e
/-- a comprehension whose items are known values: φ tells of each datum what comes of it -/
theorem lcJ_fm {α : Type} (w : Walk J n G Y) (ds : List α) (hn : n = ds.length) (φ : α → Option V) (hsz : ds.length < sizeLine) {Qd : Addr → Hp → Prop}
    (hG : ∀ H1, Same H H1 → G H1)
    (hs : ∀ (i : Nat) (d : α) (x : V) (H2 H3 : Hp) (Qy : V → Hp → Prop) (Qn : Hp → Prop), ds[i]? = some d → Same H H2 → Y i H2 x H3 → (∀ y H6, Same H2 H6 → φ d = some y → Qy y H6) → (∀ H6, Same H2 H6 → φ d = none → Qn H6) →
      g x (wipe σ vs) H3 fun σ2 H4 => wipe σ2 vs = wipe σ vs ∧ tt σ2 H4 fun b H5 => if b = true then te σ2 H5 Qy else Qn H5)
    (k : ∀ D H', H D = none → Same H H' → H' D = some (.lst (ds.filterMap φ)) → Qd D H') : LcJ J H g tt te vs σ Qd := by
  intro D hD
  have lenF : ∀ i, ((ds.take i).filterMap φ).length < sizeLine := fun i => by
    have h1 := List.length_filterMap_le φ (ds.take i)
    have h2 := List.length_take_le' i ds
    omega
  have stepF : ∀ i d, ds[i]? = some d → (ds.take (i + 1)).filterMap φ = (ds.take i).filterMap φ ++ (φ d).toList := fun i d hd => by
    rw [List.take_add_one, hd, List.filterMap_append]
    congr 1
  refine ⟨fun i m H2 => m = n - i ∧ i ≤ n ∧ Same H H2 ∧ H2 D = some (.lst ((ds.take i).filterMap φ)), ⟨n, by simp, Nat.zero_le _, same_new hD, upd_same⟩, ?_⟩
  rintro i m H2 ⟨rfl, hi, s2, hd⟩
  by_cases hlt : i < n
  · have hi2 : i < ds.length := by omega
    obtain ⟨d, ed⟩ : ∃ d, ds[i]? = some d := ⟨ds[i], List.getElem?_eq_getElem hi2⟩
    refine .inr ⟨w.goes i H2 hlt (hG H2 s2), fun H6 => Same H H6 ∧ H6 D = some (.lst ((ds.take (i + 1)).filterMap φ)), fun H6 h6 => ⟨n - (i + 1), by omega, rfl, hlt, h6.1, h6.2⟩, fun x H3 y => ?_⟩
    refine hs i d x H2 H3 _ _ ed s2 (w.yields i H2 x H3 hlt (hG H2 s2) y) (fun y H6 s6 ey => ?_) (fun H6 s6 ey => ?_)
    · refine ⟨_, s6 _ _ hd, lenF i, same_upd (s2.trans s6) hD, ?_⟩
      rw [upd_same, stepF i d ed, ey]
      rfl
    · refine ⟨s2.trans s6, ?_⟩
      rw [stepF i d ed, ey]
      show _ = some (HO.lst ((ds.take i).filterMap φ ++ []))
      rw [List.append_nil]
      exact s6 _ _ hd
  · have e : i = ds.length := by omega
    rw [e, List.take_length] at hd
    have e2 : i = n := by omega
    rw [e2]
    exact .inl ⟨w.stops H2 (hG H2 s2), k D H2 hD s2 hd⟩
/-- every item kept -/
theorem lcJ_map {α : Type} (w : Walk J n G Y) (ds : List α) (hn : n = ds.length) (f : α → V) (hsz : ds.length < sizeLine) {Qd : Addr → Hp → Prop}
    (hG : ∀ H1, Same H H1 → G H1)
    (hs : ∀ (i : Nat) (d : α) (x : V) (H2 H3 : Hp) (Qy : V → Hp → Prop), ds[i]? = some d → Same H H2 → Y i H2 x H3 → (∀ H6, Same H2 H6 → Qy (f d) H6) →
      g x (wipe σ vs) H3 fun σ2 H4 => wipe σ2 vs = wipe σ vs ∧ te σ2 H4 Qy)
    (k : ∀ D H', H D = none → Same H H' → H' D = some (.lst (ds.map f)) → Qd D H') : LcJ J H g tYes te vs σ Qd := by
  refine lcJ_fm w ds hn (fun d => some (f d)) hsz hG (fun i d x H2 H3 Qy Qn ed s2 y h1 h2 => ?_) (fun D H' hD s hd => k D H' hD s (by rw [hd, List.filterMap_eq_map']))
  exact hs i d x H2 H3 Qy ed s2 y (fun H6 s6 => h1 _ H6 s6 rfl)
/-- all but one address as they were -/
def SameBut (D : Addr) (H H' : Hp) : Prop := ∀ b o, b ≠ D → H b = some o → H' b = some o
theorem same_but {D : Addr} {H H' : Hp} (s : Same H H') : SameBut D H H' := fun b o _ e => s b o e
theorem SameBut.upd {D : Addr} {H : Hp} {o : HO} : SameBut D H (upd H D o) := fun b u n e => by
  rw [upd_ne n]
  exact e
theorem SameBut.trans {D : Addr} {H1 H2 H3 : Hp} (a : SameBut D H1 H2) (b : SameBut D H2 H3) : SameBut D H1 H3 := fun c o n e => b c o n (a c o n e)
theorem Paired.snoc {α β : Type} {F : α → β → Prop} {l : List α} {ys : List β} {d : α} {y : β} (p : Paired F l ys) (f : F d y) : Paired F (l ++ [d]) (ys ++ [y]) := by
  induction p with
  | nil => exact .cons f .nil
  | cons r _ ih => exact .cons r ih
/-- a comprehension whose items are told by a relation that lasts -/
theorem lcJ_rel {α : Type} (w : Walk J n G Y) (ds : List α) (hn : n = ds.length) (keep : α → Bool) (R : Addr → α → V → Hp → Prop) (hR : ∀ D d y H1 H2, SameBut D H1 H2 → R D d y H1 → R D d y H2) (hsz : ds.length < sizeLine) {Qd : Addr → Hp → Prop}
    (hG : ∀ H1, Same H H1 → G H1)
    (hs : ∀ (L : Addr) (acc : List V) (i : Nat) (d : α) (x : V) (H2 H3 : Hp) (Qy : V → Hp → Prop) (Qn : Hp → Prop), H L = none → H2 L = some (.lst acc) → ds[i]? = some d → Same H H2 → Y i H2 x H3 → (∀ y H6, Same H2 H6 → keep d = true → R L d y H6 → Qy y H6) → (∀ H6, Same H2 H6 → keep d = false → Qn H6) →
      g x (wipe σ vs) H3 fun σ2 H4 => wipe σ2 vs = wipe σ vs ∧ tt σ2 H4 fun b H5 => if b = true then te σ2 H5 Qy else Qn H5)
    (k : ∀ L H' ys, H L = none → Same H H' → Paired (fun d y => R L d y H') (ds.filter keep) ys → H' L = some (.lst ys) → Qd L H') : LcJ J H g tt te vs σ Qd := by
  intro L hL
  have up : ∀ {l : List α} {ys : List V} {H1 H2 : Hp}, SameBut L H1 H2 → Paired (fun d y => R L d y H1) l ys → Paired (fun d y => R L d y H2) l ys := fun s p => Paired.mapP p fun a b r => hR L a b _ _ s r
  have stepF : ∀ i d, ds[i]? = some d → (ds.take (i + 1)).filter keep = (ds.take i).filter keep ++ (if keep d then [d] else []) := fun i d hd => by
    rw [List.take_add_one, hd, List.filter_append]
    congr 1
    show List.filter keep [d] = _
    cases e : keep d <;> simp [e]
  refine ⟨fun i m H2 => m = n - i ∧ i ≤ n ∧ Same H H2 ∧ ∃ ys, Paired (fun d y => R L d y H2) ((ds.take i).filter keep) ys ∧ H2 L = some (.lst ys), ⟨n, by simp, Nat.zero_le _, same_new hL, [], .nil, upd_same⟩, ?_⟩
  rintro i m H2 ⟨rfl, hi, s2, ys, py, hd⟩
  by_cases hlt : i < n
  · have hi2 : i < ds.length := by omega
    obtain ⟨d, ed⟩ : ∃ d, ds[i]? = some d := ⟨ds[i], List.getElem?_eq_getElem hi2⟩
    refine .inr ⟨w.goes i H2 hlt (hG H2 s2), fun H6 => Same H H6 ∧ ∃ ys, Paired (fun d y => R L d y H6) ((ds.take (i + 1)).filter keep) ys ∧ H6 L = some (.lst ys), fun H6 h6 => ⟨n - (i + 1), by omega, rfl, hlt, h6.1, h6.2⟩, fun x H3 y => ?_⟩
    refine hs L ys i d x H2 H3 _ _ hL hd ed s2 (w.yields i H2 x H3 hlt (hG H2 s2) y) (fun y H6 s6 ek ry => ?_) (fun H6 s6 ek => ?_)
    · have h1 := Paired.length py
      have h2 := List.length_filter_le keep (ds.take i)
      have h3 := List.length_take_le' i ds
      refine ⟨_, s6 _ _ hd, by omega, same_upd (s2.trans s6) hL, _, ?_, upd_same⟩
      rw [stepF i d ed, ek]
      exact Paired.snoc (up ((same_but s6).trans SameBut.upd) py) (hR L d y _ _ SameBut.upd ry)
    · refine ⟨s2.trans s6, ys, ?_, s6 _ _ hd⟩
      rw [stepF i d ed, ek]
      show Paired _ ((ds.take i).filter keep ++ []) ys
      rw [List.append_nil]
      exact up (same_but s6) py
  · have e : i = ds.length := by omega
    rw [e, List.take_length] at py
    have e2 : i = n := by omega
    rw [e2]
    exact .inl ⟨w.stops H2 (hG H2 s2), k L H2 ys hL s2 py hd⟩
end
end M

namespace M
open PySem PySem.Spec PyProof.Rows L2
/-! ### built-ins by names of their own -/
def rLenSeq (K : PySem.W.Frag) : List V → Hp → VK → Prop := fun xs H Q => ∃ p ys, xs = [.ref p] ∧ (SqL K H p ys ∨ SqT K H p ys) ∧ Q (.int ys.length) H
def rLenStr : List V → Hp → VK → Prop := fun xs H Q => ∃ z : Str, xs = [.str z] ∧ z.length ≤ sizeLine ∧ Q (.int z.length) H
def rLenD : List V → Hp → VK → Prop := fun xs H Q => ∃ a, ∃ kvs : List (Key × V), xs = [V.ref a] ∧ H a = some (.dK kvs) ∧ Q (.int kvs.length) H
def rAbs : List V → Hp → VK → Prop := fun xs H Q => ∃ i : Int, xs = [.int i] ∧ Q (.int (if i < 0 then -i else i)) H
def rMax2 : List V → Hp → VK → Prop := fun xs H Q => ∃ i j : Int, xs = [.int i, .int j] ∧ Q (.int (if j > i then j else i)) H
def rMin2 : List V → Hp → VK → Prop := fun xs H Q => ∃ i j : Int, xs = [.int i, .int j] ∧ Q (.int (if j < i then j else i)) H
def rInt1 : List V → Hp → VK → Prop := fun xs H Q => (∃ i, xs = [.int i] ∧ Q (.int i) H) ∨ ∃ k : Bool, xs = [.bl k] ∧ Q (.int (if k then 1 else 0)) H
def rStr1 : List V → Hp → VK → Prop := fun xs H Q => ∃ i : Int, xs = [.int i] ∧ i.natAbs.log2 < 1920 ∧ Q (.str (toString i)) H
def rIntS : List V → Hp → VK → Prop := fun xs H Q => ∃ a n, xs = [.str a] ∧ PySem.intText? a = some n ∧ a.length ≤ 640 ∧ Q (.int n) H
def rListOf (K : PySem.W.Frag) : List V → Hp → VK → Prop := fun xs H Q => ∃ p ys, xs = [.ref p] ∧ (SqL K H p ys ∨ SqT K H p ys) ∧ ∀ l, H l = none → Q (.ref l) (upd H l (.lst ys))
def rDictD : List V → Hp → VK → Prop := fun xs H Q => ∃ (a : Addr) (kvs : List (Key × V)), xs = [.ref a] ∧ Rd H a (.dK kvs) ∧ ∀ p, H p = none → Q (.ref p) (upd H p (.dK kvs))
def rListD : List V → Hp → VK → Prop := fun xs H Q => ∃ (a : Addr) (kvs : List (Key × V)), xs = [.ref a] ∧ Rd H a (.dK kvs) ∧ ∀ p, H p = none → Q (.ref p) (upd H p (.lst (kvs.map fun kv => kV kv.1)))
def rSortedDI : List V → Hp → VK → Prop := fun xs H Q => ∃ (a : Addr) (kvs : List (Key × V)) (ks : List Int), xs = [.ref a] ∧ Rd H a (.dK kvs) ∧ kvs.map (·.1) = ks.map Sum.inl ∧ ks.length < 64 ∧ ∀ (ys : List Int) (p : Addr), ys.Perm ks → ys.Pairwise (· ≤ ·) → H p = none → Q (.ref p) (upd H p (.lst (ys.map V.int)))
def rInStr (neg : Bool) : R2 := fun x y H Q => ∃ i j : Str, x = .str i ∧ y = .str j ∧ Q (.bl (if neg then !(!(Builtin.Str.occurrences j i 0 j.length 1).isEmpty) else !(Builtin.Str.occurrences j i 0 j.length 1).isEmpty)) H
def rInSg (neg : Bool) : R2 := fun x y H Q => ∃ (c : Nat) (z : Str), x = .str ⟨#[c]⟩ ∧ y = .str z ∧ Q (.bl (if neg then !decide (c ∈ z.cps.toList) else decide (c ∈ z.cps.toList))) H
def rIsN : R2 := fun x y H Q => y = .non ∧ Q (.bl (decide (x = .non))) H
def rNotN : R2 := fun x y H Q => y = .non ∧ Q (.bl (!decide (x = .non))) H
def rAddS : R2 := fun x y H Q => ∃ i j : Str, x = .str i ∧ y = .str j ∧ i.length + j.length ≤ sizeLine ∧ Q (.str (i ++ j)) H
def rStarts : V → List V → Hp → VK → Prop := fun x xs H Q => ∃ a b, x = .str a ∧ xs = [.str b] ∧ Q (.bl (Txt.startswith a b)) H
section
variable {X : Cx}
theorem cl_len_seq : CallR X (.builtin "len") (rLenSeq X.K) := call_len_seq
theorem cl_len_str : CallR X (.builtin "len") rLenStr := call_len_str
theorem cl_lenD : CallR X (.builtin "len") rLenD := call_lenD
theorem cl_abs : CallR X (.builtin "abs") rAbs := call_abs
theorem cl_max2 (hc : X.calm = true) : CallR X (.builtin "max") rMax2 := call_max2 hc
theorem cl_min2 (hc : X.calm = true) : CallR X (.builtin "min") rMin2 := call_min2 hc
theorem cl_int1 : CallR X (.type "int") rInt1 := call_int1
theorem cl_str_int : CallR X (.type "str") rStr1 := call_str_int
theorem cl_int_str : CallR X (.type "int") rIntS := call_int_str
theorem cl_list_of : CallR X (.type "list") (rListOf X.K) := call_list_of
theorem cl_dictD : CallR X (.type "dict") rDictD := call_dictD
theorem cl_listD (hc : X.calm = true) : CallR X (.type "list") rListD := call_listD hc
theorem cl_sortedDI (hc : X.calm = true) : CallR X (.builtin "sorted") rSortedDI := call_sortedDI hc
theorem o_in_str : OpR X (compareOp .In) (rInStr false) := op_in_str
theorem o_notin_str : OpR X (compareOp .NotIn) (rInStr true) := op_notin_str
theorem o_in_sign : OpR X (compareOp .In) (rInSg false) := op_in_sign
theorem o_notin_sign : OpR X (compareOp .NotIn) (rInSg true) := op_notIn_sign
theorem o_isN : OpR X (compareOp .Is) rIsN := op_isN
theorem o_notN : OpR X (compareOp .IsNot) rNotN := op_notN
theorem o_add_str : OpR X (binaryOp .Add) rAddS := op_add_str
end
section
variable {K : PySem.W.Frag} {σ : L2.St} {H H' : Hp} {Q : VK} {x y v : V} {p a : Addr} {xs ys : List V} {i j : Int} {z b : Str}
theorem t_lenL (h : SqL K H p ys) (q : Q (.int ys.length) H) : rLenSeq K [.ref p] H Q := ⟨p, ys, rfl, .inl h, q⟩
theorem t_lenT (h : SqT K H p ys) (q : Q (.int ys.length) H) : rLenSeq K [.ref p] H Q := ⟨p, ys, rfl, .inr h, q⟩
theorem t_lenS (h : z.length ≤ sizeLine) (q : Q (.int z.length) H) : rLenStr [.str z] H Q := ⟨z, rfl, h, q⟩
theorem t_lenD {kvs : List (Key × V)} (h : H p = some (.dK kvs)) (q : Q (.int kvs.length) H) : rLenD [.ref p] H Q := ⟨p, kvs, rfl, h, q⟩
theorem t_abs (q : Q (.int (if i < 0 then -i else i)) H) : rAbs [.int i] H Q := ⟨i, rfl, q⟩
theorem t_max2 (q : Q (.int (if j > i then j else i)) H) : rMax2 [.int i, .int j] H Q := ⟨i, j, rfl, q⟩
theorem t_min2 (q : Q (.int (if j < i then j else i)) H) : rMin2 [.int i, .int j] H Q := ⟨i, j, rfl, q⟩
theorem t_int1i (q : Q (.int i) H) : rInt1 [.int i] H Q := .inl ⟨i, rfl, q⟩
theorem t_int1b {k : Bool} (q : Q (.int (if k then 1 else 0)) H) : rInt1 [.bl k] H Q := .inr ⟨k, rfl, q⟩
theorem t_str1 (h : i.natAbs.log2 < 1920) (q : Q (.str (toString i)) H) : rStr1 [.int i] H Q := ⟨i, rfl, h, q⟩
theorem t_intS (h : PySem.intText? z = some i) (h2 : z.length ≤ 640) (q : Q (.int i) H) : rIntS [.str z] H Q := ⟨z, i, rfl, h, h2, q⟩
theorem t_all {bs : List Bool} (h : SqL K H a (bs.map V.bl)) (q : Q (.bl (bs.all id)) H) : rAll K [.ref a] H Q := ⟨a, bs, rfl, h, q⟩
theorem t_any {bs : List Bool} (h : SqL K H a (bs.map V.bl)) (q : Q (.bl (bs.any id)) H) : rAny K [.ref a] H Q := ⟨a, bs, rfl, h, q⟩
theorem t_sum {ns : List Int} (h : SqL K H a (ns.map V.int)) (q : Q (.int ns.sum) H) : rSum K [.ref a] H Q := ⟨a, ns, rfl, h, q⟩
theorem t_listL (h : SqL K H p ys) (q : ∀ l, H l = none → Q (.ref l) (upd H l (.lst ys))) : rListOf K [.ref p] H Q := ⟨p, ys, rfl, .inl h, q⟩
theorem t_listT (h : SqT K H p ys) (q : ∀ l, H l = none → Q (.ref l) (upd H l (.lst ys))) : rListOf K [.ref p] H Q := ⟨p, ys, rfl, .inr h, q⟩
theorem t_dictD {kvs : List (Key × V)} (h : H p = some (.dK kvs)) (q : ∀ l, H l = none → Q (.ref l) (upd H l (.dK kvs))) : rDictD [.ref p] H Q := ⟨p, kvs, rfl, .inl h, q⟩
theorem t_listD {kvs : List (Key × V)} (h : H p = some (.dK kvs)) (q : ∀ l, H l = none → Q (.ref l) (upd H l (.lst (kvs.map fun kv => kV kv.1)))) : rListD [.ref p] H Q := ⟨p, kvs, rfl, .inl h, q⟩
theorem t_inSg {c : Nat} {neg : Bool} (q : Q (.bl (if neg then !decide (c ∈ z.cps.toList) else decide (c ∈ z.cps.toList))) H) : rInSg neg (.str ⟨#[c]⟩) (.str z) H Q := ⟨c, z, rfl, rfl, q⟩
theorem t_inStr {neg : Bool} (q : Q (.bl (if neg then !(!(Builtin.Str.occurrences z b 0 z.length 1).isEmpty) else !(Builtin.Str.occurrences z b 0 z.length 1).isEmpty)) H) : rInStr neg (.str b) (.str z) H Q := ⟨b, z, rfl, rfl, q⟩
theorem t_isN (q : Q (.bl (decide (x = .non))) H) : rIsN x .non H Q := ⟨rfl, q⟩
theorem t_notN (q : Q (.bl (!decide (x = .non))) H) : rNotN x .non H Q := ⟨rfl, q⟩
theorem t_addS (h : z.length + b.length ≤ sizeLine) (q : Q (.str (z ++ b)) H) : rAddS (.str z) (.str b) H Q := ⟨z, b, rfl, rfl, h, q⟩
theorem t_ixL (h : SqL K H p xs) (e : atI xs i = some v) (q : Q v H) : rIxL K (.ref p) (.int i) H Q := ⟨p, xs, i, v, rfl, rfl, h, e, q⟩
theorem t_ixT (h : SqT K H p xs) (e : atI xs i = some v) (q : Q v H) : rIxT K (.ref p) (.int i) H Q := ⟨p, xs, i, v, rfl, rfl, h, e, q⟩
theorem t_ixS {c : Nat} (h : z.length ≤ sizeLine) (e : atI z.cps.toList i = some c) (q : Q (.str ⟨#[c]⟩) H) : rIxS (.str z) (.int i) H Q := ⟨z, i, c, rfl, rfl, h, e, q⟩
theorem t_slL {lo hi : Option Int} (h : SqL K H p xs) (q : ∀ l, H l = none → Q (.ref l) (upd H l (.lst (cutV xs lo hi)))) : rSlL K (.ref p) lo hi H Q := ⟨p, xs, rfl, h, q⟩
theorem t_slS {lo hi : Option Int} (h : z.length ≤ sizeLine) (q : Q (.str (cutS z lo hi)) H) : rSlS (.str z) lo hi H Q := ⟨z, rfl, h, q⟩
theorem t_append (h : H p = some (.lst xs)) (hl : xs.length < sizeLine) (q : Q .non (upd H p (.lst (xs ++ [y])))) : rAppend (.ref p) [y] H Q := ⟨p, xs, y, rfl, rfl, h, hl, q⟩
theorem t_extend (h : H p = some (.lst xs)) (h2 : H a = some (.lst ys)) (hl : xs.length + ys.length ≤ sizeLine) (q : Q .non (upd H p (.lst (xs ++ ys)))) : rExtend (.ref p) [.ref a] H Q := ⟨p, a, xs, ys, rfl, rfl, h, h2, hl, q⟩
theorem t_clear (h : H p = some (.lst xs)) (q : Q .non (upd H p (.lst []))) : rClear (.ref p) [] H Q := ⟨p, xs, rfl, rfl, h, q⟩
theorem t_cat (h : H p = some (.lst xs)) (h2 : H a = some (.lst ys)) (hl : xs.length + ys.length ≤ sizeLine) (q : ∀ l, H l = none → Q (.ref l) (upd H l (.lst (xs ++ ys)))) : rCat (.ref p) (.ref a) H Q := ⟨p, a, xs, ys, rfl, rfl, h, h2, hl, q⟩
theorem t_eqD {d e : PyData} (h1 : Dp K H x d) (h2 : Dp K H y e) (s1 : SeqAt.shaped d = true) (s2 : SeqAt.shaped e = true) (q : Q (.bl (PyData.eqv d e)) H) : rEqD K x y H Q := ⟨d, e, h1, h2, s1, s2, q⟩
theorem t_neD {d e : PyData} (h1 : Dp K H x d) (h2 : Dp K H y e) (s1 : SeqAt.shaped d = true) (s2 : SeqAt.shaped e = true) (q : Q (.bl (!PyData.eqv d e)) H) : rNeD K x y H Q := ⟨d, e, h1, h2, s1, s2, q⟩
theorem t_inL {neg : Bool} (h : SqL K H p xs) (hx : flatV x = true) (ha : xs.all flatV = true) (q : Q (.bl (if neg then !inV x xs else inV x xs)) H) : rIn K neg x (.ref p) H Q := ⟨p, xs, rfl, .inl h, hx, ha, q⟩
theorem t_inT {neg : Bool} (h : SqT K H p xs) (hx : flatV x = true) (ha : xs.all flatV = true) (q : Q (.bl (if neg then !inV x xs else inV x xs)) H) : rIn K neg x (.ref p) H Q := ⟨p, xs, rfl, .inr h, hx, ha, q⟩
theorem ty_list (h : SqL K H p xs) : tyV K "list" (.ref p) H := .inl ⟨rfl, xs, h⟩
theorem ty_dict {kvs : List (Key × V)} (h : H p = some (.dK kvs)) : tyV K "dict" (.ref p) H := .inr (.inr (.inl ⟨rfl, .inl ⟨kvs, h⟩⟩))
/-! what is walked -/
variable {ta : TA} {tl : TE} {R : It → Hp → Prop}
theorem t_iList (h : tl σ H fun x H1 => ∃ a, x = .ref a ∧ (∃ xs, SqL K H1 a xs) ∧ R (Itl K a) H1) : iList K tl σ H R := h
theorem k_iList {xs : List V} {R : Addr → Prop} (h : SqL K H p xs) (k : R p) : ∃ a, V.ref p = .ref a ∧ (∃ xs, SqL K H a xs) ∧ R a := ⟨p, rfl, ⟨xs, h⟩, k⟩
theorem t_iTup (h : tl σ H fun x H1 => ∃ a, x = .ref a ∧ (∃ xs, SqT K H1 a xs) ∧ R (Itt K a) H1) : iTup K tl σ H R := h
theorem k_iTup {xs : List V} {R : Addr → Prop} (h : SqT K H p xs) (k : R p) : ∃ a, V.ref p = .ref a ∧ (∃ xs, SqT K H a xs) ∧ R a := ⟨p, rfl, ⟨xs, h⟩, k⟩
theorem t_iRng1 (h : ta σ H fun vs H1 => ∃ j : Int, vs = [.int j] ∧ -(2 ^ 62) ≤ j ∧ j < 2 ^ 62 ∧ R (Itr 0 j.toNat) H1) : iRng1 ta σ H R := h
theorem k_iRng1 {R : Nat → Prop} (h1 : -1000000000000 ≤ j) (h2 : j ≤ 1000000000000) (k : R j.toNat) : ∃ i : Int, [V.int j] = [.int i] ∧ -(2 ^ 62) ≤ i ∧ i < 2 ^ 62 ∧ R i.toNat := ⟨j, rfl, by omega, by omega, k⟩
theorem t_iRng2 (h : ta σ H fun vs H1 => ∃ i j : Int, vs = [.int i, .int j] ∧ (-(2 ^ 62) ≤ i ∧ i < 2 ^ 62 ∧ -(2 ^ 62) ≤ j ∧ j < 2 ^ 62) ∧ R (Itr i (j - i).toNat) H1) : iRng2 ta σ H R := h
theorem t_iStr (h : tl σ H fun v H1 => ∃ x, v = .str x ∧ R (Its x) H1) : iStr tl σ H R := h
theorem t_iEnum (h : ta σ H fun vs H1 => ∃ a xs, vs = [.ref a] ∧ SqL K H1 a xs ∧ R (Ite K a) H1) : iEnum K ta σ H R := h
theorem t_iZip (h : ta σ H fun vs H1 => ∃ a b xs ys, vs = [.ref a, .ref b] ∧ SqL K H1 a xs ∧ SqL K H1 b ys ∧ R (Itz K a b) H1) : iZip K ta σ H R := h
theorem t_iRev (h : ta σ H fun vs H1 => ∃ (a : Addr) (xs : List V), vs = [.ref a] ∧ SqL K H1 a xs ∧ R (Itv K a xs.length) H1) : iRev K ta σ H R := h
/-- a text is walked sign by sign: the signs as a list of numbers -/
theorem walk_sgs {z : Str} : Walk (Its z) z.cps.toList.length (fun _ => True) (fun i H v H' => H' = H ∧ ∃ c, z.cps.toList[i]? = some c ∧ v = .str ⟨#[c]⟩) := by
  have w := walk_str (z := z)
  rw [Array.length_toList]
  exact w.mono (fun _ h => h) fun i H x H' _ _ ⟨e, c, e2, e3⟩ => ⟨e, c, by rw [Array.getElem?_toList]; exact e2, e3⟩
/-! items of written lists -/
theorem atI_map {α β : Type} (f : α → β) (xs : List α) (i : Int) : atI (xs.map f) i = (atI xs i).map f := by
  unfold atI
  rw [List.length_map]
  cases ixN xs.length i with
  | none => rfl
  | some j =>
    show (xs.map f)[j]? = (xs[j]?).map f
    rw [List.getElem?_map]
theorem atI_in {α : Type} {xs : List α} {i : Int} (d : α) (h0 : 0 ≤ i) (h1 : i < xs.length) : atI xs i = some (xs.getD i.toNat d) := by
  unfold atI ixN
  rw [if_pos h0, if_pos h1]
  show xs[i.toNat]? = _
  have h2 : i.toNat < xs.length := by omega
  rw [List.getElem?_eq_getElem h2, List.getD_eq_getElem?_getD, List.getElem?_eq_getElem h2]
  rfl
/-- one of the items -/
theorem pick {α : Type} (xs : List α) (f : α → V) (i : Int) (h0 : 0 ≤ i) (h1 : i < xs.length) : ∃ x, x ∈ xs ∧ atI (xs.map f) i = some (f x) := by
  have h2 : i.toNat < xs.length := by omega
  refine ⟨xs[i.toNat], List.getElem_mem h2, ?_⟩
  rw [atI_map]
  unfold atI ixN
  rw [if_pos h0, if_pos h1]
  show (xs[i.toNat]?).map f = _
  rw [List.getElem?_eq_getElem h2]
  rfl
theorem new_facts {p : Addr} {o : HO} {H1 : Hp} (e : upd H p o = H1) (hp : H p = none) : Same H H1 ∧ H1 p = some o := by
  subst e
  exact ⟨same_new hp, upd_same⟩
/-- a local object changed -/
theorem chg_facts {H0 : Hp} {p : Addr} {o : HO} {H1 : Hp} (e : upd H p o = H1) (s : Same H0 H) (hp : H0 p = none) : Same H0 H1 ∧ H1 p = some o ∧ ∀ b, b ≠ p → H1 b = H b := by
  subst e
  exact ⟨same_upd s hp, upd_same, fun b n => upd_ne n⟩
/-- data all of texts, of ints: as they are compared -/
theorem DpAll_map {α : Type} (f : α → V) (g : α → PyData) (h : ∀ a, Dp K H (f a) (g a)) : ∀ l : List α, DpAll K H (l.map f) (l.map g)
  | [] => .nil
  | x :: r => .cons (h x) (DpAll_map f g h r)
end
/-! ### == of a list with an empty one -/
def rEqNil (K : PySem.W.Frag) (neg : Bool) : R2 := fun x y H Q => ∃ p q xs, x = .ref p ∧ y = .ref q ∧ SqL K H p xs ∧ SqL K H q [] ∧ Q (.bl (if neg then !xs.isEmpty else xs.isEmpty)) H
section
variable {X : Cx}
theorem op_eqNil (hu : X.A.units + 64 < cLine) : OpR X (compareOp .Eq) (rEqNil X.K false) := by
  intro pins s σ H x y v u Q I rx ry h
  obtain ⟨p, q, xs, rfl, rfl, h1, h2, k⟩ := h
  cases rx
  cases ry
  obtain ⟨its, r1, l1, _⟩ := I.list h1
  obtain ⟨its2, r2, l2, _⟩ := I.list h2
  cases r2
  have hu2 : X.A.units < cLine := by omega
  cases r1 with
  | nil => exact SeqAt.RcAt.lists (e := fun _ => true) l1.isList l2.isList rfl hu2 (fun j h _ => absurd h (by simp)) X.prog X.w X.xe _ ⟨.bl _, H, I, rfl, k⟩
  | cons a b => exact SeqAt.RcAt.lists_lengths l1.isList l2.isList (by simp) hu2 X.prog X.w X.xe _ ⟨.bl _, H, I, rfl, k⟩
theorem op_neNil (hu : X.A.units + 64 < cLine) : OpR X (compareOp .NotEq) (rEqNil X.K true) := by
  intro pins s σ H x y v u Q I rx ry h
  obtain ⟨p, q, xs, rfl, rfl, h1, h2, k⟩ := h
  cases rx
  cases ry
  obtain ⟨its, r1, l1, _⟩ := I.list h1
  obtain ⟨its2, r2, l2, _⟩ := I.list h2
  cases r2
  have hu2 : X.A.units < cLine := by omega
  cases r1 with
  | nil => exact SeqAt.RcNeAt.lists (e := fun _ => true) l1.isList l2.isList rfl hu2 (fun j h _ => absurd h (by simp)) X.prog X.w X.xe _ ⟨.bl _, H, I, rfl, k⟩
  | cons a b => exact SeqAt.RcNeAt.lists_lengths l1.isList l2.isList (by simp) hu2 X.prog X.w X.xe _ ⟨.bl _, H, I, rfl, k⟩
end
theorem t_eqNil {K : PySem.W.Frag} {H : Hp} {Q : VK} {p q : Addr} {xs : List V} {neg : Bool} (h1 : SqL K H p xs) (h2 : SqL K H q []) (k : Q (.bl (if neg then !xs.isEmpty else xs.isEmpty)) H) : rEqNil K neg (.ref p) (.ref q) H Q := ⟨p, q, xs, rfl, rfl, h1, h2, k⟩
/-! texts many times -/
def rRepS : R2 := fun x y H Q => ∃ (z : Str) (i : Int), x = .str z ∧ y = .int i ∧ 0 ≤ i ∧ i ≤ 1 ∧ z.length ≤ 1000 ∧ Q (.str (if i = 0 then Str.empty else z)) H
theorem op_repS {X : Cx} : OpR X (binaryOp .Mult) rRepS := by
  intro pins s σ H x y v u Q I rx ry h
  obtain ⟨z, i, rfl, rfl, h0, h1, hz, q⟩ := h
  obtain ⟨t, rfl⟩ := rx
  obtain ⟨t', rfl⟩ := ry
  have e : Txt.mul z i = if i = 0 then Str.empty else z := by
    unfold Txt.mul
    rcases (show i = 0 ∨ i = 1 by omega) with e | e <;> subst e <;> simp
  refine PySem.SB.mul ?_ fun t2 k => ⟨.str (Txt.mul z i), H, I.tok _, ⟨_, rfl⟩, by rw [e]; exact q⟩
  unfold PySem.MulOk
  rcases (show i = 0 ∨ i = 1 by omega) with e | e <;> subst e <;> simp
theorem t_repS {H : Hp} {Q : VK} {z : Str} {i : Int} (h0 : 0 ≤ i) (h1 : i ≤ 1) (hz : z.length ≤ 1000) (q : Q (.str (if i = 0 then Str.empty else z)) H) : rRepS (.str z) (.int i) H Q := ⟨z, i, rfl, rfl, h0, h1, hz, q⟩
/-- xs[i] = v at a list -/
theorem t_setL {H : Hp} {p : Addr} {xs : List V} {i : Int} {v : V} {Q : Hp → Prop} (h : H p = some (.lst xs)) (h0 : 0 ≤ i) (h1 : i < xs.length) (q : Q (upd H p (.lst (xs.set i.toNat v)))) : rSetL (.ref p) (.int i) v H Q :=
  ⟨p, xs, i, i.toNat, rfl, rfl, h, by unfold ixN; rw [if_pos h0, if_pos h1], q⟩
theorem t_gsub {to ti : TE} {t : TSet} {v : V} {σ : L2.St} {H : Hp} {Q : L2.St → Hp → Prop} (h : to σ H fun o H1 => ti σ H1 fun i H2 => t o i v H2 fun H3 => Q σ H3) : gSub to ti t v σ H Q := h
/-! s.index(y), found -/
def rSidx : V → List V → Hp → VK → Prop := fun x xs H Q => ∃ (a b : Str) (k : Nat), x = .str a ∧ xs = [.str b] ∧ Txt.index0 a b = some k ∧ Q (.int k) H
theorem mt_sidx {X : Cx} : MtR X "str.index" rSidx := by
  intro pins s σ H x xs v us Q I rx rs h
  obtain ⟨a, b, k, rfl, rfl, hk, q0⟩ := h
  obtain ⟨t, rfl⟩ := rx
  cases rs with
  | cons r1 rs =>
    cases rs
    obtain ⟨u, rfl⟩ := r1
    cases q : Builtin.Str.occurrences a b 0 a.length 1 with
    | nil =>
      unfold Txt.index0 at hk
      rw [q] at hk
      cases hk
    | cons j rest =>
      unfold Txt.index0 at hk
      rw [q] at hk
      cases hk
      exact PySem.SC.index q ⟨.int (k : Nat), H, I.tok _, ⟨_, rfl⟩, q0⟩
theorem t_sidx {H : Hp} {Q : VK} {z b : Str} {k : Nat} (h : Txt.index0 z b = some k) (q : Q (.int k) H) : rSidx (.str z) [.str b] H Q := ⟨z, b, k, rfl, rfl, h, q⟩
end M

namespace M
open PySem PySem.Spec PyProof.Rows L2
section
variable {K : PySem.W.Frag} {σ : L2.St} {H H' : Hp} {te : TE} {tt : TT} {vs : List Nat} {j : Nat} {p : Addr} {Qd : Addr → Hp → Prop} {z : Str} {lo : Int} {n : Nat}
/-! comprehensions with one name: over a text, a list, a range -/
theorem lcS_fm (φ : Nat → Option V) (hsz : z.length ≤ 1000000)
    (hs : ∀ (i c : Nat) (H2 : Hp) (Qy : V → Hp → Prop) (Qn : Hp → Prop), z.cps.toList[i]? = some c → Same H H2 → (∀ y H6, Same H2 H6 → φ c = some y → Qy y H6) → (∀ H6, Same H2 H6 → φ c = none → Qn H6) →
      tt ((wipe σ vs).set j (some (.str ⟨#[c]⟩))) H2 fun b H5 => if b = true then te ((wipe σ vs).set j (some (.str ⟨#[c]⟩))) H5 Qy else Qn H5)
    (k : ∀ D H', H D = none → Same H H' → H' D = some (.lst (z.cps.toList.filterMap φ)) → Qd D H') (hw : ∀ x, wipe ((wipe σ vs).set j (some x)) vs = wipe σ vs := by intro _; rfl) : LcJ (Its z) H (gName j) tt te vs σ Qd := by
  refine lcJ_fm walk_sgs z.cps.toList rfl φ (by rw [Array.length_toList, sizeLine_eq]; exact Nat.lt_of_le_of_lt hsz (by decide)) (fun _ _ => trivial) (fun i d x H2 H3 Qy Qn ed s2 y h1 h2 => ?_) k
  obtain ⟨rfl, c, ec, rfl⟩ := y
  rw [ed] at ec
  cases ec
  exact ⟨hw _, hs i d H3 Qy Qn ed s2 h1 h2⟩
theorem lcS_map (f : Nat → V) (hsz : z.length ≤ 1000000)
    (hs : ∀ (i c : Nat) (H2 : Hp) (Qy : V → Hp → Prop), z.cps.toList[i]? = some c → Same H H2 → (∀ H6, Same H2 H6 → Qy (f c) H6) → te ((wipe σ vs).set j (some (.str ⟨#[c]⟩))) H2 Qy)
    (k : ∀ D H', H D = none → Same H H' → H' D = some (.lst (z.cps.toList.map f)) → Qd D H') (hw : ∀ x, wipe ((wipe σ vs).set j (some x)) vs = wipe σ vs := by intro _; rfl) : LcJ (Its z) H (gName j) tYes te vs σ Qd := by
  refine lcJ_map walk_sgs z.cps.toList rfl f (by rw [Array.length_toList, sizeLine_eq]; exact Nat.lt_of_le_of_lt hsz (by decide)) (fun _ _ => trivial) (fun i d x H2 H3 Qy ed s2 y h1 => ?_) k
  obtain ⟨rfl, c, ec, rfl⟩ := y
  rw [ed] at ec
  cases ec
  exact ⟨hw _, hs i d H3 Qy ed s2 h1⟩
theorem lcL_fm {α : Type} (ds : List α) (enc : α → V) (hp : SqL K H p (ds.map enc)) (φ : α → Option V) (hsz : ds.length ≤ 1000000)
    (hs : ∀ (i : Nat) (d : α) (H2 : Hp) (Qy : V → Hp → Prop) (Qn : Hp → Prop), ds[i]? = some d → Same H H2 → (∀ y H6, Same H2 H6 → φ d = some y → Qy y H6) → (∀ H6, Same H2 H6 → φ d = none → Qn H6) →
      tt ((wipe σ vs).set j (some (enc d))) H2 fun b H5 => if b = true then te ((wipe σ vs).set j (some (enc d))) H5 Qy else Qn H5)
    (k : ∀ D H', H D = none → Same H H' → H' D = some (.lst (ds.filterMap φ)) → Qd D H') (hw : ∀ x, wipe ((wipe σ vs).set j (some x)) vs = wipe σ vs := by intro _; rfl) : LcJ (Itl K p) H (gName j) tt te vs σ Qd := by
  refine lcJ_fm (walk_list (xs := ds.map enc)) ds (List.length_map ..) φ (by rw [sizeLine_eq]; exact Nat.lt_of_le_of_lt hsz (by decide)) (fun H1 s => s.seq hp) (fun i d x H2 H3 Qy Qn ed s2 y h1 h2 => ?_) k
  obtain ⟨rfl, ex⟩ := y
  rw [List.getElem?_map, ed] at ex
  cases ex
  exact ⟨hw _, hs i d H3 Qy Qn ed s2 h1 h2⟩
theorem lcL_map {α : Type} (ds : List α) (enc : α → V) (hp : SqL K H p (ds.map enc)) (f : α → V) (hsz : ds.length ≤ 1000000)
    (hs : ∀ (i : Nat) (d : α) (H2 : Hp) (Qy : V → Hp → Prop), ds[i]? = some d → Same H H2 → (∀ H6, Same H2 H6 → Qy (f d) H6) → te ((wipe σ vs).set j (some (enc d))) H2 Qy)
    (k : ∀ D H', H D = none → Same H H' → H' D = some (.lst (ds.map f)) → Qd D H') (hw : ∀ x, wipe ((wipe σ vs).set j (some x)) vs = wipe σ vs := by intro _; rfl) : LcJ (Itl K p) H (gName j) tYes te vs σ Qd := by
  refine lcJ_map (walk_list (xs := ds.map enc)) ds (List.length_map ..) f (by rw [sizeLine_eq]; exact Nat.lt_of_le_of_lt hsz (by decide)) (fun H1 s => s.seq hp) (fun i d x H2 H3 Qy ed s2 y h1 => ?_) k
  obtain ⟨rfl, ex⟩ := y
  rw [List.getElem?_map, ed] at ex
  cases ex
  exact ⟨hw _, hs i d H3 Qy ed s2 h1⟩
theorem lcR_map (f : Nat → V) (hsz : n ≤ 1000000)
    (hs : ∀ (i : Nat) (H2 : Hp) (Qy : V → Hp → Prop), i < n → Same H H2 → (∀ H6, Same H2 H6 → Qy (f i) H6) → te ((wipe σ vs).set j (some (.int (lo + i)))) H2 Qy)
    (k : ∀ D H', H D = none → Same H H' → H' D = some (.lst ((List.range n).map f)) → Qd D H') (hw : ∀ x, wipe ((wipe σ vs).set j (some x)) vs = wipe σ vs := by intro _; rfl) : LcJ (Itr lo n) H (gName j) tYes te vs σ Qd := by
  refine lcJ_map walk_range (List.range n) (List.length_range ..).symm f (by rw [List.length_range, sizeLine_eq]; exact Nat.lt_of_le_of_lt hsz (by decide)) (fun _ _ => trivial) (fun i d x H2 H3 Qy ed s2 y h1 => ?_) k
  obtain ⟨rfl, rfl⟩ := y
  have hi : i < n := by
    have h := (List.getElem?_eq_some_iff.mp ed).1
    rwa [List.length_range] at h
  rw [List.getElem?_range hi] at ed
  cases ed
  exact ⟨hw _, hs i H3 Qy hi s2 h1⟩
theorem lcR_fm (φ : Nat → Option V) (hsz : n ≤ 1000000)
    (hs : ∀ (i : Nat) (H2 : Hp) (Qy : V → Hp → Prop) (Qn : Hp → Prop), i < n → Same H H2 → (∀ y H6, Same H2 H6 → φ i = some y → Qy y H6) → (∀ H6, Same H2 H6 → φ i = none → Qn H6) →
      tt ((wipe σ vs).set j (some (.int (lo + i)))) H2 fun b H5 => if b = true then te ((wipe σ vs).set j (some (.int (lo + i)))) H5 Qy else Qn H5)
    (k : ∀ D H', H D = none → Same H H' → H' D = some (.lst ((List.range n).filterMap φ)) → Qd D H') (hw : ∀ x, wipe ((wipe σ vs).set j (some x)) vs = wipe σ vs := by intro _; rfl) : LcJ (Itr lo n) H (gName j) tt te vs σ Qd := by
  refine lcJ_fm walk_range (List.range n) (List.length_range ..).symm φ (by rw [List.length_range, sizeLine_eq]; exact Nat.lt_of_le_of_lt hsz (by decide)) (fun _ _ => trivial) (fun i d x H2 H3 Qy Qn ed s2 y h1 h2 => ?_) k
  obtain ⟨rfl, rfl⟩ := y
  have hi : i < n := by
    have h := (List.getElem?_eq_some_iff.mp ed).1
    rwa [List.length_range] at h
  rw [List.getElem?_range hi] at ed
  cases ed
  exact ⟨hw _, hs i H3 Qy Qn hi s2 h1 h2⟩
/-! items told by what holds of each alone -/
theorem paired_all {α : Type} {Pd : V → Prop} {l : List α} {ys : List V} (p : Paired (fun _ y => Pd y) l ys) : ∀ y ∈ ys, Pd y := by
  induction p with
  | nil => intro y h; cases h
  | cons r _ ih =>
    intro y h
    rcases List.mem_cons.mp h with e | h
    · rw [e]; exact r
    · exact ih y h
theorem lcR_any (Pd : V → Prop) (hsz : n ≤ 1000000)
    (hs : ∀ (i : Nat) (H2 : Hp) (Qy : V → Hp → Prop), i < n → Same H H2 → (∀ y H6, Same H2 H6 → Pd y → Qy y H6) → te ((wipe σ vs).set j (some (.int (lo + i)))) H2 Qy)
    (k : ∀ D H' ys, H D = none → Same H H' → ys.length = n → (∀ y ∈ ys, Pd y) → H' D = some (.lst ys) → Qd D H') (hw : ∀ x, wipe ((wipe σ vs).set j (some x)) vs = wipe σ vs := by intro _; rfl) : LcJ (Itr lo n) H (gName j) tYes te vs σ Qd := by
  refine lcJ_rel walk_range (List.range n) (List.length_range ..).symm (fun _ => true) (fun _ _ y _ => Pd y) (fun _ _ _ _ _ _ h => h) (by rw [List.length_range, sizeLine_eq]; exact Nat.lt_of_le_of_lt hsz (by decide)) (fun _ _ => trivial) (fun L acc i d x H2 H3 Qy Qn hL hL2 ed s2 y h1 h2 => ?_) (fun L H' ys hL s p e => ?_)
  · obtain ⟨rfl, rfl⟩ := y
    have hi : i < n := by
      have h := (List.getElem?_eq_some_iff.mp ed).1
      rwa [List.length_range] at h
    exact ⟨hw _, hs i H3 Qy hi s2 fun y H6 s6 py => h1 y H6 s6 rfl py⟩
  · have hl := Paired.length p
    have e2 : (List.range n).filter (fun _ => true) = List.range n := List.filter_eq_self.mpr fun _ _ => rfl
    rw [e2, List.length_range] at hl
    exact k L H' ys hL s hl.symm (paired_all p) e
theorem lcL_any (xs : List V) (hp : SqL K H p xs) (Pd : V → Prop) (hsz : xs.length ≤ 1000000)
    (hs : ∀ (i : Nat) (x : V) (H2 : Hp) (Qy : V → Hp → Prop), xs[i]? = some x → Same H H2 → (∀ y H6, Same H2 H6 → Pd y → Qy y H6) → te ((wipe σ vs).set j (some x)) H2 Qy)
    (k : ∀ D H' ys, H D = none → Same H H' → ys.length = xs.length → (∀ y ∈ ys, Pd y) → H' D = some (.lst ys) → Qd D H') (hw : ∀ x, wipe ((wipe σ vs).set j (some x)) vs = wipe σ vs := by intro _; rfl) : LcJ (Itl K p) H (gName j) tYes te vs σ Qd := by
  refine lcJ_rel (walk_list (xs := xs)) xs rfl (fun _ => true) (fun _ _ y _ => Pd y) (fun _ _ _ _ _ _ h => h) (by rw [sizeLine_eq]; exact Nat.lt_of_le_of_lt hsz (by decide)) (fun H1 s => s.seq hp) (fun L acc i d x H2 H3 Qy Qn hL hL2 ed s2 y h1 h2 => ?_) (fun L H' ys hL s p e => ?_)
  · obtain ⟨rfl, ex⟩ := y
    exact ⟨hw _, hs i x H3 Qy ex s2 fun y H6 s6 py => h1 y H6 s6 rfl py⟩
  · have hl := Paired.length p
    have e2 : xs.filter (fun _ => true) = xs := List.filter_eq_self.mpr fun _ _ => rfl
    rw [e2] at hl
    exact k L H' ys hL s hl.symm (paired_all p) e
theorem texts_of {F : Str → Prop} : ∀ {ys : List V}, (∀ y ∈ ys, ∃ x, y = V.str x ∧ F x) → ∃ ws : List Str, ys = ws.map V.str ∧ ∀ x ∈ ws, F x
  | [], _ => ⟨[], rfl, fun _ h => by cases h⟩
  | y :: r, h => by
    obtain ⟨x, e, f⟩ := h y List.mem_cons_self
    obtain ⟨ws, e2, f2⟩ := texts_of (ys := r) fun z hz => h z (List.mem_cons_of_mem _ hz)
    refine ⟨x :: ws, by rw [e, e2]; rfl, fun z hz => ?_⟩
    rcases List.mem_cons.mp hz with e3 | hz
    · rw [e3]; exact f
    · exact f2 z hz
end
end M

/-! sep.join(reversed(list of texts)), list(reversed(list)) -/
namespace RT
open PySem PySem.Spec PyProof.Rows L2
section
variable {prog : Program} {w : World} {A : Around} {E : Value → Shared → Prop} {s : Shared}
theorem join_rev {x : Str} {t : Tok} {ys : List Str} {it l : Addr} {items : Array Value} {Q : Value → Shared → Prop} (hh : A.handled = none) (hit : s.heap.IsRevIter it l ((items.size : Int) - 1)) (hl : s.heap.IsList l items) (hne : l ≠ it) (hn : items.size ≤ sizeLine)
    (hP : ∀ acc : Array Value, ItemsOf (fun i v => items[items.size - 1 - i]? = some v) acc items.size → StrsAre acc.toList ys) (hok : (ys.map (·.length)).sum + ys.length * x.length ≤ 16777216)
    (hq : ∀ (h' : Heap) (tk : Nat) (t' : Tok), (∀ b o, b ≠ it → s.heap.get? b = some o → h'.get? b = some o) → Q (.str (Txt.join x ys) t') { s with heap := h', toks := tk }) :
    wpAny (model prog w) A (call (.builtin "str.join") [.str x t, .ref it]) Q E s := by
  refine wpAny_call (codeAny_call_builtin F.slot_str_join.plain F.entry_str_join (F.slot_str_join.check _ _ _ _ _ _ _ _ (typeIs_str _ _ _) (F.args_str_join_2 _ _) ?_))
  rw [join_tree_other]
  refine wpAny_bind (wpAny_typeOf hit.typeIs ?_)
  show wpAny _ A.in1 ((pyIter (.ref it)).tryCatch _ >>= fun it => collect it >>= fun items => joinTail x items) _ _ s
  refine wpAny_bind (wpAny_tryCatch (wpAny_pyIter_revIter hit ?_))
  refine wpAny_bind (collect_rev (A := A.in1) hh hit hl hne hn (fun h' tk acc hk hacc => ?_))
  obtain ⟨l', hl', ht⟩ := strsAre_values (hP acc hacc)
  subst ht
  rw [hl']
  have hok' := joinOk_of hok
  unfold JoinOk at hok'
  rw [Bool.not_eq_true'] at hok'
  have g : Gives (joinTail x (strValues l')) (joinMade x l') := by
    have g0 := gives_joinTail x l' hok'
    cases l' with
    | nil => exact g0
    | cons p r => cases r with
      | nil => exact g0
      | cons q r' => exact g0
  exact g prog w A (wants Q E) _ (post_join l' ⟨joinFit_length hok', fun t' k => hq h' k t' hk⟩)
end
end RT
namespace M
open PySem PySem.Spec PyProof.Rows L2
def tJoinRev (K : PySem.W.Frag) (to te : TE) : TE := fun σ H Q => to σ H fun x H1 => (∃ a, x = .str a) ∧ te σ H1 fun y H2 => ∃ (a : Str) (p : Addr) (ys : List Str), x = .str a ∧ y = .ref p ∧ SqL K H2 p (ys.map V.str) ∧ (ys.map (·.length)).sum + ys.length * a.length ≤ 16777216 ∧ Q (.str (Txt.join a ys.reverse)) H2
section
variable {X : Cx}
theorem pe_joinRev {o e : Expr} {to te : TE} {apos pos p2 pos2 : Pos} (hc : X.calm = true) (ho : PE X o to) (hg2 : Gl X "reversed") (hm2 : X.mg "reversed" = none) (he : PE X e te)
    (hs1 : starEach [.Call (.Name "reversed" p2) [e] [] pos2] X.env = [(false, eval (.Call (.Name "reversed" p2) [e] [] pos2) X.env)] := by rfl)
    (hs : starEach [e] X.env = (false, eval e X.env) :: starEach [] X.env := by rfl)
    (hbase : attributeBase o "join" X.env (eval o X.env) = eval o X.env := by rfl) (hline : (apos.endLine == pos.line) = true := by rfl) :
    PE X (.Call (.Attribute o "join" apos) [.Call (.Name "reversed" p2) [e] [] pos2] [] pos) (tJoinRev X.K to te) := by
  refine ⟨fun pins s σ H Q I h => ?_⟩
  refine PySem.Call_method1 hbase hs1 hline (thn (ho.run pins s σ H _ I h) fun v s1 ⟨x, H1, I1, r1, q1⟩ => ?_)
  obtain ⟨⟨a, rfl⟩, q1⟩ := q1
  obtain ⟨t, rfl⟩ := _root_.id r1
  refine ⟨"str", _, F.plainAttrs_str, F.slot_str_join, F.type_str_join, typeIs_str _ _ _, (fun _ e => nomatch e), Calls.callWith_builtin rfl (Calls.evalArgs_plain (Calls.spliced_cons ?_))⟩
  refine Call_ (ld_blt I1 hg2 hm2 PyProof.Rows.boot_reversed (PyProof.Rows.callWith_type1 (args_cons (thn (he.run pins s1 σ H1 _ I1 q1) fun u s2 ⟨y, H2, I2, r2, q2⟩ => args_nil ?_) hs) hs rfl))
  obtain ⟨a', p, ys, ea, rfl, hq, hz, q2⟩ := q2
  cases ea
  obtain rfl : u = Value.ref p := r2
  obtain ⟨its, rv, p', hsz⟩ := I2.list hq
  refine call_reversed_list p'.isList (Calls.spliced_nil ?_)
  have k0 : ∀ b o, s2.heap.get? b = some o → (s2.heap.push (revObj p ((its.toArray.size : Int) - 1))).get? b = some o := fun b o e => Heap.get?_push_of_some _ e
  have I3 : Inv X pins σ H2 { s2 with heap := s2.heap.push (revObj p ((its.toArray.size : Int) - 1)) } := I2.kept (t' := s2.toks) k0
  obtain ⟨f0, f1, f2, f3, f4, f5⟩ := I2.fpOk (H' := H2) (b := s2.heap.objs.size) (Nat.le_refl _) (I2.hok.fresh (Nat.le_refl _))
  have hl := p'.isList
  obtain ⟨ol, hol, _⟩ := id hl
  have hne : p ≠ s2.heap.objs.size := Nat.ne_of_lt (Heap.lt_size hol)
  have hn : its.toArray.size ≤ sizeLine := by rw [List.size_toArray, ← rv.length]; exact hsz
  refine RT.join_rev (s := { s2 with heap := s2.heap.push (revObj p ((its.toArray.size : Int) - 1)) }) (ys := ys.reverse) (I2.ok.hd hc) ⟨_, Heap.get?_push_size _ rfl, rfl, rfl⟩ (hl.push _) hne hn (fun acc hi => ?_) ?_ (fun h' tk t' hk => ?_)
  · have r3 := RT.vals_rev rv hi
    rw [← List.map_reverse] at r3
    exact strs_of_vals r3
  · rw [List.length_reverse, List.map_reverse, List.sum_reverse]
    exact hz
  · exact ⟨.str _, H2, I3.turned (t' := tk) (fun b o hb e => hk b o hb e) f0 f1 f3 f4 f5, ⟨t', rfl⟩, q2⟩
end
theorem t_joinRev {K : PySem.W.Frag} {σ : L2.St} {H : Hp} {Q : VK} {to te : TE} (h : to σ H fun x H1 => (∃ a, x = .str a) ∧ te σ H1 fun y H2 => ∃ (a : Str) (p : Addr) (ys : List Str), x = .str a ∧ y = .ref p ∧ SqL K H2 p (ys.map V.str) ∧ (ys.map (·.length)).sum + ys.length * a.length ≤ 16777216 ∧ Q (.str (Txt.join a ys.reverse)) H2) : tJoinRev K to te σ H Q := h
end M

namespace M
open PySem PySem.Spec PyProof.Rows L2
/-! ### != of two lists of the same texts -/
def rNeStrs (K : PySem.W.Frag) : R2 := fun x y H Q => ∃ p q, ∃ ws : List Str, x = .ref p ∧ y = .ref q ∧ SqL K H p (ws.map V.str) ∧ SqL K H q (ws.map V.str) ∧ Q (.bl false) H
theorem op_neStrs {X : Cx} (hu : X.A.units + 64 < cLine) : OpR X (compareOp .NotEq) (rNeStrs X.K) := by
  intro pins s σ H x y v u Q I rx ry h
  obtain ⟨p, q, ws, rfl, rfl, h1, h2, k⟩ := h
  cases rx
  cases ry
  obtain ⟨its, r1, l1, _⟩ := I.list h1
  obtain ⟨its2, r2, l2, _⟩ := I.list h2
  have hu2 : X.A.units < cLine := by omega
  have hs1 : its.toArray.size = ws.length := by rw [List.size_toArray, ← r1.length, List.length_map]
  have hs2 : its2.toArray.size = ws.length := by rw [List.size_toArray, ← r2.length, List.length_map]
  have hall : (List.range its.toArray.size).all (fun _ => true) = true := List.all_eq_true.mpr fun _ _ => rfl
  have e := SeqAt.RcNeAt.lists (A := X.A) (e := fun _ => true) l1.isList l2.isList (by rw [hs1, hs2]) hu2 (fun j h3 h4 => by
    have hj : j < ws.length := by omega
    have e0 : (ws.map V.str)[j]? = some (.str ws[j]) := by rw [List.getElem?_map, List.getElem?_eq_getElem hj]; rfl
    obtain ⟨u1, g1, v1⟩ := Vals.get r1 e0
    obtain ⟨u2, g2, v2⟩ := Vals.get r2 e0
    obtain ⟨t1, rfl⟩ := v1
    obtain ⟨t2, rfl⟩ := v2
    have a1 : its.toArray[j] = .str ws[j] t1 := by
      rw [List.getElem?_eq_getElem (by simpa using h3)] at g1
      simpa using g1
    have a2 : its2.toArray[j] = .str ws[j] t2 := by
      rw [List.getElem?_eq_getElem (by simpa using h4)] at g2
      simpa using g2
    rw [a1, a2]
    have := SeqAt.EqAt.str_str (A := X.A.in1) (s := s) ws[j] t1 ws[j] t2
    rwa [show (ws[j] == ws[j]) = true by rw [← SeqAt.str_beq]; exact beq_self_eq_true _] at this)
  rw [hall] at e
  exact e X.prog X.w X.xe _ ⟨.bl _, H, I, rfl, k⟩
theorem t_neStrs {K : PySem.W.Frag} {H : Hp} {Q : VK} {p q : Addr} (ws : List Str) (h1 : SqL K H p (ws.map V.str)) (h2 : SqL K H q (ws.map V.str)) (k : Q (.bl false) H) : rNeStrs K (.ref p) (.ref q) H Q := ⟨p, q, ws, rfl, rfl, h1, h2, k⟩
theorem t_gtup {K : PySem.W.Frag} {σ : L2.St} {H : Hp} {Q : L2.St → Hp → Prop} {a : Addr} {xs : List V} {n : Nat} {t : TGs} (h : SqT K H a xs) (hl : xs.length = n) (q : t xs σ H Q) : gTup K n t (.ref a) σ H Q := ⟨a, xs, rfl, h, hl, q⟩
theorem t_gcons {σ : L2.St} {H : Hp} {Q : L2.St → Hp → Prop} {v : V} {r : List V} {t : TG} {u : TGs} (q : t v σ H fun σ' H' => u r σ' H' Q) : gCons t u (v :: r) σ H Q := ⟨v, r, rfl, q⟩
theorem t_gnil {σ : L2.St} {H : Hp} {Q : L2.St → Hp → Prop} (q : Q σ H) : gNil [] σ H Q := ⟨rfl, q⟩
end M

/-! methods, classes, attributes, dicts: promises and steps -/
namespace M
open PySem PySem.Spec PyProof.Rows L2
section
variable {P : Program} {w : World} {K : PySem.W.Frag} {mg : Str → Option Value} {base : Heap}
/-- a method of the text, no defaults -/
structure Dm (K : PySem.W.Frag) (C : Addr) (m qual : Str) (st : Stmt) (ps : List Str) : Prop where
  ex : ∃ (f : Addr) (fd : FuncData), L2.Fun K m qual st f fd ∧ Cls K C ∧ Meth K C m f ∧ L2.Binds K fd ps []
/-- .. with defaults: j of them are given -/
structure Dmd (K : PySem.W.Frag) (C : Addr) (m qual : Str) (st : Stmt) (ps : List Str) (dvs : List V) : Prop where
  ex : ∃ (f : Addr) (fd : FuncData), L2.FunD K m qual (defArgs st) (defBody st) (defScope st) dvs [] f fd ∧ Cls K C ∧ Meth K C m f ∧ ∀ j, j ≤ dvs.length → ∃ ds, Vals (dvs.drop j) ds ∧ L2.Binds K fd ps ds
/-- a class's maker -/
structure Dk (K : PySem.W.Frag) (mg : Str → Option Value) (x : Str) (C : Addr) (qual : Str) (st : Stmt) (ps : List Str) : Prop where
  ex : ∃ (f : Addr) (fd : FuncData), L2.Fun K "__init__" qual st f fd ∧ Mk K C f ∧ mg x = some (.ref C) ∧ L2.Binds K fd ps []
theorem met_of {C : Addr} {m qual : Str} {st : Stmt} {N ps : List Str} {k : Nat} {sp : Sp} (D : Dm K C m qual st ps) (S : FnScope N ps (L2.defScope st)) (len : ∀ vs H Q E, sp vs H Q E → vs.length = ps.length)
    (hbody : ∀ (f : Addr) (cdv : Value) (A : Around) (outer : List Env) (s : Shared) (H : Hp) (vs : List V) (Q : VK) (E : XK), Room k (A.deeper (envOfC qual (L2.defScope st) s.heap.objs.size f cdv)) → sp vs H Q E →
      ∃ t, PSs (cxOf L2.CX0 P w K mg base N qual (L2.defScope st) f cdv A outer s H E).nox (L2.defBody st) t ∧ t { nx := fun _ H' => Q .non H', rt := Q } (start N vs) H) : C8.Met P w K mg base (k + 1) C m sp [] := by
  obtain ⟨f, fd, F, c, me, b⟩ := D.ex
  exact ⟨f, fd, ps, [], c, me, F.ok S len (fun cdv A outer s H vs Q E hr h => hbody f cdv A outer s H vs Q E hr h), b, .nil⟩
theorem metd_of {C : Addr} {m qual : Str} {st : Stmt} {N ps : List Str} {dvs : List V} {k : Nat} {sp : Sp} (j : Nat) (hj : j ≤ dvs.length) (D : Dmd K C m qual st ps dvs) (S : FnScope N ps (L2.defScope st)) (len : ∀ vs H Q E, sp vs H Q E → vs.length = ps.length)
    (hbody : ∀ (f : Addr) (cdv : Value) (A : Around) (outer : List Env) (s : Shared) (H : Hp) (vs : List V) (Q : VK) (E : XK), Room k (A.deeper (envOfC qual (L2.defScope st) s.heap.objs.size f cdv)) → sp vs H Q E →
      ∃ t, PSs (cxOf L2.CX0 P w K mg base N qual (L2.defScope st) f cdv A outer s H E).nox (L2.defBody st) t ∧ t { nx := fun _ H' => Q .non H', rt := Q } (start N vs) H) : C8.Met P w K mg base (k + 1) C m sp (dvs.drop j) := by
  obtain ⟨f, fd, F, c, me, b⟩ := D.ex
  obtain ⟨ds, hd, hb⟩ := b j hj
  refine ⟨f, fd, ps, ds, c, me, F.ok S len (fun cdv A outer s H vs Q E hr h => ?_), hb, hd⟩
  obtain ⟨t, h1, h2⟩ := hbody f cdv A outer s H vs Q E hr h
  exact ⟨t, h1.nox, h2⟩
theorem mak_of {x qual : Str} {C : Addr} {st : Stmt} {N ps : List Str} {k : Nat} {sp : Sp} (D : Dk K mg x C qual st ps) (S : FnScope N ps (L2.defScope st)) (len : ∀ vs H Q E, sp vs H Q E → vs.length = ps.length)
    (hbody : ∀ (f : Addr) (cdv : Value) (A : Around) (outer : List Env) (s : Shared) (H : Hp) (vs : List V) (Q : VK) (E : XK), Room k (A.deeper (envOfC qual (L2.defScope st) s.heap.objs.size f cdv)) → sp vs H Q E →
      ∃ t, PSs (cxOf L2.CX0 P w K mg base N qual (L2.defScope st) f cdv A outer s H E).nox (L2.defBody st) t ∧ t { nx := fun _ H' => Q .non H', rt := Q } (start N vs) H) : C8.Mak P w K mg base (k + 1) x C sp [] := by
  obtain ⟨f, fd, F, M, hm, b⟩ := D.ex
  exact ⟨f, fd, ps, [], M, F.ok S len (fun cdv A outer s H vs Q E hr h => hbody f cdv A outer s H vs Q E hr h), hm, b, .nil⟩
end
section
variable {X : Cx} {k j : Nat} {C : Addr} {x m : Str} {sp : Sp} {dvs : List V} {p pos apos : Pos} {e o : Expr} {es : List Expr} {ta : TE} {t : TA}
theorem m_mk (c : C8.Mak X.prog X.w X.K X.mg X.base k x C sp dvs) (hr : Room j X.A) (hk : k + 1 ≤ j) (hg : Gl X x) (ha : PA X (e :: es) t)
    (hdb : (x == ("__debug__" : Str)) = false := by decide) (he : starEach (e :: es) X.env = (false, eval e X.env) :: starEach es X.env := by rfl) (hpl : (backTo pos (starEach es X.env)).any (·.1) = false := by rfl) :
    PE X (.Call (.Name x p) (e :: es) [] pos) (tMake C sp dvs E0 t) := C8.pe_mk c hr hk hg ha hdb he hpl
theorem m_mk0 (c : C8.Mak X.prog X.w X.K X.mg X.base k x C sp dvs) (hr : Room j X.A) (hk : k + 1 ≤ j) (hg : Gl X x) (hdb : (x == ("__debug__" : Str)) = false := by decide) :
    PE X (.Call (.Name x p) [] [] pos) (tMake C sp dvs E0 tNil) := by
  obtain ⟨f, fd, ps, ds, M, F, hm, b, d⟩ := c.ex
  exact pe_make0 M F (hr.mono hk) hg hm b d pass0 hdb
theorem m_mt {pl : Sem Bool} (c : C8.Met X.prog X.w X.K X.mg X.base k C m sp dvs) (hr : Room j X.A) (hk : k ≤ j) (he : PE X o ta) (ha : PA X (e :: es) t)
    (hst : starEach (e :: es) X.env = (false, eval e X.env) :: starEach es X.env := by rfl) (hpl : (backTo pos (starEach es X.env)).any (·.1) = false := by rfl)
    (ht : eval (.Call (.Attribute o m apos) (e :: es) [] pos) X.env = (do
      let ov ← eval o X.env
      standAt apos.atName
      let (f, first) ← holding [ov] (getMethod ov m pl)
      callWith pos f first (backTo pos (starEach (e :: es) X.env)) (backToKw pos (keywordEach [] X.env))) := by rfl) :
    PE X (.Call (.Attribute o m apos) (e :: es) [] pos) (tMeth C m sp dvs E0 ta t) := C8.pe_mt (pl := pl) c hr hk he ha hst hpl ht
theorem m_mt0 {pl : Sem Bool} (c : C8.Met X.prog X.w X.K X.mg X.base k C m sp dvs) (hr : Room j X.A) (hk : k ≤ j) (he : PE X o ta)
    (ht : eval (.Call (.Attribute o m apos) [] [] pos) X.env = (do
      let ov ← eval o X.env
      standAt apos.atName
      let (f, first) ← holding [ov] (getMethod ov m pl)
      callWith pos f first (backTo pos (starEach [] X.env)) (backToKw pos (keywordEach [] X.env))) := by rfl) :
    PE X (.Call (.Attribute o m apos) [] [] pos) (tMeth C m sp dvs E0 ta tNil) := C8.pe_mt0 (pl := pl) c hr hk he ht
end
section
variable {X : Cx} {o i : Expr} {pos : Pos} {td ty : TE}
/-! inside a comprehension: the fragment told -/
theorem m_fld {K : PySem.W.Frag} {e : Expr} {f : Str} {ta : TE} (he : PE X e ta) (hb : attributeBase e f X.env (eval e X.env) = eval e X.env) (hK : X.K = K := by rfl) : PE X (.Attribute e f pos) (tFld K ta f) := hK ▸ pe_fld he hb
theorem m_isi {K : PySem.W.Frag} (hK : X.K = K := by rfl) : CallR X (.builtin "isinstance") (rIsi K) := hK ▸ call_isi
theorem m_lenS {K : PySem.W.Frag} (hK : X.K = K := by rfl) : CallR X (.builtin "len") (rLenSeq K) := hK ▸ cl_len_seq
theorem m_ixL {K : PySem.W.Frag} (hK : X.K = K := by rfl) : IxR X (rIxL K) := hK ▸ ix_list
theorem m_ixT {K : PySem.W.Frag} (hK : X.K = K := by rfl) : IxR X (rIxT K) := hK ▸ ix_tup
theorem m_slL {K : PySem.W.Frag} (hK : X.K = K := by rfl) : SlR X (rSlL K) := hK ▸ sl_list
theorem m_inS {K : PySem.W.Frag} (hK : X.K = K := by rfl) : OpR X (compareOp .In) (rIn K false) := hK ▸ op_in_seq
theorem m_notinS {K : PySem.W.Frag} (hK : X.K = K := by rfl) : OpR X (compareOp .NotIn) (rIn K true) := hK ▸ op_notIn_seq
theorem m_neD {K : PySem.W.Frag} (hu : X.A.units + 64 < cLine) (hK : X.K = K := by rfl) : OpR X (compareOp .NotEq) (rNeD K) := hK ▸ op_neD hu
theorem m_eqD {K : PySem.W.Frag} (hu : X.A.units + 64 < cLine) (hK : X.K = K := by rfl) : OpR X (compareOp .Eq) (rEqD K) := hK ▸ op_eqD hu
theorem m_gtup {K : PySem.W.Frag} {n : Nat} {es : List Expr} {k : Nat} {t : TGs} (hc : X.calm = true) (h : PGs X es t) (hn : (assignEach es X.env).length = n := by rfl) (hst : (assignEach es X.env).findIdx? (·.1) = none := by rfl) (hK : X.K = K := by rfl) : PG X (.Tuple es k pos) (gTup K n t) := hK ▸ pg_tup hc h hn hst
/-- d[i] inside a comprehension: the room last -/
theorem m_dget (ho : PE X o td) (hi : PE X i ty) (hs : NoSl i) (hu : X.A.units + 1 < cLine) : PE X (.Subscript o i pos) (tDGet td ty) := pe_dget hu ho hi hs
theorem m_dnotin (hi : PE X i ty) (ho : PE X o td) (hu : X.A.units + 1 < cLine) : PC X .NotIn i o (tDNotIn ty td) := pc_dnotin hu hi ho
theorem m_din (hi : PE X i ty) (ho : PE X o td) (hu : X.A.units + 1 < cLine) : PC X .In i o (tDIn ty td) := pc_din hu hi ho
end
/-! ### steps -/
section
variable {K : PySem.W.Frag} {σ : L2.St} {H : Hp} {Q : VK} {x y v : V} {a C dx : Addr} {fs : List (Str × V)} {f m : Str} {ta tv td ty : TE} {t : TA} {D : Ends} {sp : Sp} {dvs : List V} {E : XK}
theorem t_fld (h : ta σ H fun x H1 => ∃ a C dx fs v, x = .ref a ∧ H1 a = some (.ins C dx fs) ∧ Cls K C ∧ NoAttr K C f ∧ fs.lookup f = some v ∧ Q v H1) : tFld K ta f σ H Q := h
theorem k_fld {R : V → Prop} (ho : H a = some (.ins C dx fs)) (hc : Cls K C) (hn : NoAttr K C f) (hl : fs.lookup f = some v) (q : R v) : ∃ a' C dx fs v, V.ref a = .ref a' ∧ H a' = some (.ins C dx fs) ∧ Cls K C ∧ NoAttr K C f ∧ fs.lookup f = some v ∧ R v := ⟨a, C, dx, fs, v, rfl, ho, hc, hn, hl, q⟩
theorem t_sfld (h : tv σ H fun y H1 => ta σ H1 fun x H2 => ∃ a C dx fs, x = .ref a ∧ H2 a = some (.ins C dx fs) ∧ Cls K C ∧ NoAttr K C f ∧ fs.length < 1000 ∧ D.nx σ (upd H2 a (.ins C dx (putF f y fs)))) : sFld K ta tv f D σ H := h
theorem t_meth (h : ta σ H fun x H1 => ∃ a dx fs, x = .ref a ∧ H1 a = some (.ins C dx fs) ∧ fs.lookup m = none ∧ t σ H1 fun vs H2 => sp (x :: (vs ++ dvs)) H2 Q E) : tMeth C m sp dvs E ta t σ H Q := h
theorem t_make (h : t σ H fun vs H1 => ∀ x dx, H1 x = none → H1 dx = none → dx ≠ x → sp (.ref x :: (vs ++ dvs)) (upd (upd H1 dx (.own x)) x (.ins C dx [])) (fun v H2 => v = .non ∧ Q (.ref x) H2) E) : tMake C sp dvs E t σ H Q := h
theorem t_dget (h : td σ H fun x H1 => ty σ H1 fun y H2 => ∃ a v, x = .ref a ∧ DGet H2 a y (some v) ∧ Q v H2) : tDGet td ty σ H Q := h
theorem t_din (h : ty σ H fun y H1 => td σ H1 fun x H2 => ∃ a o, x = .ref a ∧ DGet H2 a y o ∧ Q (.bl o.isSome) H2) : tDIn ty td σ H Q := h
theorem t_dnotin (h : ty σ H fun y H1 => td σ H1 fun x H2 => ∃ a o, x = .ref a ∧ DGet H2 a y o ∧ Q (.bl (!o.isSome)) H2) : tDNotIn ty td σ H Q := h
theorem t_dput (h : tv σ H fun v H1 => td σ H1 fun x H2 => ty σ H2 fun y H3 => ∃ a H4, x = .ref a ∧ DPut H3 a y v H4 ∧ D.nx σ H4) : sDPut td ty tv D σ H := h
theorem t_dpop1 (h : td σ H fun x H1 => ∃ a, x = .ref a ∧ IsD H1 a ∧ ty σ H1 fun y H2 => ∃ kvs k v, H2 a = some (.dK kvs) ∧ y = kV k ∧ valV kvs k = some v ∧ Q v (upd H2 a (.dK (dropK kvs k)))) : tDPop1 td ty σ H Q := h
end
end M

namespace M
open PySem PySem.Spec PyProof.Rows L2
/-! ### != of a dict and an empty one; tuple + tuple -/
def rNeDE : R2 := fun x y H Q => ∃ a b, ∃ ks : List (Key × V), x = .ref a ∧ y = .ref b ∧ H a = some (.dK ks) ∧ H b = some (.dK []) ∧ Q (.bl (!ks.isEmpty)) H
section
variable {X : Cx}
theorem op_neDict (hu : X.A.units < cLine) : OpR X (compareOp .NotEq) rNeDE := by
  intro pins s σ H x y v u Q I rx ry h
  obtain ⟨a, b, ks, rfl, rfl, ea, eb, q⟩ := h
  obtain rfl : v = Value.ref a := rx
  obtain rfl : u = Value.ref b := ry
  obtain ⟨_, ya, va, ra, da⟩ := (show ObjOk X.prog X.w H s.heap a (.dK ks) from I.hok a _ ea)
  obtain ⟨_, yb, vb, rb, db⟩ := (show ObjOk X.prog X.w H s.heap b (.dK []) from I.hok b _ eb)
  have hb : vb.length = 0 := by rw [← rb.length]; rfl
  have ha : va.length = ks.length := ra.length.symm
  refine PySem.W.keq_ne (knd := mixKind X.prog X.w) (r := true) ya yb da db hu (fun hl => ?_) (fin_bl I q ?_)
  · have h0 : ks = [] := List.eq_nil_of_length_eq_zero (by omega)
    subst h0
    exact hits_all rb ra (fun p hp => nomatch hp)
  · rw [ha, hb]
    cases ks with
    | nil => rfl
    | cons a r => simp
theorem m_catA {K : PySem.W.Frag} (hK : X.K = K := by rfl) : OpR X (binaryOp .Add) (rCatA K) := hK ▸ op_catA
end
theorem t_catA {K : PySem.W.Frag} {H : Hp} {Q : VK} {a b : Addr} {xs ys : List V} (h1 : SqT K H a xs) (h2 : SqT K H b ys) (hx : xs ≠ []) (hy : ys ≠ []) (hl : xs.length + ys.length ≤ sizeLine) (q : ∀ p, H p = none → Q (.ref p) (upd H p (.tup (xs ++ ys)))) : rCatA K (.ref a) (.ref b) H Q :=
  ⟨a, b, xs, ys, rfl, rfl, h1, h2, hl, fun e => absurd e hx, fun _ e => absurd e hy, fun _ _ p hp => q p hp⟩
theorem t_neDict {H : Hp} {Q : VK} {a b : Addr} {ks : List (Key × V)} (h1 : H a = some (.dK ks)) (h2 : H b = some (.dK [])) (q : Q (.bl (!ks.isEmpty)) H) : rNeDE (.ref a) (.ref b) H Q := ⟨a, b, ks, rfl, rfl, h1, h2, q⟩
end M

/-! texts as lists of numbers -/
namespace A
open PySem PySem.Spec PyProof.Rows L2 NumText
open TL (tl)
theorem tl_ext {x y : Str} (h : tl x = tl y) : x = y := TL.ext_tl h
theorem tl_iff {x y : Str} : x = y ↔ tl x = tl y := ⟨fun h => by rw [h], tl_ext⟩
theorem tl_len (z : Str) : z.length = (tl z).length := TL.len_tl z
theorem tl_cat (x y : Str) : tl (x ++ y) = tl x ++ tl y := TL.tl_append x y
theorem len_cat (x y : Str) : (x ++ y).length = x.length + y.length := by rw [tl_len, tl_cat, List.length_append, tl_len, tl_len]
theorem tl_cut (z : Str) (lo hi : Option Int) : tl (cutS z lo hi) = ((tl z).drop (HT.sIx z.length 0 lo)).take (HT.sIx z.length z.length hi - HT.sIx z.length 0 lo) := rfl
theorem sIx_int (n d : Nat) (i : Int) (h : 0 ≤ i) : HT.sIx n d (some i) = min i.toNat n := by
  show (if i < 0 then _ else min i.toNat n) = _
  rw [if_neg (by omega)]
theorem tl_from (z : Str) (i : Int) (h : 0 ≤ i) : tl (cutS z (some i) none) = (tl z).drop i.toNat := by
  rw [tl_cut, sIx_int _ _ _ h, HT.sIx_none, tl_len]
  by_cases c : i.toNat ≤ (tl z).length
  · rw [Nat.min_eq_left c, List.take_of_length_le (by rw [List.length_drop]; omega)]
  · rw [Nat.min_eq_right (by omega), List.drop_of_length_le (by omega), List.drop_of_length_le (by omega), List.take_nil]
theorem tl_to (z : Str) (i : Int) (h : 0 ≤ i) : tl (cutS z none (some i)) = (tl z).take i.toNat := by
  rw [tl_cut, sIx_int _ _ _ h, HT.sIx_none, tl_len]
  show ((tl z).drop 0).take (min i.toNat (tl z).length - 0) = _
  rw [List.drop_zero, Nat.sub_zero]
  by_cases c : i.toNat ≤ (tl z).length
  · rw [Nat.min_eq_left c]
  · rw [Nat.min_eq_right (by omega), List.take_of_length_le (by omega), List.take_of_length_le (by omega)]
theorem cut_from_len (z : Str) (i : Int) (h : 0 ≤ i) : (cutS z (some i) none).length ≤ z.length := cutS_length z _ _
theorem sub1 (x y : Str) (c : Nat) (hy : tl y = [c]) : Txt.startswith x y = decide ((tl x).head? = some c) := by
  have hp := TL.at_iff (x := x) (y := y) (by rw [hy]; simp) 0
  have e : Txt.startswith x y = true ↔ TL.pre (tl y) ((tl x).drop 0) = true := by
    rw [← hp]
    unfold Txt.startswith
    simp only [Bool.and_eq_true, decide_eq_true_eq]
    exact Iff.rfl
  rw [hy, List.drop_zero] at e
  have e2 : TL.pre [c] (tl x) = true ↔ (tl x).head? = some c := by
    unfold TL.pre
    cases tl x with
    | nil => simp
    | cons a r => simp
  rw [Bool.eq_iff_iff, e, e2]
  simp
theorem starts_dash (z : Str) : Txt.startswith z "-" = decide ((tl z).head? = some 45) := sub1 z "-" 45 (by decide +kernel)
/-! numbers -/
def isDig (c : Nat) : Bool := decide (48 ≤ c) && decide (c ≤ 57)
theorem isDig_mem (c : Nat) : decide (c ∈ tl "0123456789") = isDig c := by
  have e : tl "0123456789" = [48, 49, 50, 51, 52, 53, 54, 55, 56, 57] := by decide +kernel
  rw [e, Bool.eq_iff_iff]
  unfold isDig
  simp only [decide_eq_true_eq, Bool.and_eq_true, List.mem_cons, List.not_mem_nil, or_false]
  omega
def figs (l : List Nat) : List Nat := if l.head? = some 45 then l.drop 1 else l
def val (l : List Nat) : Int := (digitsVal l : Nat)
def good (l : List Nat) : Bool := decide (1 ≤ (figs l).length) && decide ((figs l).length ≤ 61) && (figs l).all isDig
def numRd (l : List Nat) : Option Int :=
  if good l = true then
    if (figs l).head? = some 48 ∧ l ≠ [48] then none
    else some (if l.head? = some 45 then 0 - val (figs l) else val (figs l))
  else none
theorem allDig {l : List Nat} (h : l.all isDig = true) : AllDigits l := fun c hc => by
  have z := List.all_eq_true.mp h c hc
  unfold isDig at z
  rw [Bool.and_eq_true, decide_eq_true_eq, decide_eq_true_eq] at z
  exact z
theorem int_pos {z : Str} (h : (tl z).all isDig = true) (h1 : 1 ≤ (tl z).length) (h2 : (tl z).length ≤ 100) : intText? z = some (val (tl z)) :=
  intText_digits (allDig h) (by intro e; rw [show tl z = [] from e] at h1; simp at h1) (by rw [tl_len]; omega)
theorem int_neg {z : Str} {l : List Nat} (e : tl z = 45 :: l) (h : l.all isDig = true) (h1 : 1 ≤ l.length) (h2 : l.length ≤ 100) : intText? z = some (0 - val l) := by
  have hd := allDig h
  have ez : z.cps.toList = 45 :: l := e
  rw [intText_of fun c hc => by
    rw [ez] at hc
    rcases List.mem_cons.mp hc with e1 | e1
    · exact Or.inl e1
    · exact Or.inr (hd c e1)]
  rw [ez, dropWhile_of (by decide)]
  have es : sign (45 :: l) = (true, l) := rfl
  have hne : l ≠ [] := by intro q; rw [q] at h1; simp at h1
  have ec : core (45 :: l) = l := by
    unfold core
    rw [dropWhile_of (by decide), es]
    show (l.reverse.dropWhile blank).reverse = l
    rw [dropWhile_digits hd.reverse, List.reverse_reverse]
  rw [ec, es, digits_of hd hne]
  have hsz := push_size l #[]
  have hv := push_foldl l #[]
  show (if _ ≤ 4300 then some (worth true _) else none) = _
  rw [if_pos (by rw [hsz]; simp only [Array.size_empty]; omega)]
  unfold worth val digitsVal
  rw [hv]
  show some (-((_ : Nat) : Int)) = some (0 - _)
  rw [Int.zero_sub]
  rfl
/-- a good text is read as its number -/
theorem int_good {z : Str} (h : good (tl z) = true) : intText? z = some (if (tl z).head? = some 45 then 0 - val (figs (tl z)) else val (figs (tl z))) := by
  unfold good at h
  simp only [Bool.and_eq_true, decide_eq_true_eq] at h
  obtain ⟨⟨h1, h2⟩, h3⟩ := h
  by_cases c : (tl z).head? = some 45
  · rw [if_pos c]
    have e : tl z = 45 :: figs (tl z) := by
      unfold figs
      rw [if_pos c]
      cases q : tl z with
      | nil => rw [q] at c; simp at c
      | cons a r =>
        rw [q] at c
        have : a = 45 := by simpa using c
        rw [this]
        rfl
    exact int_neg e h3 h1 (by omega)
  · rw [if_neg c]
    have e : figs (tl z) = tl z := by
      unfold figs
      rw [if_neg c]
    rw [e] at h1 h2 h3 ⊢
    exact int_pos h3 h1 (by omega)
/-- what number_of tells, as a value -/
def numV : V → V
  | .str z => (numRd (tl z)).elim .non .int
  | _ => .non
theorem figs_le (l : List Nat) : (figs l).length ≤ l.length := by
  unfold figs
  split
  · rw [List.length_drop]; omega
  · exact Nat.le_refl _
theorem dec_sign (c d : Nat) (y : Str) (h : tl y = [d]) : decide (V.str ⟨#[c]⟩ = V.str y) = decide (c = d) := by
  rw [Bool.eq_iff_iff]
  simp only [decide_eq_true_eq, V.str.injEq]
  constructor
  · intro e
    have e2 : tl ⟨#[c]⟩ = tl y := by rw [e]
    rw [h] at e2
    exact (List.cons.inj (show [c] = [d] from e2)).1
  · intro e
    subst e
    exact tl_ext (by rw [h] <;> rfl)
theorem dec_text (x y : Str) : decide (V.str x = V.str y) = decide (tl x = tl y) := by
  rw [Bool.eq_iff_iff]
  simp only [decide_eq_true_eq, V.str.injEq]
  exact tl_iff
theorem joinL_nil : ∀ ls : List (List Nat), TL.joinL [] ls = ls.flatten
  | [] => rfl
  | [x] => by
    show x = [x].flatten
    simp
  | x :: y :: r => by
    show x ++ ([] ++ TL.joinL [] (y :: r)) = _
    rw [joinL_nil (y :: r), List.nil_append]
    simp only [List.flatten_cons]
theorem tl_join0 (ws : List Str) : tl (Txt.join "" ws) = (ws.map tl).flatten := by
  rw [TL.join_eq, TL.tl_join, show tl "" = [] by decide +kernel, joinL_nil]
theorem len_join0 (ws : List Str) : (Txt.join "" ws).length = (ws.map (·.length)).sum := by
  rw [tl_len, tl_join0, List.length_flatten, List.map_map]
  exact congrArg List.sum (List.map_congr_left fun x _ => (tl_len x).symm)
theorem val_snoc (l : List Nat) (c : Nat) (h : isDig c = true) : val (l ++ [c]) = 10 * val l + ((c - 48 : Nat) : Int) := by
  unfold val
  rw [digitsVal_snoc]
  omega
theorem fold_lt : ∀ (l : List Nat) (a : Nat), l.all isDig = true → l.foldl (fun acc c => acc * 10 + (c - 48)) a < (a + 1) * 10 ^ l.length
  | [], a, _ => by simp
  | c :: r, a, h => by
    rw [List.all_cons, Bool.and_eq_true] at h
    have h1 := fold_lt r (a * 10 + (c - 48)) h.2
    have h2 := h.1
    unfold isDig at h2
    rw [Bool.and_eq_true, decide_eq_true_eq, decide_eq_true_eq] at h2
    rw [List.foldl_cons, List.length_cons, Nat.pow_succ]
    refine Nat.lt_of_lt_of_le h1 ?_
    rw [Nat.mul_comm (10 ^ r.length) 10, ← Nat.mul_assoc]
    exact Nat.mul_le_mul_right _ (by omega)
theorem val_lt (l : List Nat) (h : l.all isDig = true) : 0 ≤ val l ∧ val l < ((10 ^ l.length : Nat) : Int) := by
  have h1 := fold_lt l 0 h
  rw [Nat.zero_add, Nat.one_mul] at h1
  exact ⟨Int.natCast_nonneg _, Int.ofNat_lt.mpr h1⟩
end A

/-! the value level: data, worlds, what stands where -/
namespace Z
open PySem PySem.Spec PyProof.Rows L2

inductive D where
  | non | bl (b : Bool) | int (i : Int) | str (s : Str)
  | lst (xs : List D) | con (xs : List D) | tup (xs : List D) | dct (kvs : List (Key × D)) | obj (c : Str) (fs : List (Str × D)) | cell (i : Nat)
/-- a value at hand: data; a list or dict of its own that nobody else has; what slot k holds -/
inductive Vl where
  | d (x : D) | own (x : D) | loc (k : Nat)
structure Sto where
  nx : Nat
  get : Nat → Option D
structure SD where
  sl : List (Option Vl)
  st : Sto
inductive R (α : Type) where
  | ok (a : α) (s : SD) | ex (c : Str) (fs : List (Str × D)) (s : SD) | bad
def R.bind {α β : Type} (m : R α) (k : α → SD → R β) : R β := match m with
  | .ok a s => k a s
  | .ex c fs s => .ex c fs s
  | .bad => .bad
abbrev XQ := Str → List (Str × D) → SD → Prop
def Wp {α : Type} (m : R α) (Q : α → SD → Prop) (E : XQ) : Prop := match m with
  | .ok a s => Q a s
  | .ex c fs s => E c fs s
  | .bad => False
theorem Wp_bind {α β : Type} {m : R α} {k : α → SD → R β} {Q : β → SD → Prop} {E : XQ} : Wp (m.bind k) Q E = Wp m (fun a s => Wp (k a s) Q E) E := by
  cases m <;> rfl
theorem Wp_ok {α : Type} {a : α} {s : SD} {Q : α → SD → Prop} {E : XQ} : Wp (.ok a s) Q E = Q a s := rfl
theorem Wp_bad {α : Type} {Q : α → SD → Prop} {E : XQ} : Wp (.bad : R α) Q E = False := rfl
theorem Wp.mono {α : Type} {m : R α} {Q Q' : α → SD → Prop} {E E' : XQ} (h : Wp m Q E) (hq : ∀ a s, Q a s → Q' a s) (he : ∀ c fs s, E c fs s → E' c fs s) : Wp m Q' E' := by
  cases m with
  | ok a s => exact hq _ _ h
  | ex c fs s => exact he _ _ _ h
  | bad => exact h

/-- the module's fixed things -/
structure Gc where
  K : PySem.W.Frag
  mg : Str → Option Value
/-- a world: where the cells lie, how many there are, what is owned, the heap -/
structure Wr where
  γ : Nat → Addr
  n : Nat
  O : Addr → Prop
  H : Hp
/-- kept; a dict may be walked from now on, and never be changed any more -/
def Kept (o : HO) (x : Option HO) : Prop := x = some o ∨ ∃ kvs od, o = .dK kvs ∧ x = some (.frz od o)
def RdF (p : Wr) (a : Addr) (u : HO) : Prop := ¬ p.O a ∧ Rd p.H a u
/-- a list of the written part -/
def KL (K : PySem.W.Frag) (a : Addr) (xs : List V) : Prop := ∃ (o : Obj) (its : Array Value) (n : Nat), K.lookup a = some o ∧ o.cls = .type "list" ∧ o.dict = none ∧ o.data = .seq its n ∧ its.size ≤ sizeLine ∧ Vals xs its.toList
mutual
def Rep (G : Gc) (p : Wr) : D → V → Prop
  | .non, v => v = .non
  | .bl b, v => v = .bl b
  | .int i, v => v = .int i
  | .str s, v => v = .str s
  | .lst ds, v => ∃ a vs, v = .ref a ∧ (¬ p.O a ∧ p.H a = some (.lst vs)) ∧ Reps G p ds vs
  | .con ds, v => ∃ a vs, v = .ref a ∧ (RdF p a (.lst vs) ∨ KL G.K a vs) ∧ Reps G p ds vs
  | .tup ds, v => ∃ a vs, v = .ref a ∧ (¬ p.O a ∧ p.H a = some (.tup vs)) ∧ Reps G p ds vs
  | .dct ds, v => ∃ a vs, v = .ref a ∧ RdF p a (.dK vs) ∧ RepK G p ds vs
  | .obj c ds, v => ∃ a C dx vs, v = .ref a ∧ ¬ p.O a ∧ G.mg c = some (.ref C) ∧ p.H a = some (.ins C dx vs) ∧ RepF G p ds vs
  | .cell i, v => i < p.n ∧ v = .ref (p.γ i)
def Reps (G : Gc) (p : Wr) : List D → List V → Prop
  | [], vs => vs = []
  | d :: ds, vs => ∃ v r, vs = v :: r ∧ Rep G p d v ∧ Reps G p ds r
def RepK (G : Gc) (p : Wr) : List (Key × D) → List (Key × V) → Prop
  | [], vs => vs = []
  | (k, d) :: ds, vs => ∃ v r, vs = (k, v) :: r ∧ Rep G p d v ∧ RepK G p ds r
def RepF (G : Gc) (p : Wr) : List (Str × D) → List (Str × V) → Prop
  | [], vs => vs = []
  | (k, d) :: ds, vs => ∃ v r, vs = (k, v) :: r ∧ Rep G p d v ∧ RepF G p ds r
end
structure Wr.le (p q : Wr) : Prop where
  γ : ∀ i, i < p.n → q.γ i = p.γ i
  n : p.n ≤ q.n
  H : ∀ b o, ¬ p.O b → p.H b = some o → Kept o (q.H b) ∧ ¬ q.O b
theorem Wr.le.refl (p : Wr) : p.le p := ⟨fun _ _ => rfl, Nat.le_refl _, fun _ _ h e => ⟨.inl e, h⟩⟩
theorem Kept.trans {o : HO} {y : Option HO} {x : HO} (a : Kept o (some x)) (b : Kept x y) : Kept o y := by
  rcases a with a | ⟨kvs, od, rfl, a⟩
  · cases a; exact b
  · cases a
    rcases b with b | ⟨_, _, b, _⟩
    · exact .inr ⟨kvs, od, rfl, b⟩
    · cases b
theorem Wr.le.trans {p q r : Wr} (a : p.le q) (b : q.le r) : p.le r := ⟨fun i h => (b.γ i (Nat.lt_of_lt_of_le h a.n)).trans (a.γ i h), Nat.le_trans a.n b.n, fun c o h e => by
  obtain ⟨k, h1⟩ := a.H c o h e
  have : ∃ x, q.H c = some x := by rcases k with k | ⟨_, _, _, k⟩ <;> exact ⟨_, k⟩
  obtain ⟨x, ex⟩ := this
  obtain ⟨k2, h2⟩ := b.H c x h1 ex
  rw [ex] at k
  exact ⟨k.trans k2, h2⟩⟩
theorem Wr.le.x {p q : Wr} (l : p.le q) {a : Addr} {o : HO} (n : ¬ p.O a) (h : p.H a = some o) (hd : ∀ kvs, o ≠ .dK kvs) : ¬ q.O a ∧ q.H a = some o := by
  obtain ⟨k, n'⟩ := l.H _ _ n h
  rcases k with k | ⟨kvs, _, k, _⟩
  · exact ⟨n', k⟩
  · exact (hd kvs k).elim
theorem Wr.le.rd {p q : Wr} (l : p.le q) {a : Addr} {u : HO} (h : RdF p a u) : RdF q a u := by
  obtain ⟨n, h | ⟨o, h⟩⟩ := h
  · obtain ⟨k, n'⟩ := l.H _ _ n h
    rcases k with k | ⟨_, od, _, k⟩
    · exact ⟨n', .inl k⟩
    · exact ⟨n', .inr ⟨od, k⟩⟩
  · obtain ⟨n', k⟩ := l.x n h (fun _ z => nomatch z)
    exact ⟨n', .inr ⟨o, k⟩⟩
/-- all that data lean on goes over -/
structure Wr.tr (p q : Wr) : Prop where
  γ : ∀ i, i < p.n → q.γ i = p.γ i
  n : p.n ≤ q.n
  L : ∀ b vs, ¬ p.O b → p.H b = some (.lst vs) → ¬ q.O b ∧ q.H b = some (.lst vs)
  T : ∀ b vs, ¬ p.O b → p.H b = some (.tup vs) → ¬ q.O b ∧ q.H b = some (.tup vs)
  I : ∀ b C dx vs, ¬ p.O b → p.H b = some (.ins C dx vs) → ¬ q.O b ∧ q.H b = some (.ins C dx vs)
  C : ∀ b vs, RdF p b (.lst vs) → RdF q b (.lst vs)
  K : ∀ b vs, RdF p b (.dK vs) → RdF q b (.dK vs)
theorem Wr.le.tr {p q : Wr} (l : p.le q) : p.tr q := ⟨l.γ, l.n, fun b _ n h => l.x n h (fun _ z => nomatch z), fun b _ n h => l.x n h (fun _ z => nomatch z), fun b _ _ _ n h => l.x n h (fun _ z => nomatch z), fun _ _ h => l.rd h, fun _ _ h => l.rd h⟩
mutual
theorem Rep.go {G : Gc} {p q : Wr} (l : p.tr q) : ∀ {d : D} {v : V}, Rep G p d v → Rep G q d v
  | .non, _, h => h
  | .bl _, _, h => h
  | .int _, _, h => h
  | .str _, _, h => h
  | .lst _, _, h => let ⟨a, vs, e, r, t⟩ := h; ⟨a, vs, e, l.L _ _ r.1 r.2, Reps.go l t⟩
  | .con _, _, h => let ⟨a, vs, e, r, t⟩ := h; ⟨a, vs, e, r.imp (l.C _ _) id, Reps.go l t⟩
  | .tup _, _, h => let ⟨a, vs, e, r, t⟩ := h; ⟨a, vs, e, l.T _ _ r.1 r.2, Reps.go l t⟩
  | .dct _, _, h => let ⟨a, vs, e, r, t⟩ := h; ⟨a, vs, e, l.K _ _ r, RepK.go l t⟩
  | .obj _ _, _, h => let ⟨a, C, dx, vs, e, n, m, r, t⟩ := h; ⟨a, C, dx, vs, e, (l.I _ _ _ _ n r).1, m, (l.I _ _ _ _ n r).2, RepF.go l t⟩
  | .cell i, _, h => ⟨Nat.lt_of_lt_of_le h.1 l.n, by rw [l.γ i h.1]; exact h.2⟩
theorem Reps.go {G : Gc} {p q : Wr} (l : p.tr q) : ∀ {d : List D} {v : List V}, Reps G p d v → Reps G q d v
  | [], _, h => h
  | _ :: _, _, h => let ⟨v, r, e, h1, h2⟩ := h; ⟨v, r, e, Rep.go l h1, Reps.go l h2⟩
theorem RepK.go {G : Gc} {p q : Wr} (l : p.tr q) : ∀ {d : List (Key × D)} {v : List (Key × V)}, RepK G p d v → RepK G q d v
  | [], _, h => h
  | (_, _) :: _, _, h => let ⟨v, r, e, h1, h2⟩ := h; ⟨v, r, e, Rep.go l h1, RepK.go l h2⟩
theorem RepF.go {G : Gc} {p q : Wr} (l : p.tr q) : ∀ {d : List (Str × D)} {v : List (Str × V)}, RepF G p d v → RepF G q d v
  | [], _, h => h
  | (_, _) :: _, _, h => let ⟨v, r, e, h1, h2⟩ := h; ⟨v, r, e, Rep.go l h1, RepF.go l h2⟩
end
theorem Rep.mono {G : Gc} {p q : Wr} (l : p.le q) {d : D} {v : V} (h : Rep G p d v) : Rep G q d v := h.go l.tr
theorem Reps.mono {G : Gc} {p q : Wr} (l : p.le q) {d : List D} {v : List V} (h : Reps G p d v) : Reps G q d v := h.go l.tr
theorem RepK.mono {G : Gc} {p q : Wr} (l : p.le q) {d : List (Key × D)} {v : List (Key × V)} (h : RepK G p d v) : RepK G q d v := h.go l.tr
theorem RepF.mono {G : Gc} {p q : Wr} (l : p.le q) {d : List (Str × D)} {v : List (Str × V)} (h : RepF G p d v) : RepF G q d v := h.go l.tr
/-! lists by their places -/
section
variable {G : Gc} {p : Wr}
theorem Reps.len : ∀ {ds : List D} {vs : List V}, Reps G p ds vs → vs.length = ds.length
  | [], _, h => by rw [show _ = [] from h]; rfl
  | _ :: _, _, h => by obtain ⟨v, r, rfl, _, h2⟩ := h; simp [Reps.len h2]
theorem Reps.get : ∀ {ds : List D} {vs : List V} {i : Nat} {d : D}, Reps G p ds vs → ds[i]? = some d → ∃ v, vs[i]? = some v ∧ Rep G p d v
  | [], _, _, _, _, e => by simp at e
  | _ :: _, _, 0, _, h, e => by
    obtain ⟨v, r, rfl, h1, _⟩ := h
    simp only [List.getElem?_cons_zero, Option.some.injEq] at e
    subst e
    exact ⟨v, rfl, h1⟩
  | _ :: _, _, i + 1, _, h, e => by
    obtain ⟨v, r, rfl, _, h2⟩ := h
    obtain ⟨u, e2, h3⟩ := Reps.get (i := i) h2 (by simpa using e)
    exact ⟨u, by simpa using e2, h3⟩
theorem Reps.of : ∀ {ds : List D} {vs : List V}, vs.length = ds.length → (∀ (i : Nat) (d : D) (v : V), ds[i]? = some d → vs[i]? = some v → Rep G p d v) → Reps G p ds vs
  | [], vs, l, _ => List.eq_nil_of_length_eq_zero l
  | d :: ds, [], l, _ => by simp at l
  | d :: ds, v :: vs, l, h => ⟨v, vs, rfl, h 0 d v rfl rfl, Reps.of (by simpa using l) fun i d v e1 e2 => h (i + 1) d v (by simpa using e1) (by simpa using e2)⟩
theorem Reps.at {ds : List D} {vs : List V} (h : Reps G p ds vs) {i : Nat} {d : D} {v : V} (e1 : ds[i]? = some d) (e2 : vs[i]? = some v) : Rep G p d v := by
  obtain ⟨u, e3, r⟩ := h.get e1
  rw [e2] at e3; cases e3; exact r
theorem Reps.none {ds : List D} {vs : List V} {i : Nat} (h : Reps G p ds vs) (e : ds[i]? = none) : vs[i]? = none := by
  rw [List.getElem?_eq_none_iff] at e ⊢
  rw [h.len]; exact e
theorem Reps.append {ds es : List D} {vs us : List V} (h : Reps G p ds vs) (g : Reps G p es us) : Reps G p (ds ++ es) (vs ++ us) := by
  refine .of (by simp [h.len, g.len]) fun i d v e1 e2 => ?_
  by_cases c : i < ds.length
  · rw [List.getElem?_append_left c] at e1
    rw [List.getElem?_append_left (by rw [h.len]; exact c)] at e2
    exact h.at e1 e2
  · rw [List.getElem?_append_right (by omega)] at e1
    rw [List.getElem?_append_right (by rw [h.len]; omega), h.len] at e2
    exact g.at e1 e2
theorem Reps.one {d : D} {v : V} (h : Rep G p d v) : Reps G p [d] [v] := ⟨v, [], rfl, h, rfl⟩
theorem Reps.set {ds : List D} {vs : List V} (h : Reps G p ds vs) {d : D} {v : V} (g : Rep G p d v) (i : Nat) : Reps G p (ds.set i d) (vs.set i v) := by
  refine .of (by simp [h.len]) fun j e u e1 e2 => ?_
  by_cases c : i = j
  · subst c
    have hl : i < ds.length := by
      have := List.getElem?_eq_some_iff.mp e1
      obtain ⟨a, _⟩ := this
      simpa using a
    rw [List.getElem?_set_self hl] at e1
    rw [List.getElem?_set_self (by rw [h.len]; exact hl)] at e2
    cases e1; cases e2; exact g
  · rw [List.getElem?_set_ne c] at e1 e2
    exact h.at e1 e2
theorem Reps.take {ds : List D} {vs : List V} (h : Reps G p ds vs) (n : Nat) : Reps G p (ds.take n) (vs.take n) := by
  refine .of (by simp [h.len]) fun i d v e1 e2 => ?_
  rw [List.getElem?_take] at e1 e2
  split at e1
  · rename_i c; rw [if_pos c] at e2; exact h.at e1 e2
  · cases e1
theorem Reps.drop {ds : List D} {vs : List V} (h : Reps G p ds vs) (n : Nat) : Reps G p (ds.drop n) (vs.drop n) := by
  refine .of (by simp [h.len]) fun i d v e1 e2 => ?_
  rw [List.getElem?_drop] at e1 e2
  exact h.at e1 e2
theorem Reps.reverse {ds : List D} {vs : List V} (h : Reps G p ds vs) : Reps G p ds.reverse vs.reverse := by
  refine .of (by simp [h.len]) fun i d v e1 e2 => ?_
  have c : i < ds.length := by
    obtain ⟨a, _⟩ := List.getElem?_eq_some_iff.mp e1
    simpa using a
  rw [List.getElem?_reverse c] at e1
  rw [List.getElem?_reverse (by rw [h.len]; exact c), h.len] at e2
  exact h.at e1 e2
theorem RepK.keys : ∀ {ds : List (Key × D)} {vs : List (Key × V)}, RepK G p ds vs → vs.map (·.1) = ds.map (·.1)
  | [], _, h => by rw [show _ = [] from h]; rfl
  | (k, _) :: _, _, h => by obtain ⟨v, r, rfl, _, h2⟩ := h; simp [RepK.keys h2]
theorem RepK.vals : ∀ {ds : List (Key × D)} {vs : List (Key × V)}, RepK G p ds vs → Reps G p (ds.map (·.2)) (vs.map (·.2))
  | [], _, h => by rw [show _ = [] from h]; exact rfl
  | (k, _) :: _, _, h => by obtain ⟨v, r, rfl, h1, h2⟩ := h; exact ⟨v, r.map (·.2), rfl, h1, RepK.vals h2⟩
theorem RepK.of : ∀ {ds : List (Key × D)} {vs : List (Key × V)}, vs.map (·.1) = ds.map (·.1) → Reps G p (ds.map (·.2)) (vs.map (·.2)) → RepK G p ds vs
  | [], vs, e, _ => by cases vs with
    | nil => rfl
    | cons a r => simp at e
  | (k, d) :: ds, [], e, _ => by simp at e
  | (k, d) :: ds, (k', v) :: vs, e, h => by
    simp only [List.map_cons, List.cons.injEq] at e
    obtain ⟨rfl, e⟩ := e
    obtain ⟨u, r, e2, h1, h2⟩ := h
    simp only [List.map_cons, List.cons.injEq] at e2
    obtain ⟨rfl, rfl⟩ := e2
    exact ⟨v, vs, rfl, h1, RepK.of e h2⟩
theorem RepK.len {ds : List (Key × D)} {vs : List (Key × V)} (h : RepK G p ds vs) : vs.length = ds.length := by
  have := congrArg List.length h.keys
  simpa using this
end
/-! dicts of data -/
def dval (kvs : List (Key × D)) (k : Key) : Option D := (kvs.find? fun kv => decide (kv.1 = k)).map (·.2)
def dput (kvs : List (Key × D)) (k : Key) (v : D) : List (Key × D) :=
  if (kvs.any fun kv => decide (kv.1 = k)) = true then kvs.map (fun kv => if kv.1 = k then (kv.1, v) else kv) else kvs ++ [(k, v)]
def ddrop (kvs : List (Key × D)) (k : Key) : List (Key × D) := kvs.filter fun kv => decide (kv.1 ≠ k)
def fval (fs : List (Str × D)) (f : Str) : Option D := (fs.find? fun kv => decide (kv.1 = f)).map (·.2)
def fput (f : Str) (v : D) : List (Str × D) → List (Str × D)
  | [] => [(f, v)]
  | (g, x) :: r => if g = f then (g, v) :: r else (g, x) :: fput f v r
section
variable {G : Gc} {p : Wr}
theorem RepK.val {k : Key} : ∀ {ds : List (Key × D)} {vs : List (Key × V)}, RepK G p ds vs → (∀ d, dval ds k = some d → ∃ v, valV vs k = some v ∧ Rep G p d v) ∧ (dval ds k = none → valV vs k = none)
  | [], _, h => by
    rw [show _ = [] from h]
    exact ⟨fun d e => (nomatch e), fun _ => rfl⟩
  | (k', d') :: ds, _, h => by
    obtain ⟨v, r, rfl, h1, h2⟩ := h
    by_cases c : k' = k
    · have e : dval ((k', d') :: ds) k = some d' := by unfold dval; rw [List.find?_cons_of_pos (by simp [c])]; rfl
      rw [e]
      refine ⟨fun d q => ?_, fun q => (nomatch q)⟩
      cases q
      exact ⟨v, valV_pos c, h1⟩
    · have e : dval ((k', d') :: ds) k = dval ds k := by unfold dval; rw [List.find?_cons_of_neg (by simp [c])]
      rw [e, valV_neg c]
      exact RepK.val h2
theorem RepK.any {k : Key} : ∀ {ds : List (Key × D)} {vs : List (Key × V)}, RepK G p ds vs → (vs.any fun kv => decide (kv.1 = k)) = ds.any fun kv => decide (kv.1 = k)
  | [], _, h => by rw [show _ = [] from h]; rfl
  | (k', d') :: ds, _, h => by
    obtain ⟨v, r, rfl, h1, h2⟩ := h
    rw [List.any_cons, List.any_cons, RepK.any h2]
theorem RepK.map {k : Key} {d : D} {v : V} (g : Rep G p d v) : ∀ {ds : List (Key × D)} {vs : List (Key × V)}, RepK G p ds vs → RepK G p (ds.map fun kv => if kv.1 = k then (kv.1, d) else kv) (vs.map fun kv => if kv.1 = k then (kv.1, v) else kv)
  | [], _, h => by rw [show _ = [] from h]; exact rfl
  | (k', d') :: ds, _, h => by
    obtain ⟨u, r, rfl, h1, h2⟩ := h
    have ih := RepK.map (k := k) g h2
    rw [List.map_cons, List.map_cons]
    by_cases c : k' = k
    · rw [if_pos c, if_pos c]; exact ⟨v, _, rfl, g, ih⟩
    · rw [if_neg c, if_neg c]; exact ⟨u, _, rfl, h1, ih⟩
theorem RepK.snoc {k : Key} {d : D} {v : V} (g : Rep G p d v) : ∀ {ds : List (Key × D)} {vs : List (Key × V)}, RepK G p ds vs → RepK G p (ds ++ [(k, d)]) (vs ++ [(k, v)])
  | [], _, h => by rw [show _ = [] from h]; exact ⟨v, [], rfl, g, rfl⟩
  | (k', d') :: ds, _, h => by
    obtain ⟨u, r, rfl, h1, h2⟩ := h
    exact ⟨u, _, rfl, h1, RepK.snoc g h2⟩
theorem RepK.put {k : Key} {d : D} {v : V} {ds : List (Key × D)} {vs : List (Key × V)} (h : RepK G p ds vs) (g : Rep G p d v) : RepK G p (dput ds k d) (putK vs k v) := by
  unfold dput putK
  rw [h.any]
  split
  · exact RepK.map g h
  · exact RepK.snoc g h
theorem RepK.drop {k : Key} : ∀ {ds : List (Key × D)} {vs : List (Key × V)}, RepK G p ds vs → RepK G p (ddrop ds k) (dropK vs k)
  | [], _, h => by rw [show _ = [] from h]; exact rfl
  | (k', d') :: ds, _, h => by
    obtain ⟨u, r, rfl, h1, h2⟩ := h
    have ih := RepK.drop (k := k) h2
    unfold ddrop dropK at ih ⊢
    by_cases c : k' = k
    · rw [List.filter_cons_of_neg (by simp [c]), List.filter_cons_of_neg (by simp [c])]; exact ih
    · rw [List.filter_cons_of_pos (by simp [c]), List.filter_cons_of_pos (by simp [c])]; exact ⟨u, _, rfl, h1, ih⟩
theorem RepF.val {k : Str} : ∀ {ds : List (Str × D)} {vs : List (Str × V)}, RepF G p ds vs → (∀ d, fval ds k = some d → ∃ v, vs.lookup k = some v ∧ Rep G p d v) ∧ (fval ds k = none → vs.lookup k = none)
  | [], _, h => by
    rw [show _ = [] from h]
    exact ⟨fun d e => (nomatch e), fun _ => rfl⟩
  | (k', d') :: ds, _, h => by
    obtain ⟨v, r, rfl, h1, h2⟩ := h
    by_cases c : k' = k
    · have e : fval ((k', d') :: ds) k = some d' := by unfold fval; rw [List.find?_cons_of_pos (by simp [c])]; rfl
      rw [e]
      refine ⟨fun d q => ?_, fun q => (nomatch q)⟩
      cases q
      exact ⟨v, by simp [List.lookup, c], h1⟩
    · have e : fval ((k', d') :: ds) k = fval ds k := by unfold fval; rw [List.find?_cons_of_neg (by simp [c])]
      have e2 : List.lookup k ((k', v) :: r) = List.lookup k r := by
        have : (k == k') = false := by simpa using fun q => c q.symm
        simp [List.lookup, this]
      rw [e, e2]
      exact RepF.val h2
theorem RepF.put {f : Str} {d : D} {v : V} (g : Rep G p d v) : ∀ {ds : List (Str × D)} {vs : List (Str × V)}, RepF G p ds vs → RepF G p (fput f d ds) (putF f v vs)
  | [], _, h => by rw [show _ = [] from h]; exact ⟨v, [], rfl, g, rfl⟩
  | (k', d') :: ds, _, h => by
    obtain ⟨u, r, rfl, h1, h2⟩ := h
    unfold fput putF
    by_cases c : k' = f
    · rw [if_pos c, if_pos c]; exact ⟨v, r, rfl, g, h2⟩
    · rw [if_neg c, if_neg c]; exact ⟨u, _, rfl, h1, RepF.put g h2⟩
theorem RepF.len : ∀ {ds : List (Str × D)} {vs : List (Str × V)}, RepF G p ds vs → vs.length = ds.length
  | [], _, h => by rw [show _ = [] from h]; rfl
  | (k', d') :: ds, _, h => by obtain ⟨u, r, rfl, h1, h2⟩ := h; simp [RepF.len h2]
end
/-! what stands at an address -/
/-- owned: it may be written -/
def Ho (G : Gc) (p : Wr) : D → Addr → Prop
  | .lst ds, a => ∃ vs, p.H a = some (.lst vs) ∧ Reps G p ds vs
  | .dct ds, a => ∃ vs, p.H a = some (.dK vs) ∧ RepK G p ds vs
  | .obj c ds, a => ∃ C dx vs, G.mg c = some (.ref C) ∧ p.H a = some (.ins C dx vs) ∧ RepF G p ds vs
  | _, _ => False
/-- it may be read -/
def Hc (G : Gc) (p : Wr) : D → Addr → Prop
  | .lst ds, a => ∃ vs, p.H a = some (.lst vs) ∧ Reps G p ds vs
  | .con ds, a => ∃ vs, SqL G.K p.H a vs ∧ Reps G p ds vs
  | .tup ds, a => ∃ vs, p.H a = some (.tup vs) ∧ Reps G p ds vs
  | .dct ds, a => ∃ vs, Rd p.H a (.dK vs) ∧ RepK G p ds vs
  | .obj c ds, a => ∃ C dx vs, G.mg c = some (.ref C) ∧ p.H a = some (.ins C dx vs) ∧ RepF G p ds vs
  | _, _ => False
section
variable {G : Gc} {p q : Wr} {a : Addr}
theorem Ho.c : ∀ {x : D}, Ho G p x a → Hc G p x a
  | .lst _, h => h
  | .dct _, h => let ⟨vs, e, r⟩ := h; ⟨vs, .inl e, r⟩
  | .obj _ _, h => h
  | .non, h => h | .bl _, h => h | .int _, h => h | .str _, h => h | .con _, h => h.elim | .tup _, h => h.elim | .cell _, h => h
theorem Ho.rep (n : ¬ p.O a) : ∀ {x : D}, Ho G p x a → Rep G p x (.ref a)
  | .lst _, h => let ⟨vs, e, r⟩ := h; ⟨a, vs, rfl, ⟨n, e⟩, r⟩
  | .dct _, h => let ⟨vs, e, r⟩ := h; ⟨a, vs, rfl, ⟨n, .inl e⟩, r⟩
  | .obj _ _, h => let ⟨C, dx, vs, m, e, r⟩ := h; ⟨a, C, dx, vs, rfl, n, m, e, r⟩
  | .non, h => h.elim | .bl _, h => h.elim | .int _, h => h.elim | .str _, h => h.elim | .con _, h => h.elim | .tup _, h => h.elim | .cell _, h => h.elim
theorem Ho.mono (l : p.le q) (e : q.H a = p.H a) : ∀ {x : D}, Ho G p x a → Ho G q x a
  | .lst _, h => let ⟨vs, e1, r⟩ := h; ⟨vs, e.trans e1, r.mono l⟩
  | .dct _, h => let ⟨vs, e1, r⟩ := h; ⟨vs, e.trans e1, r.mono l⟩
  | .obj _ _, h => let ⟨C, dx, vs, m, e1, r⟩ := h; ⟨C, dx, vs, m, e.trans e1, r.mono l⟩
  | .non, h => h.elim | .bl _, h => h.elim | .int _, h => h.elim | .str _, h => h.elim | .con _, h => h.elim | .tup _, h => h.elim | .cell _, h => h.elim
theorem Ho.some : ∀ {x : D}, Ho G p x a → ∃ o, p.H a = some o
  | .lst _, h => let ⟨vs, e1, r⟩ := h; ⟨_, e1⟩
  | .dct _, h => let ⟨vs, e1, r⟩ := h; ⟨_, e1⟩
  | .obj _ _, h => let ⟨C, dx, vs, m, e1, r⟩ := h; ⟨_, e1⟩
  | .non, h => h.elim | .bl _, h => h.elim | .int _, h => h.elim | .str _, h => h.elim | .con _, h => h.elim | .tup _, h => h.elim | .cell _, h => h.elim
/-- data that lie at an address of their own -/
def D.box : D → Bool
  | .lst _ | .con _ | .tup _ | .dct _ | .obj _ _ => true
  | _ => false
theorem Rep.c {v : V} : ∀ {x : D}, x.box = true → Rep G p x v → ∃ a, v = .ref a ∧ Hc G p x a
  | .lst _, _, h => let ⟨a, vs, e, r, t⟩ := h; ⟨a, e, vs, r.2, t⟩
  | .con _, _, h => let ⟨a, vs, e, r, t⟩ := h; ⟨a, e, vs, r.imp (fun r => r.2) id, t⟩
  | .tup _, _, h => let ⟨a, vs, e, r, t⟩ := h; ⟨a, e, vs, r.2, t⟩
  | .dct _, _, h => let ⟨a, vs, e, r, t⟩ := h; ⟨a, e, vs, r.2, t⟩
  | .obj _ _, _, h => let ⟨a, C, dx, vs, e, _, m, r, t⟩ := h; ⟨a, e, C, dx, vs, m, r, t⟩
  | .non, b, _ => nomatch b
  | .bl _, b, _ => nomatch b
  | .int _, b, _ => nomatch b
  | .str _, b, _ => nomatch b
  | .cell _, b, _ => nomatch b
end
end Z

/-! the value level: the state, held -/
namespace Z
open PySem PySem.Spec PyProof.Rows L2
/-- a def's entry: what others own, the world, the cells -/
structure En where
  F : Addr → Prop
  W : Wr
  S : Sto
def Rv (G : Gc) (p : Wr) (m : Nat) (w : List (Option V)) (k : Nat) : Vl → V → Prop
  | .d x, v => Rep G p x v
  | .own x, v => ∃ a, v = .ref a ∧ Ho G p x a
  | .loc j, v => m ≤ k ∧ j < m ∧ w[j]? = some (some v)
structure Sm (G : Gc) (E : En) (m : Nat) (p : Wr) (w : List (Option V)) (ŵ : List (Option Vl)) (S : Sto) : Prop where
  len : w.length = ŵ.length
  pn : p.n = S.nx
  nx : E.S.nx ≤ S.nx
  ebd : ∀ (i : Nat) (d : D), E.S.get i = some d → i < E.S.nx
  old : ∀ i, i < E.S.nx → p.γ i = E.W.γ i
  bd : ∀ (i : Nat) (d : D), S.get i = some d → i < S.nx
  cel : ∀ (i : Nat) (d : D), S.get i = some d → p.O (p.γ i) ∧ Ho G p d (p.γ i)
  inj : ∀ (i j : Nat) (d e : D), S.get i = some d → S.get j = some e → p.γ i = p.γ j → i = j
  born : ∀ (i : Nat) (d : D), S.get i = some d → (∃ d0, E.S.get i = some d0) ∨ E.W.H (p.γ i) = none
  frm : ∀ a, E.F a → p.O a ∧ ∀ i d, S.get i = some d → p.γ i ≠ a
  kp : ∀ b o, E.W.H b = some o → (∀ i d, E.S.get i = some d → b ≠ E.W.γ i) → (E.F b → p.H b = some o) ∧ Kept o (p.H b)
  sub : ∀ b o, E.W.H b = some o → ∃ o', p.H b = some o'
  grw : ∀ b o, E.W.H b = some o → ¬ E.W.O b → ¬ p.O b
  dom : ∀ a, p.O a → ∃ o, p.H a = some o
  ent : ∀ (k : Nat) (e : Vl), ŵ[k]? = some (some e) → ∃ v, w[k]? = some (some v) ∧ Rv G p m w k e v
  own : ∀ (k : Nat) (x : D) (a : Addr), ŵ[k]? = some (some (.own x)) → w[k]? = some (some (.ref a)) → p.O a ∧ E.W.H a = none ∧ ¬ E.F a ∧ ∀ i d, S.get i = some d → p.γ i ≠ a
  sep : ∀ (j k : Nat) (x y : D) (a : Addr), ŵ[j]? = some (some (.own x)) → ŵ[k]? = some (some (.own y)) → w[j]? = some (some (.ref a)) → w[k]? = some (some (.ref a)) → j = k
section
variable {G : Gc} {E : En} {m : Nat} {p : Wr} {w : List (Option V)} {ŵ : List (Option Vl)} {S : Sto} {x : D} {v : V} {a : Addr} {o : HO} {k : Nat}
theorem snoc_get {α : Type} {l : List α} {x y : α} {k : Nat} (h : (l ++ [x])[k]? = some y) : l[k]? = some y ∨ (k = l.length ∧ x = y) := by
  by_cases c : k < l.length
  · rw [List.getElem?_append_left c] at h; exact .inl h
  · by_cases c2 : k = l.length
    · subst c2
      simp only [List.getElem?_append_right (Nat.le_refl _), Nat.sub_self, List.getElem?_cons_zero, Option.some.injEq] at h
      exact .inr ⟨rfl, h⟩
    · rw [List.getElem?_eq_none (by simp; omega)] at h; cases h
theorem snoc_old {α : Type} {l : List α} {x y : α} {k : Nat} (h : l[k]? = some y) : (l ++ [x])[k]? = some y := by
  obtain ⟨a, _⟩ := List.getElem?_eq_some_iff.mp h
  rw [List.getElem?_append_left a]; exact h
theorem snoc_new {α : Type} {l : List α} {x : α} : (l ++ [x])[l.length]? = some x := by simp
theorem lt_of_get {α : Type} {l : List α} {y : α} {k : Nat} (h : l[k]? = some y) : k < l.length := (List.getElem?_eq_some_iff.mp h).1
theorem Rv.mono {q : Wr} {e : Vl} (l : p.le q) (hh : ∀ x a, (∃ v, v = V.ref a) → Ho G p x a → e = Vl.own x → q.H a = p.H a) {w' : List (Option V)} (hw : ∀ j v, j < m → w[j]? = some (some v) → w'[j]? = some (some v)) : Rv G p m w k e v → Rv G q m w' k e v := by
  cases e with
  | d x => exact fun h => Rep.mono l h
  | own x => exact fun ⟨a, e, h⟩ => ⟨a, e, Ho.mono l (hh x a ⟨_, rfl⟩ h rfl) h⟩
  | loc j => exact fun ⟨h1, h2, h3⟩ => ⟨h1, h2, hw _ _ h2 h3⟩
/-- a value more at hand -/
theorem Sm.push (h : Sm G E m p w ŵ S) (r : Rep G p x v) : Sm G E m p (w ++ [some v]) (ŵ ++ [some (.d x)]) S := by
  refine { h with len := by simp [h.len], ent := fun k e q => ?_, own := fun k y a q1 q2 => ?_, sep := fun j k y z a q1 q2 q3 q4 => ?_ }
  · rcases snoc_get q with q | ⟨rfl, qq⟩
    · obtain ⟨u, e1, r1⟩ := h.ent k e q
      exact ⟨u, snoc_old e1, r1.mono (.refl p) (fun _ _ _ _ _ => rfl) fun j v _ e => snoc_old e⟩
    · obtain rfl := Option.some.inj qq
      exact ⟨v, by rw [← h.len]; exact snoc_new, r⟩
  · rcases snoc_get q1 with q | ⟨rfl, qq⟩
    · have : k < w.length := by rw [h.len]; exact lt_of_get q
      rw [List.getElem?_append_left this] at q2
      exact h.own k y a q q2
    · cases qq
  · rcases snoc_get q1 with q1 | ⟨rfl, qq⟩
    · rcases snoc_get q2 with q2 | ⟨rfl, qq⟩
      · rw [List.getElem?_append_left (by rw [h.len]; exact lt_of_get q1)] at q3
        rw [List.getElem?_append_left (by rw [h.len]; exact lt_of_get q2)] at q4
        exact h.sep j k y z a q1 q2 q3 q4
      · cases qq
    · cases qq
/-- what slot j holds, at hand -/
theorem Sm.pushLoc {j : Nat} {e : Vl} (h : Sm G E m p w ŵ S) (hm : m ≤ w.length) (hj : j < m) (q : ŵ[j]? = some (some e)) (hv : w[j]? = some (some v)) : Sm G E m p (w ++ [some v]) (ŵ ++ [some (.loc j)]) S := by
  refine { h with len := by simp [h.len], ent := fun k e q => ?_, own := fun k y a q1 q2 => ?_, sep := fun j k y z a q1 q2 q3 q4 => ?_ }
  · rcases snoc_get q with q | ⟨rfl, qq⟩
    · obtain ⟨u, e1, r1⟩ := h.ent k e q
      exact ⟨u, snoc_old e1, r1.mono (.refl p) (fun _ _ _ _ _ => rfl) fun j v _ e => snoc_old e⟩
    · obtain rfl := Option.some.inj qq
      exact ⟨v, by rw [← h.len]; exact snoc_new, by rw [← h.len]; exact hm, hj, snoc_old hv⟩
  · rcases snoc_get q1 with q | ⟨rfl, qq⟩
    · have : k < w.length := by rw [h.len]; exact lt_of_get q
      rw [List.getElem?_append_left this] at q2
      exact h.own k y a q q2
    · cases qq
  · rcases snoc_get q1 with q1 | ⟨rfl, qq⟩
    · rcases snoc_get q2 with q2 | ⟨rfl, qq⟩
      · rw [List.getElem?_append_left (by rw [h.len]; exact lt_of_get q1)] at q3
        rw [List.getElem?_append_left (by rw [h.len]; exact lt_of_get q2)] at q4
        exact h.sep j k y z a q1 q2 q3 q4
      · cases qq
    · cases qq
/-- the last values let go -/
theorem Sm.pop {w' : List (Option V)} {ŵ' : List (Option Vl)} (h : Sm G E m p (w ++ w') (ŵ ++ ŵ') S) (hl : w.length = ŵ.length) (hm : m ≤ w.length) : Sm G E m p w ŵ S := by
  have up : ∀ {k : Nat} {e : Vl}, ŵ[k]? = some (some e) → (ŵ ++ ŵ')[k]? = some (some e) := fun q => by rw [List.getElem?_append_left (lt_of_get q)]; exact q
  have dn : ∀ {k : Nat} {v : Option V}, k < w.length → (w ++ w')[k]? = some v → w[k]? = some v := fun l q => by rw [List.getElem?_append_left l] at q; exact q
  have uq : ∀ {k : Nat} {v : Option V}, w[k]? = some v → (w ++ w')[k]? = some v := fun q => by rw [List.getElem?_append_left (lt_of_get q)]; exact q
  refine { h with len := hl, ent := fun k e q => ?_, own := fun k y a q1 q2 => h.own k y a (up q1) (uq q2), sep := fun j k y z a q1 q2 q3 q4 => h.sep j k y z a (up q1) (up q2) (uq q3) (uq q4) }
  obtain ⟨u, e1, r1⟩ := h.ent k e (up q)
  exact ⟨u, dn (by rw [hl]; exact lt_of_get q) e1, r1.mono (.refl p) (fun _ _ _ _ _ => rfl) fun j v l e => dn (by omega) e⟩
/-- the heap may change where nothing of ours lies -/
theorem Sm.step {q : Wr} (h : Sm G E m p w ŵ S) (l : p.le q) (hγ : q.γ = p.γ) (hn : q.n = p.n) (hO : q.O = p.O) (hH : ∀ b o, p.H b = some o → q.H b = some o) : Sm G E m q w ŵ S := by
  have hq : ∀ {x a}, Ho G p x a → q.H a = p.H a := fun {x a} ho => by
    obtain ⟨o, e⟩ := ho.some
    rw [e]; exact hH _ _ e
  refine { h with pn := by rw [hn]; exact h.pn, old := by rw [hγ]; exact h.old, cel := fun i d e => ?_, inj := by rw [hγ]; exact h.inj, born := by rw [hγ]; exact h.born, frm := by rw [hγ, hO]; exact h.frm, kp := fun b o e n => ⟨fun f => hH _ _ ((h.kp b o e n).1 f), (h.kp b o e n).2.imp (hH _ _) fun ⟨kvs, od, e1, e2⟩ => ⟨kvs, od, e1, hH _ _ e2⟩⟩, sub := fun b o e => ?_, grw := by rw [hO]; exact h.grw, dom := fun a e => ?_, ent := fun k e e1 => ?_, own := by rw [hγ, hO]; exact h.own }
  · rw [hγ, hO]
    have := h.cel i d e
    exact ⟨this.1, this.2.mono l (hq this.2)⟩
  · obtain ⟨o', e'⟩ := h.sub b o e
    exact ⟨o', hH _ _ e'⟩
  · rw [hO] at e
    obtain ⟨o, e'⟩ := h.dom a e
    exact ⟨o, hH _ _ e'⟩
  · obtain ⟨u, e2, r⟩ := h.ent k e e1
    exact ⟨u, e2, r.mono l (fun _ _ _ ho _ => hq ho) fun _ _ _ e => e⟩
theorem le_alloc (hn : p.H a = none) : p.le { p with H := upd p.H a o } := ⟨fun _ _ => rfl, Nat.le_refl _, fun b u h e => ⟨.inl (by show upd _ _ _ _ = _; rw [upd_ne (ne_of_none e hn)]; exact e), h⟩⟩
/-- something new that never changes -/
theorem Sm.alloc (h : Sm G E m p w ŵ S) (hn : p.H a = none) : Sm G E m { p with H := upd p.H a o } w ŵ S :=
  h.step (le_alloc hn) rfl rfl rfl fun b u e => by show upd _ _ _ _ = _; rw [upd_ne (ne_of_none e hn)]; exact e
theorem Sm.fresh (h : Sm G E m p w ŵ S) (hn : p.H a = none) : E.W.H a = none ∧ ¬ p.O a := by
  refine ⟨?_, fun q => ?_⟩
  · cases e : E.W.H a with
    | none => rfl
    | some o => obtain ⟨o', e'⟩ := h.sub a o e; rw [hn] at e'; cases e'
  · obtain ⟨o, e⟩ := h.dom a q
    rw [hn] at e; cases e
theorem le_allocO (hn : p.H a = none) : p.le { p with H := upd p.H a o, O := fun b => p.O b ∨ b = a } := ⟨fun _ _ => rfl, Nat.le_refl _, fun b u h e => ⟨.inl (by show upd _ _ _ _ = _; rw [upd_ne (ne_of_none e hn)]; exact e), fun q => q.elim h (ne_of_none e hn)⟩⟩
/-- something new that is called owned -/
theorem Sm.grow (h : Sm G E m p w ŵ S) (hn : p.H a = none) : Sm G E m { p with H := upd p.H a o, O := fun b => p.O b ∨ b = a } w ŵ S := by
  have l := le_allocO (p := p) (o := o) hn
  obtain ⟨f1, f2⟩ := h.fresh hn
  have hH : ∀ b u, p.H b = some u → upd p.H a o b = some u := fun b u e => by rw [upd_ne (ne_of_none e hn)]; exact e
  have hq : ∀ {x b}, Ho G p x b → upd p.H a o b = p.H b := fun {x b} ho => by
    obtain ⟨o, e⟩ := ho.some
    rw [e]; exact hH _ _ e
  refine { h with cel := fun i d e => ⟨.inl (h.cel i d e).1, (h.cel i d e).2.mono l (hq (h.cel i d e).2)⟩, frm := fun b e => ⟨.inl (h.frm b e).1, (h.frm b e).2⟩, kp := fun b u e n => ⟨fun f => hH _ _ ((h.kp b u e n).1 f), (h.kp b u e n).2.imp (hH _ _) fun ⟨kvs, od, e1, e2⟩ => ⟨kvs, od, e1, hH _ _ e2⟩⟩, sub := fun b u e => ?_, grw := fun b u e n q => ?_, dom := fun b q => ?_, ent := fun k e e1 => ?_, own := fun k x b q1 q2 => ⟨.inl (h.own k x b q1 q2).1, (h.own k x b q1 q2).2⟩ }
  · obtain ⟨o', e'⟩ := h.sub b u e
    exact ⟨o', hH _ _ e'⟩
  · rcases q with q | rfl
    · exact h.grw b u e n q
    · rw [f1] at e; cases e
  · rcases q with q | rfl
    · obtain ⟨o', e'⟩ := h.dom b q
      exact ⟨o', hH _ _ e'⟩
    · exact ⟨o, upd_same⟩
  · obtain ⟨u, e2, r⟩ := h.ent k e e1
    exact ⟨u, e2, r.mono l (fun _ _ _ ho _ => hq ho) fun _ _ _ e => e⟩
/-- something new of one's own -/
theorem Sm.allocOwn (h : Sm G E m p w ŵ S) (hn : p.H a = none) (hx : Ho G { p with H := upd p.H a o, O := fun b => p.O b ∨ b = a } x a) :
    Sm G E m { p with H := upd p.H a o, O := fun b => p.O b ∨ b = a } (w ++ [some (.ref a)]) (ŵ ++ [some (.own x)]) S := by
  obtain ⟨f1, f2⟩ := h.fresh hn
  have h1 : Sm G E m { p with H := upd p.H a o, O := fun b => p.O b ∨ b = a } w ŵ S := h.grow hn
  · have nog : ∀ i d, S.get i = some d → p.γ i ≠ a := fun i d e q => f2 (by rw [← q]; exact (h.cel i d e).1)
    have noF : ¬ E.F a := fun q => f2 (h.frm a q).1
    have noW : ∀ (k : Nat) (y : D), ŵ[k]? = some (some (.own y)) → w[k]? ≠ some (some (.ref a)) := fun k y e1 e2 => f2 (h.own k y a e1 e2).1
    refine { h1 with len := by simp [h.len], ent := fun k e q => ?_, own := fun k y b q1 q2 => ?_, sep := fun j k y z b q1 q2 q3 q4 => ?_ }
    · rcases snoc_get q with q | ⟨rfl, qq⟩
      · obtain ⟨u, e1, r1⟩ := h1.ent k e q
        exact ⟨u, snoc_old e1, r1.mono (.refl _) (fun _ _ _ _ _ => rfl) fun j v _ e => snoc_old e⟩
      · obtain rfl := Option.some.inj qq
        exact ⟨.ref a, by rw [← h.len]; exact snoc_new, a, rfl, hx⟩
    · rcases snoc_get q1 with q | ⟨rfl, qq⟩
      · rw [List.getElem?_append_left (by rw [h.len]; exact lt_of_get q)] at q2
        exact h1.own k y b q q2
      · rw [← h.len, snoc_new] at q2
        cases q2
        exact ⟨.inr rfl, f1, noF, nog⟩
    · rcases snoc_get q1 with q1 | ⟨rfl, qq⟩
      · rw [List.getElem?_append_left (by rw [h.len]; exact lt_of_get q1)] at q3
        rcases snoc_get q2 with q2 | ⟨rfl, qq⟩
        · rw [List.getElem?_append_left (by rw [h.len]; exact lt_of_get q2)] at q4
          exact h.sep j k y z b q1 q2 q3 q4
        · rw [← h.len, snoc_new] at q4
          cases q4
          exact (noW j y q1 q3).elim
      · rw [← h.len, snoc_new] at q3
        cases q3
        rcases snoc_get q2 with q2 | ⟨rfl, qq⟩
        · rw [List.getElem?_append_left (by rw [h.len]; exact lt_of_get q2)] at q4
          exact (noW k z q2 q4).elim
        · rfl
end
end Z

/-! the value level: owned things settled, written, called; calls -/
namespace Z
open PySem PySem.Spec PyProof.Rows L2
section
variable {G : Gc} {E : En} {m : Nat} {p : Wr} {w : List (Option V)} {ŵ : List (Option Vl)} {S : Sto} {x y : D} {v : V} {a : Addr} {o : HO} {k : Nat}
theorem set_get {α : Type} {l : List α} {x y : α} {k j : Nat} (h : (l.set k x)[j]? = some y) : (k = j ∧ x = y) ∨ (k ≠ j ∧ l[j]? = some y) := by
  by_cases c : k = j
  · subst c
    have hl : k < l.length := by have := lt_of_get h; simpa using this
    rw [List.getElem?_set_self hl] at h
    exact .inl ⟨rfl, Option.some.inj h⟩
  · rw [List.getElem?_set_ne c] at h
    exact .inr ⟨c, h⟩
theorem set_old {α : Type} {l : List α} {x y : α} {k j : Nat} (h : l[j]? = some y) (c : k ≠ j) : (l.set k x)[j]? = some y := by rw [List.getElem?_set_ne c]; exact h
theorem set_new {α : Type} {l : List α} {x : α} {k : Nat} (h : k < l.length) : (l.set k x)[k]? = some x := List.getElem?_set_self h
theorem le_shrink : p.le { p with O := fun b => p.O b ∧ b ≠ a } := ⟨fun _ _ => rfl, Nat.le_refl _, fun _ _ h e => ⟨.inl e, fun q => h q.1⟩⟩
/-- an owned list or dict is never changed any more -/
theorem Sm.settle (h : Sm G E m p w ŵ S) (q : ŵ[k]? = some (some (.own x))) (qa : w[k]? = some (some (.ref a))) : Sm G E m { p with O := fun b => p.O b ∧ b ≠ a } w (ŵ.set k (some (.d x))) S := by
  have l := le_shrink (p := p) (a := a)
  obtain ⟨o1, o2, o3, o4⟩ := h.own k x a q qa
  have hk := lt_of_get q
  have nk : ∀ {j y}, (ŵ.set k (some (.d x)))[j]? = some (some (Vl.own y)) → k ≠ j ∧ ŵ[j]? = some (some (.own y)) := fun {j y} e => by
    rcases set_get e with ⟨rfl, ee⟩ | e
    · cases ee
    · exact e
  have na : ∀ {j y b}, ŵ[j]? = some (some (Vl.own y)) → w[j]? = some (some (V.ref b)) → k ≠ j → b ≠ a := fun {j y b} e1 e2 c e => c (h.sep k j x y a q e1 qa (by rw [← e]; exact e2))
  refine { h with len := by simp [h.len], cel := fun i d e => ⟨⟨(h.cel i d e).1, o4 i d e⟩, (h.cel i d e).2.mono l rfl⟩, frm := fun b e => ⟨⟨(h.frm b e).1, fun z => o3 (z ▸ e)⟩, (h.frm b e).2⟩, grw := fun b u e n z => h.grw b u e n z.1, dom := fun b z => h.dom b z.1, ent := fun j e e1 => ?_, own := fun j y b e1 e2 => ?_, sep := fun i j y z b e1 e2 e3 e4 => ?_ }
  · rcases set_get e1 with ⟨rfl, ee⟩ | ⟨c, e1⟩
    · cases ee
      obtain ⟨u, e2, b, rfl, r⟩ := h.ent k _ q
      rw [qa] at e2
      cases e2
      exact ⟨_, qa, Ho.rep (show ¬ (p.O a ∧ a ≠ a) from fun z => z.2 rfl) (r.mono l rfl)⟩
    · obtain ⟨u, e2, r⟩ := h.ent j e e1
      exact ⟨u, e2, r.mono l (fun _ _ _ _ _ => rfl) fun _ _ _ e => e⟩
  · obtain ⟨c, e1⟩ := nk e1
    have := h.own j y b e1 e2
    exact ⟨⟨this.1, na e1 e2 c⟩, this.2⟩
  · exact h.sep i j y z b (nk e1).2 (nk e2).2 e3 e4
/-- the last value into slot k -/
theorem Sm.store {e : Vl} (h : Sm G E m p (w ++ [some v]) (ŵ ++ [some e]) S) (hk : k < m) (hm : m ≤ w.length) (hl : w.length = ŵ.length) (he : ∀ j, e ≠ .loc j) (hn : ∀ (i j : Nat), ŵ[i]? = some (some (.loc j)) → j ≠ k) : Sm G E m p (w.set k (some v)) (ŵ.set k (some e)) S := by
  have last : (ŵ ++ [some e])[ŵ.length]? = some (some e) := snoc_new
  have lastv : (w ++ [some v])[ŵ.length]? = some (some v) := by rw [← hl]; exact snoc_new
  have kw : k < w.length := by omega
  -- where an entry comes from
  have go : ∀ {j : Nat} {e' : Vl}, (ŵ.set k (some e))[j]? = some (some e') → ∃ i, (ŵ ++ [some e])[i]? = some (some e') ∧ (∀ u, (w.set k (some v))[j]? = some u ↔ (w ++ [some v])[i]? = some u) ∧ ((j = k ∧ i = ŵ.length ∧ e' = e) ∨ (j ≠ k ∧ i = j ∧ j < ŵ.length)) := fun {j e'} q => by
    rcases set_get q with ⟨rfl, qq⟩ | ⟨c, q⟩
    · cases qq
      refine ⟨_, last, fun u => ?_, .inl ⟨rfl, rfl, rfl⟩⟩
      rw [set_new kw, ← hl, snoc_new]
    · have hj := lt_of_get q
      refine ⟨j, snoc_old q, fun u => ?_, .inr ⟨fun z => c z.symm, rfl, hj⟩⟩
      rw [List.getElem?_set_ne c, List.getElem?_append_left (by omega)]
  refine { h with len := by simp [hl], ent := fun j e' q => ?_, own := fun j y b q1 q2 => ?_, sep := fun i j y z b q1 q2 q3 q4 => ?_ }
  · obtain ⟨i, q1, q2, c⟩ := go q
    obtain ⟨u, e1, r⟩ := h.ent i e' q1
    refine ⟨u, (q2 _).mpr e1, ?_⟩
    rcases c with ⟨rfl, rfl, rfl⟩ | ⟨c, rfl, c2⟩
    · cases e' with
      | d x => exact r
      | own x => exact r
      | loc j => exact (he j rfl).elim
    · cases e' with
      | d x => exact r
      | own x => exact r
      | loc t =>
        obtain ⟨r1, r2, r3⟩ := r
        have q0 : ŵ[i]? = some (some (.loc t)) := by rw [List.getElem?_append_left c2] at q1; exact q1
        refine ⟨r1, r2, ?_⟩
        rw [List.getElem?_append_left (by omega)] at r3
        rw [List.getElem?_set_ne (hn i t q0).symm]
        exact r3
  · obtain ⟨i, e1, e2, _⟩ := go q1
    exact h.own i y b e1 ((e2 _).mp q2)
  · obtain ⟨i', e1, e2, c1⟩ := go q1
    obtain ⟨j', e3, e4, c2⟩ := go q2
    have := h.sep i' j' y z b e1 e3 ((e2 _).mp q3) ((e4 _).mp q4)
    omega
/-- slot k forgotten -/
theorem Sm.forget (h : Sm G E m p w ŵ S) (hn : ∀ (i j : Nat), ŵ[i]? = some (some (.loc j)) → j ≠ k) {u : Option V} : Sm G E m p (w.set k u) (ŵ.set k none) S := by
  have go : ∀ {j : Nat} {e' : Vl}, (ŵ.set k none)[j]? = some (some e') → k ≠ j ∧ ŵ[j]? = some (some e') := fun {j e'} q => by
    rcases set_get q with ⟨rfl, qq⟩ | q
    · cases qq
    · exact q
  refine { h with len := by simp [h.len], ent := fun j e' q => ?_, own := fun j y b q1 q2 => ?_, sep := fun i j y z b q1 q2 q3 q4 => ?_ }
  · obtain ⟨c, q⟩ := go q
    obtain ⟨v, e1, r⟩ := h.ent j e' q
    refine ⟨v, by rw [List.getElem?_set_ne c]; exact e1, ?_⟩
    cases e' with
    | d x => exact r
    | own x => exact r
    | loc t => exact ⟨r.1, r.2.1, by rw [List.getElem?_set_ne (hn j t q).symm]; exact r.2.2⟩
  · obtain ⟨c, q⟩ := go q1
    rw [List.getElem?_set_ne c] at q2
    exact h.own j y b q q2
  · obtain ⟨c1, q1⟩ := go q1
    obtain ⟨c2, q2⟩ := go q2
    rw [List.getElem?_set_ne c1] at q3
    rw [List.getElem?_set_ne c2] at q4
    exact h.sep i j y z b q1 q2 q3 q4
theorem le_write (ha : p.O a) : p.le { p with H := upd p.H a o } := ⟨fun _ _ => rfl, Nat.le_refl _, fun b u h e => ⟨.inl (by
    have c : b ≠ a := fun z => h (by rw [z]; exact ha)
    show upd _ _ _ _ = _
    rw [upd_ne c]; exact e), h⟩⟩
/-- entry k's own list or dict is changed -/
theorem Sm.write (h : Sm G E m p w ŵ S) (q : ŵ[k]? = some (some (.own x))) (qa : w[k]? = some (some (.ref a))) (hy : Ho G { p with H := upd p.H a o } y a) : Sm G E m { p with H := upd p.H a o } w (ŵ.set k (some (.own y))) S := by
  obtain ⟨o1, o2, o3, o4⟩ := h.own k x a q qa
  have l := le_write (p := p) (o := o) o1
  have hk := lt_of_get q
  have go : ∀ {j : Nat} {e' : Vl}, (ŵ.set k (some (.own y)))[j]? = some (some e') → (k = j ∧ e' = .own y) ∨ (k ≠ j ∧ ŵ[j]? = some (some e')) := fun {j e'} q => by
    rcases set_get q with ⟨rfl, qq⟩ | q
    · exact .inl ⟨rfl, (Option.some.inj qq).symm⟩
    · exact .inr q
  have ow : ∀ {j : Nat} {z : D}, (ŵ.set k (some (.own y)))[j]? = some (some (.own z)) → ∃ z', ŵ[j]? = some (some (.own z')) := fun {j z} e => by
    rcases go e with ⟨rfl, _⟩ | ⟨_, e⟩
    · exact ⟨x, q⟩
    · exact ⟨z, e⟩
  have ne : ∀ {b : Addr}, b ≠ a → upd p.H a o b = p.H b := fun c => upd_ne c
  refine { h with len := by simp [h.len], cel := fun i d e => ⟨(h.cel i d e).1, (h.cel i d e).2.mono l (ne (o4 i d e))⟩, kp := fun b u e n => ?_, sub := fun b u e => ?_, dom := fun b e => ?_, ent := fun j e e1 => ?_, own := fun j z b e1 e2 => ?_, sep := fun i j z z' b e1 e2 e3 e4 => ?_ }
  · show (_ → upd _ _ _ _ = _) ∧ Kept u (upd _ _ _ _)
    rw [ne (fun z => by rw [z, o2] at e; cases e)]
    exact h.kp b u e n
  · by_cases c : b = a
    · subst c; exact ⟨o, upd_same⟩
    · obtain ⟨u', e'⟩ := h.sub b u e
      exact ⟨u', by show upd _ _ _ _ = _; rw [ne c]; exact e'⟩
  · by_cases c : b = a
    · subst c; exact ⟨o, upd_same⟩
    · obtain ⟨u', e'⟩ := h.dom b e
      exact ⟨u', by show upd _ _ _ _ = _; rw [ne c]; exact e'⟩
  · rcases go e1 with ⟨rfl, rfl⟩ | ⟨c, e1⟩
    · exact ⟨_, qa, a, rfl, hy⟩
    · obtain ⟨u, e2, r⟩ := h.ent j e e1
      refine ⟨u, e2, ?_⟩
      cases e with
      | d z => exact Rep.mono l r
      | own z =>
        obtain ⟨b, rfl, r⟩ := r
        exact ⟨b, rfl, r.mono l (ne fun hb => c (h.sep k j x z a q e1 qa (by rw [← hb]; exact e2)))⟩
      | loc t => exact r
  · obtain ⟨z', e1⟩ := ow e1
    exact h.own j z' b e1 e2
  · obtain ⟨z1, e1⟩ := ow e1
    obtain ⟨z2, e2⟩ := ow e2
    exact h.sep i j z1 z2 b e1 e2 e3 e4
def Sto.put (S : Sto) (i : Nat) (x : D) : Sto := { S with get := fun j => if j = i then some x else S.get j }
def Sto.del (S : Sto) (i : Nat) : Sto := { S with get := fun j => if j = i then none else S.get j }
def Sto.new (S : Sto) (x : D) : Sto := { S with nx := S.nx + 1, get := fun j => if j = S.nx then some x else S.get j }
theorem Sto.put_same {S : Sto} {i : Nat} {x : D} : (S.put i x).get i = some x := if_pos rfl
theorem Sto.put_ne {S : Sto} {i j : Nat} {x : D} (h : j ≠ i) : (S.put i x).get j = S.get j := if_neg h
theorem Sto.put_dom {S : Sto} {i j : Nat} {x y z : D} (h : (S.put i x).get j = some y) (q : S.get i = some z) : ∃ y', S.get j = some y' := by
  by_cases c : j = i
  · subst c; exact ⟨z, q⟩
  · rw [Sto.put_ne c] at h; exact ⟨y, h⟩
/-- a cell is changed -/
theorem Sm.writeCell {i : Nat} (h : Sm G E m p w ŵ S) (q : S.get i = some x) (hy : Ho G { p with H := upd p.H (p.γ i) o } y (p.γ i)) : Sm G E m { p with H := upd p.H (p.γ i) o } w ŵ (S.put i y) := by
  obtain ⟨o1, o2⟩ := h.cel i x q
  have l := le_write (p := p) (o := o) o1
  have ne : ∀ {b : Addr}, b ≠ p.γ i → upd p.H (p.γ i) o b = p.H b := fun c => upd_ne c
  refine { h with bd := fun j d e => ?_, cel := fun j d e => ?_, inj := fun j t d d' e1 e2 e3 => ?_, born := fun j d e => ?_, frm := fun b e => ⟨(h.frm b e).1, fun j d e' => ?_⟩, kp := fun b u e n => ?_, sub := fun b u e => ?_, dom := fun b e => ?_, ent := fun j e e1 => ?_, own := fun j z b e1 e2 => ?_ }
  · obtain ⟨d', e⟩ := Sto.put_dom e q
    exact h.bd j d' e
  · by_cases c : j = i
    · subst c
      rw [Sto.put_same] at e; cases e
      exact ⟨o1, hy⟩
    · rw [Sto.put_ne c] at e
      exact ⟨(h.cel j d e).1, (h.cel j d e).2.mono l (ne fun z => c (h.inj j i d x e q z))⟩
  · obtain ⟨d1, e1⟩ := Sto.put_dom e1 q
    obtain ⟨d2, e2⟩ := Sto.put_dom e2 q
    exact h.inj j t d1 d2 e1 e2 e3
  · obtain ⟨d1, e⟩ := Sto.put_dom e q
    exact h.born j d1 e
  · obtain ⟨d1, e'⟩ := Sto.put_dom e' q
    exact (h.frm b e).2 j d1 e'
  · show (_ → upd _ _ _ _ = _) ∧ Kept u (upd _ _ _ _)
    rw [ne fun z => ?_]
    · exact h.kp b u e n
    · rcases h.born i x q with ⟨d0, b0⟩ | b0
      · exact n i d0 b0 (by rw [z]; exact h.old i (h.ebd i d0 b0))
      · rw [z, b0] at e; cases e
  · by_cases c : b = p.γ i
    · subst c; exact ⟨o, upd_same⟩
    · obtain ⟨u', e'⟩ := h.sub b u e
      exact ⟨u', by show upd _ _ _ _ = _; rw [ne c]; exact e'⟩
  · by_cases c : b = p.γ i
    · subst c; exact ⟨o, upd_same⟩
    · obtain ⟨u', e'⟩ := h.dom b e
      exact ⟨u', by show upd _ _ _ _ = _; rw [ne c]; exact e'⟩
  · obtain ⟨u, e2, r⟩ := h.ent j e e1
    refine ⟨u, e2, ?_⟩
    cases e with
    | d z => exact Rep.mono l r
    | own z =>
      obtain ⟨b, rfl, r⟩ := r
      exact ⟨b, rfl, r.mono l (ne fun hb => (h.own j z b e1 e2).2.2.2 i x q hb.symm)⟩
    | loc t => exact r
  · have := h.own j z b e1 e2
    refine ⟨this.1, this.2.1, this.2.2.1, fun t d e => ?_⟩
    obtain ⟨d1, e⟩ := Sto.put_dom e q
    exact this.2.2.2 t d1 e
/-- an owned list or dict becomes a cell -/
theorem Sm.celled (h : Sm G E m p w ŵ S) (q : ŵ[k]? = some (some (.own x))) (qa : w[k]? = some (some (.ref a))) :
    Sm G E m { p with γ := fun i => if i = S.nx then a else p.γ i, n := S.nx + 1 } w (ŵ.set k (some (.d (.cell S.nx)))) (S.new x) := by
  obtain ⟨o1, o2, o3, o4⟩ := h.own k x a q qa
  have l : p.le { p with γ := fun i => if i = S.nx then a else p.γ i, n := S.nx + 1 } := ⟨fun i hi => if_neg (by rw [h.pn] at hi; omega), by rw [h.pn]; exact Nat.le_succ _, fun b u n e => ⟨.inl e, n⟩⟩
  have gs : (fun i => if i = S.nx then a else p.γ i) S.nx = a := if_pos rfl
  have gn : ∀ {i d}, S.get i = some d → (if i = S.nx then a else p.γ i) = p.γ i := fun {i d} e => if_neg (Nat.ne_of_lt (h.bd i d e))
  have dm : ∀ {i d}, (S.new x).get i = some d → (i = S.nx ∧ d = x) ∨ (i ≠ S.nx ∧ S.get i = some d) := fun {i d} e => by
    by_cases c : i = S.nx
    · subst c
      have e : (if S.nx = S.nx then some x else S.get S.nx) = some d := e
      rw [if_pos rfl] at e; cases e; exact .inl ⟨rfl, rfl⟩
    · have e : (if i = S.nx then some x else S.get i) = some d := e
      rw [if_neg c] at e; exact .inr ⟨c, e⟩
  obtain ⟨u, e2, a', e3, r0⟩ := h.ent k _ q
  rw [qa] at e2
  cases e2
  cases e3
  have nk : ∀ {j y}, (ŵ.set k (some (.d (.cell S.nx))))[j]? = some (some (Vl.own y)) → k ≠ j ∧ ŵ[j]? = some (some (.own y)) := fun {j y} e => by
    rcases set_get e with ⟨rfl, ee⟩ | e
    · cases ee
    · exact e
  refine { h with len := by simp [h.len], pn := rfl, nx := Nat.le_succ_of_le h.nx, old := fun i hi => ?_, bd := fun i d e => ?_, cel := fun i d e => ?_, inj := fun i j d d' e1 e2 e3 => ?_, born := fun i d e => ?_, frm := fun b e => ⟨(h.frm b e).1, fun i d e' => ?_⟩, ent := fun j e e1 => ?_, own := fun j z b e1 e2 => ?_, sep := fun i j y z b e1 e2 e3 e4 => h.sep i j y z b (nk e1).2 (nk e2).2 e3 e4 }
  · show (if i = S.nx then a else p.γ i) = _
    rw [if_neg (by have := h.nx; omega)]
    exact h.old i hi
  · rcases dm e with ⟨rfl, _⟩ | ⟨_, e⟩
    · exact Nat.lt_succ_self _
    · exact Nat.lt_succ_of_lt (h.bd i d e)
  · rcases dm e with ⟨rfl, rfl⟩ | ⟨_, e⟩
    · show p.O (if S.nx = S.nx then a else _) ∧ Ho _ _ _ (if S.nx = S.nx then a else _)
      rw [if_pos rfl]
      exact ⟨o1, r0.mono l rfl⟩
    · show p.O (if i = S.nx then a else _) ∧ Ho _ _ _ (if i = S.nx then a else _)
      rw [gn e]
      exact ⟨(h.cel i d e).1, (h.cel i d e).2.mono l rfl⟩
  · have e3 : (if i = S.nx then a else p.γ i) = (if j = S.nx then a else p.γ j) := e3
    rcases dm e1 with ⟨i1, d1⟩ | ⟨c1, e1⟩
    · subst i1
      rcases dm e2 with ⟨i2, d2⟩ | ⟨c2, e2⟩
      · exact i2.symm
      · rw [if_pos rfl, gn e2] at e3
        exact (o4 _ _ e2 e3.symm).elim
    · rcases dm e2 with ⟨i2, d2⟩ | ⟨c2, e2⟩
      · subst i2
        rw [if_pos rfl, gn e1] at e3
        exact (o4 i d e1 e3).elim
      · rw [gn e1, gn e2] at e3
        exact h.inj i j d d' e1 e2 e3
  · rcases dm e with ⟨rfl, rfl⟩ | ⟨_, e⟩
    · right
      show E.W.H (if S.nx = S.nx then a else _) = none
      rw [if_pos rfl]; exact o2
    · show _ ∨ E.W.H (if i = S.nx then a else _) = none
      rw [gn e]; exact h.born i d e
  · rcases dm e' with ⟨rfl, rfl⟩ | ⟨_, e'⟩
    · show (if S.nx = S.nx then a else _) ≠ b
      rw [if_pos rfl]; exact fun z => o3 (z ▸ e)
    · show (if i = S.nx then a else _) ≠ b
      rw [gn e']; exact (h.frm b e).2 i d e'
  · rcases set_get e1 with ⟨rfl, ee⟩ | ⟨c, e1⟩
    · cases ee
      refine ⟨_, qa, Nat.lt_succ_self _, ?_⟩
      show V.ref a = V.ref (if S.nx = S.nx then a else _)
      rw [if_pos rfl]
    · obtain ⟨u, e2, r⟩ := h.ent j e e1
      exact ⟨u, e2, r.mono l (fun _ _ _ _ _ => rfl) fun _ _ _ e => e⟩
  · obtain ⟨c, e1⟩ := nk e1
    have := h.own j z b e1 e2
    refine ⟨this.1, this.2.1, this.2.2.1, fun i d e => ?_⟩
    rcases dm e with ⟨rfl, rfl⟩ | ⟨_, e⟩
    · show (if S.nx = S.nx then a else _) ≠ b
      rw [if_pos rfl]
      exact fun hb => c (h.sep k j _ z a q e1 qa (by rw [hb]; exact e2))
    · show (if i = S.nx then a else _) ≠ b
      rw [gn e]; exact this.2.2.2 i d e
/-- a cell is never changed any more -/
theorem Sm.freeze {i : Nat} (h : Sm G E m p w ŵ S) (hc : S.get i = some x) (q : ŵ[k]? = some (some (.d (.cell i)))) : Sm G E m { p with O := fun b => p.O b ∧ b ≠ p.γ i } w (ŵ.set k (some (.d x))) (S.del i) := by
  have l := le_shrink (p := p) (a := p.γ i)
  have dm : ∀ {j d}, (S.del i).get j = some d → j ≠ i ∧ S.get j = some d := fun {j d} e => by
    by_cases c : j = i
    · subst c
      have e : (if j = j then none else S.get j) = some d := e
      rw [if_pos rfl] at e; cases e
    · have e : (if j = i then none else S.get j) = some d := e
      rw [if_neg c] at e; exact ⟨c, e⟩
  have nk : ∀ {j y}, (ŵ.set k (some (.d x)))[j]? = some (some (Vl.own y)) → k ≠ j ∧ ŵ[j]? = some (some (.own y)) := fun {j y} e => by
    rcases set_get e with ⟨rfl, ee⟩ | e
    · cases ee
    · exact e
  refine { h with len := by simp [h.len], bd := fun j d e => h.bd j d (dm e).2, cel := fun j d e => ?_, inj := fun j t d d' e1 e2 e3 => h.inj j t d d' (dm e1).2 (dm e2).2 e3, born := fun j d e => h.born j d (dm e).2, frm := fun b e => ⟨⟨(h.frm b e).1, fun z => (h.frm b e).2 i x hc z.symm⟩, fun j d e' => (h.frm b e).2 j d (dm e').2⟩, grw := fun b u e n z => h.grw b u e n z.1, dom := fun b z => h.dom b z.1, ent := fun j e e1 => ?_, own := fun j y b e1 e2 => ?_, sep := fun i j y z b e1 e2 e3 e4 => h.sep i j y z b (nk e1).2 (nk e2).2 e3 e4 }
  · obtain ⟨c, e⟩ := dm e
    exact ⟨⟨(h.cel j d e).1, fun z => c (h.inj j i d x e hc z)⟩, (h.cel j d e).2.mono l rfl⟩
  · rcases set_get e1 with ⟨rfl, ee⟩ | ⟨c, e1⟩
    · cases ee
      obtain ⟨u, e2, r1, rfl⟩ := h.ent k _ q
      exact ⟨_, e2, Ho.rep (show ¬ (p.O (p.γ i) ∧ p.γ i ≠ p.γ i) from fun z => z.2 rfl) ((h.cel i x hc).2.mono l rfl)⟩
    · obtain ⟨u, e2, r⟩ := h.ent j e e1
      exact ⟨u, e2, r.mono l (fun _ _ _ _ _ => rfl) fun _ _ _ e => e⟩
  · obtain ⟨c, e1⟩ := nk e1
    have := h.own j y b e1 e2
    exact ⟨⟨this.1, fun z => this.2.2.2 i x hc z.symm⟩, this.2.1, this.2.2.1, fun t d e => this.2.2.2 t d (dm e).2⟩
end
end Z

/-! the value level: calls' frames, the judgements -/
namespace Z
open PySem PySem.Spec PyProof.Rows L2
section
variable {G : Gc} {E : En} {m m' : Nat} {p p' : Wr} {w w' : List (Option V)} {ŵ ŵ' : List (Option Vl)} {S S' : Sto} {x y : D} {v : V} {a : Addr} {o : HO} {k : Nat} {e : Vl}
/-- a callee's entry: what the caller owns is others' -/
def En.of (E : En) (p : Wr) (S : Sto) (w : List (Option V)) (ŵ : List (Option Vl)) : En where
  F := fun a => E.F a ∨ ∃ (k : Nat) (x : D), ŵ[k]? = some (some (.own x)) ∧ w[k]? = some (some (.ref a))
  W := p
  S := S
def starts (n : Nat) (ds : List D) : List (Option Vl) := ds.map (fun d => some (.d d)) ++ List.replicate (n - ds.length) none
theorem Sm.enter {N : List Str} {ds : List D} {vs : List V} (h : Sm G E m p w ŵ S) (r : Reps G p ds vs) : Sm G (E.of p S w ŵ) m' p (L2.start N vs) (starts N.length ds) S := by
  have hd : ∀ {k : Nat} {e : Vl}, (starts N.length ds)[k]? = some (some e) → ∃ d, ds[k]? = some d ∧ e = .d d := fun {k e} q => by
    unfold starts at q
    by_cases c : k < ds.length
    · rw [List.getElem?_append_left (by simpa using c), List.getElem?_map] at q
      obtain ⟨d, h1, h2⟩ := Option.map_eq_some_iff.mp q
      exact ⟨d, h1, (Option.some.inj h2).symm⟩
    · rw [List.getElem?_append_right (by simpa using c)] at q
      have := List.mem_of_getElem? q
      rw [List.mem_replicate] at this
      cases this.2
  refine { len := ?_, pn := h.pn, nx := Nat.le_refl _, ebd := h.bd, old := fun _ _ => rfl, bd := h.bd, cel := h.cel, inj := h.inj, born := fun i d e => .inl ⟨d, e⟩, frm := fun b q => ?_, kp := fun _ _ e _ => ⟨fun _ => e, .inl e⟩, sub := fun _ o e => ⟨o, e⟩, grw := fun _ _ _ n => n, dom := h.dom, ent := fun k e q => ?_, own := fun k x a q => ?_, sep := fun j k x y a q => ?_ }
  · unfold L2.start starts
    simp [r.len]
  · rcases q with q | ⟨k, x, q1, q2⟩
    · exact h.frm b q
    · exact ⟨(h.own k x b q1 q2).1, (h.own k x b q1 q2).2.2.2⟩
  · obtain ⟨d, e1, rfl⟩ := hd q
    obtain ⟨v, e2, r2⟩ := r.get e1
    refine ⟨v, ?_, r2⟩
    unfold L2.start
    rw [List.getElem?_append_left (by simpa using lt_of_get e2), List.getElem?_map, e2]
    rfl
  · obtain ⟨d, _, q⟩ := hd q; cases q
  · obtain ⟨d, _, q⟩ := hd q; cases q
theorem Sm.after_le (h : Sm G E m p w ŵ S) (h' : Sm G (E.of p S w ŵ) m' p' w' ŵ' S') : p.le p' := by
  refine ⟨fun i hi => h'.old i (by rw [h.pn] at hi; exact hi), by rw [h.pn, h'.pn]; exact h'.nx, fun b o n e => ⟨(h'.kp b o e fun i d q z => n ?_).2, h'.grw b o e n⟩⟩
  rw [z]
  exact (h.cel i d q).1
/-- behind a call -/
theorem Sm.after (h : Sm G E m p w ŵ S) (h' : Sm G (E.of p S w ŵ) m' p' w' ŵ' S') : Sm G E m p' w ŵ S' := by
  have l := h.after_le h'
  have own' : ∀ (k : Nat) (x : D) (a : Addr), ŵ[k]? = some (some (.own x)) → w[k]? = some (some (.ref a)) → p'.H a = p.H a := fun k x a q1 q2 => by
    obtain ⟨o1, o2, o3, o4⟩ := h.own k x a q1 q2
    obtain ⟨o, e⟩ := h.dom a o1
    rw [e]
    exact (h'.kp a o e fun i d q z => o4 i d q z.symm).1 (.inr ⟨k, x, q1, q2⟩)
  refine { len := h.len, pn := h'.pn, nx := Nat.le_trans h.nx h'.nx, ebd := h.ebd, old := fun i hi => ?_, bd := h'.bd, cel := h'.cel, inj := h'.inj, born := fun i d e => ?_, frm := fun b q => h'.frm b (.inl q), kp := fun b o e n => ?_, sub := fun b o e => ?_, grw := fun b o e n => ?_, dom := h'.dom, ent := fun k e q => ?_, own := fun k x b q1 q2 => ?_, sep := h.sep }
  · rw [h'.old i (Nat.lt_of_lt_of_le hi h.nx)]
    exact h.old i hi
  · rcases h'.born i d e with ⟨d0, b0⟩ | b0
    · rcases h.born i d0 b0 with b1 | b1
      · exact .inl b1
      · right
        rw [h'.old i (h.bd i d0 b0)]
        exact b1
    · right
      cases q : E.W.H (p'.γ i) with
      | none => rfl
      | some o =>
        obtain ⟨o', e'⟩ := h.sub _ o q
        have b0 : p.H (p'.γ i) = none := b0
        rw [b0] at e'; cases e'
  · have nc : ∀ (i : Nat) (d : D), S.get i = some d → b ≠ p.γ i := fun i d q z => by
      rcases h.born i d q with ⟨d0, b0⟩ | b0
      · exact n i d0 b0 (by rw [z]; exact h.old i (h.ebd i d0 b0))
      · rw [← z, e] at b0; cases b0
    obtain ⟨k1, k2⟩ := h.kp b o e n
    refine ⟨fun f => (h'.kp b o (k1 f) nc).1 (.inl f), ?_⟩
    have : ∃ x, p.H b = some x := by rcases k2 with k | ⟨_, _, _, k⟩ <;> exact ⟨_, k⟩
    obtain ⟨x, ex⟩ := this
    rw [ex] at k2
    exact k2.trans (h'.kp b x ex nc).2
  · obtain ⟨o', e'⟩ := h.sub b o e
    exact h'.sub b o' e'
  · obtain ⟨o', e'⟩ := h.sub b o e
    exact h'.grw b o' e' (h.grw b o e n)
  · obtain ⟨u, e2, r⟩ := h.ent k e q
    refine ⟨u, e2, ?_⟩
    cases e with
    | d z => exact Rep.mono l r
    | own z =>
      obtain ⟨b, rfl, r⟩ := r
      exact ⟨b, rfl, r.mono l (own' k z b q e2)⟩
    | loc t => exact r
  · have o := h.own k x b q1 q2
    have f := h'.frm b (.inr ⟨k, x, q1, q2⟩)
    exact ⟨f.1, o.2.1, o.2.2.1, f.2⟩
/-- something of one's own more, that nobody else has -/
theorem Sm.pushOwn (h : Sm G E m p w ŵ S) (r : Ho G p x a) (o1 : p.O a) (o2 : E.W.H a = none) (o3 : ¬ E.F a) (o4 : ∀ i d, S.get i = some d → p.γ i ≠ a) (o5 : ∀ (k : Nat) (y : D), ŵ[k]? = some (some (.own y)) → w[k]? ≠ some (some (.ref a))) :
    Sm G E m p (w ++ [some (.ref a)]) (ŵ ++ [some (.own x)]) S := by
  refine { h with len := by simp [h.len], ent := fun k e q => ?_, own := fun k y b q1 q2 => ?_, sep := fun j k y z b q1 q2 q3 q4 => ?_ }
  · rcases snoc_get q with q | ⟨rfl, qq⟩
    · obtain ⟨u, e1, r1⟩ := h.ent k e q
      exact ⟨u, snoc_old e1, r1.mono (.refl _) (fun _ _ _ _ _ => rfl) fun j v _ e => snoc_old e⟩
    · obtain rfl := Option.some.inj qq
      exact ⟨.ref a, by rw [← h.len]; exact snoc_new, a, rfl, r⟩
  · rcases snoc_get q1 with q | ⟨rfl, qq⟩
    · rw [List.getElem?_append_left (by rw [h.len]; exact lt_of_get q)] at q2
      exact h.own k y b q q2
    · rw [← h.len, snoc_new] at q2
      cases q2
      exact ⟨o1, o2, o3, o4⟩
  · rcases snoc_get q1 with q1 | ⟨rfl, qq⟩
    · rw [List.getElem?_append_left (by rw [h.len]; exact lt_of_get q1)] at q3
      rcases snoc_get q2 with q2 | ⟨rfl, qq⟩
      · rw [List.getElem?_append_left (by rw [h.len]; exact lt_of_get q2)] at q4
        exact h.sep j k y z b q1 q2 q3 q4
      · rw [← h.len, snoc_new] at q4
        cases q4
        exact (o5 j y q1 q3).elim
    · rw [← h.len, snoc_new] at q3
      cases q3
      rcases snoc_get q2 with q2 | ⟨rfl, qq⟩
      · rw [List.getElem?_append_left (by rw [h.len]; exact lt_of_get q2)] at q4
        exact (o5 k z q2 q4).elim
      · rfl
/-- a dict that nobody owns is walked: it never changes any more -/
theorem Sm.lock {d : Addr} {kvs : List (Key × V)} {od : Obj} (h : Sm G E m p w ŵ S) (hd : p.H d = some (.dK kvs)) (hn : ¬ p.O d) : Sm G E m { p with H := upd p.H d (.frz od (.dK kvs)) } w ŵ S := by
  have l : p.le { p with H := upd p.H d (.frz od (.dK kvs)) } := ⟨fun _ _ => rfl, Nat.le_refl _, fun b o n e => ⟨by
    by_cases c : b = d
    · subst c
      rw [hd] at e; cases e
      exact .inr ⟨kvs, od, rfl, upd_same⟩
    · exact .inl (by show upd _ _ _ _ = _; rw [upd_ne c]; exact e), n⟩⟩
  have nO : ∀ {b : Addr}, p.O b → upd p.H d (.frz od (.dK kvs)) b = p.H b := fun {b} q => upd_ne fun c => hn (c ▸ q)
  refine { h with cel := fun i d e => ⟨(h.cel i d e).1, (h.cel i d e).2.mono l (nO (h.cel i d e).1)⟩, kp := fun b o e n => ?_, sub := fun b o e => ?_, dom := fun b q => ?_, ent := fun k e q => ?_ }
  · obtain ⟨k1, k2⟩ := h.kp b o e n
    by_cases c : b = d
    · subst c
      refine ⟨fun f => (hn (h.frm b f).1).elim, ?_⟩
      rw [hd] at k2
      exact k2.trans (.inr ⟨kvs, od, rfl, upd_same⟩)
    · show (_ → upd _ _ _ _ = _) ∧ Kept o (upd _ _ _ _)
      rw [upd_ne c]
      exact ⟨k1, k2⟩
  · by_cases c : b = d
    · subst c; exact ⟨_, upd_same⟩
    · obtain ⟨o', e'⟩ := h.sub b o e
      exact ⟨o', by show upd _ _ _ _ = _; rw [upd_ne c]; exact e'⟩
  · obtain ⟨o', e'⟩ := h.dom b q
    exact ⟨o', by show upd _ _ _ _ = _; rw [nO q]; exact e'⟩
  · obtain ⟨u, e1, r⟩ := h.ent k e q
    refine ⟨u, e1, ?_⟩
    cases e with
    | d z => exact Rep.mono l r
    | own z =>
      obtain ⟨b, rfl, r⟩ := r
      exact ⟨b, rfl, r.mono l (nO (h.own k z b q e1).1)⟩
    | loc t => exact r
theorem Sm.leave (h : Sm G E m p w ŵ S) (h' : Sm G (E.of p S w ŵ) m' p' w' ŵ' S') (hk : ŵ'[k]? = some (some e)) (hv : w'[k]? = some (some v)) (he : ∀ j, e ≠ .loc j) : Sm G E m p' (w ++ [some v]) (ŵ ++ [some e]) S' := by
  have h1 := h.after h'
  obtain ⟨u, e2, r⟩ := h'.ent k e hk
  rw [hv] at e2; cases e2
  cases e with
  | d x => exact h1.push r
  | own x =>
    obtain ⟨a, rfl, r⟩ := r
    obtain ⟨o1, o2, o3, o4⟩ := h'.own k x a hk hv
    refine h1.pushOwn r o1 ?_ (fun z => o3 (.inl z)) o4 fun j y q1 q2 => o3 (.inr ⟨j, y, q1, q2⟩)
    cases q : E.W.H a with
    | none => rfl
    | some o =>
      obtain ⟨o', e'⟩ := h.sub _ o q
      have o2 : p.H a = none := o2
      rw [o2] at e'; cases e'
  | loc j => exact (he j rfl).elim
end
/-! ### the judgements -/
def Rel (G : Gc) (E : En) (σ : L2.St) (τ : List V) (H : Hp) (s : SD) (θ : List Vl) : Prop := ∃ p : Wr, p.H = H ∧ σ.length = s.sl.length ∧ Sm G E s.sl.length p (σ ++ τ.map some) (s.sl ++ θ.map some) s.st
/-- an exception's class and fields -/
def ExV (G : Gc) (p : Wr) (c : Str) (fs : List (Str × D)) (cls : Value) (d : Option Addr) : Prop :=
  ∃ C, G.mg c = some (.ref C) ∧ cls = .ref C ∧ ((fs = [] ∧ d = none) ∨ ∃ da fvs, d = some da ∧ p.H da = some (.xd fvs) ∧ ¬ p.O da ∧ RepF G p fs fvs)
def RelX (G : Gc) (E : En) (σ : L2.St) (τ : List V) (H : Hp) (s : SD) (θ : List Vl) (c : Str) (fs : List (Str × D)) (cls : Value) (d : Option Addr) : Prop :=
  ∃ p : Wr, p.H = H ∧ σ.length = s.sl.length ∧ Sm G E s.sl.length p (σ ++ τ.map some) (s.sl ++ θ.map some) s.st ∧ ExV G p c fs cls d
def XP (G : Gc) (W : WX) (E : En) (τ : List V) (θ : List Vl) : XQ := fun c fs s' => ∀ cls d σ' H', RelX G E σ' τ H' s' θ c fs cls d → W cls d σ' H'
def Nl (θ : List Vl) : Prop := ∀ e ∈ θ, ∀ j, e ≠ .loc j
theorem Nl.snoc {θ : List Vl} {a : Vl} (h : Nl θ) (ha : ∀ j, a ≠ .loc j) : Nl (θ ++ [a]) := fun e he => by
  rcases List.mem_append.mp he with he | he
  · exact h e he
  · rw [List.mem_singleton.mp he]; exact ha
theorem Nl.d {θ : List Vl} {x : D} (h : Nl θ) : Nl (θ ++ [.d x]) := h.snoc fun _ q => nomatch q
def RE (G : Gc) (W : WX) (t : TE) (fe : SD → R Vl) : Prop := ∀ (E : En) (σ : L2.St) (τ : List V) (H : Hp) (s : SD) (θ : List Vl) (Q : VK), Nl θ → Rel G E σ τ H s θ →
  Wp (fe s) (fun a s' => ∀ v H', Rel G E σ (τ ++ [v]) H' s' (θ ++ [a]) → Q v H') (XP G W E τ θ) → t σ H Q
/-- a test -/
def RT (G : Gc) (W : WX) (t : TT) (fe : SD → R Bool) : Prop := ∀ (E : En) (σ : L2.St) (τ : List V) (H : Hp) (s : SD) (θ : List Vl) (Q : Bool → Hp → Prop), Nl θ → Rel G E σ τ H s θ →
  Wp (fe s) (fun b s' => ∀ H', Rel G E σ τ H' s' θ → Q b H') (XP G W E τ θ) → t σ H Q
/-- arguments, none of them one's own any more -/
def RA (G : Gc) (W : WX) (t : TA) (fe : SD → R (List D)) : Prop := ∀ (E : En) (σ : L2.St) (τ : List V) (H : Hp) (s : SD) (θ : List Vl) (Q : List V → Hp → Prop), Nl θ → Rel G E σ τ H s θ →
  Wp (fe s) (fun ds s' => ∀ vs H', Rel G E σ (τ ++ vs) H' s' (θ ++ ds.map .d) → Q vs H') (XP G W E τ θ) → t σ H Q
inductive Fl where
  | nx | bk | ct | rt (a : Vl)
def FP (G : Gc) (E : En) (τ : List V) (θ : List Vl) (D : Ends) : Fl → SD → Prop
  | .nx, s' => ∀ σ' H', Rel G E σ' τ H' s' θ → D.nx σ' H'
  | .bk, s' => ∀ σ' H', Rel G E σ' τ H' s' θ → D.bk σ' H'
  | .ct, s' => ∀ σ' H', Rel G E σ' τ H' s' θ → D.ct σ' H'
  | .rt a, s' => (∀ j, a ≠ .loc j) ∧ ∀ σ' v H', Rel G E σ' (τ ++ [v]) H' s' (θ ++ [a]) → D.rt v H'
def RS (G : Gc) (W : WX) (t : TS) (fz : SD → R Fl) : Prop := ∀ (E : En) (σ : L2.St) (τ : List V) (H : Hp) (s : SD) (θ : List Vl) (D : Ends), Nl θ → Rel G E σ τ H s θ →
  Wp (fz s) (FP G E τ θ D) (XP G W E τ θ) → t D σ H
section
variable {G : Gc} {W : WX} {E : En} {σ : L2.St} {τ : List V} {H : Hp} {s : SD} {θ : List Vl} {v : V} {a : Vl} {x : D} {p : Wr}
theorem Rel.snoc (h : Sm G E s.sl.length p ((σ ++ τ.map some) ++ [some v]) ((s.sl ++ θ.map some) ++ [some a]) s.st) (hl : σ.length = s.sl.length) (hH : p.H = H) : Rel G E σ (τ ++ [v]) H s (θ ++ [a]) := by
  refine ⟨p, hH, hl, ?_⟩
  rw [List.map_append, List.map_append, ← List.append_assoc, ← List.append_assoc]
  exact h
theorem Rel.unsnoc (h : Rel G E σ (τ ++ [v]) H s (θ ++ [a])) : ∃ p : Wr, p.H = H ∧ σ.length = s.sl.length ∧ Sm G E s.sl.length p ((σ ++ τ.map some) ++ [some v]) ((s.sl ++ θ.map some) ++ [some a]) s.st := by
  obtain ⟨p, e, hl, h⟩ := h
  rw [List.map_append, List.map_append, ← List.append_assoc, ← List.append_assoc] at h
  exact ⟨p, e, hl, h⟩
theorem snoc_len {α β : Type} {l : List α} {l' : List β} {a : α} {b : β} (h : (l ++ [a]).length = (l' ++ [b]).length) : l.length = l'.length := by simpa using h
theorem Sm.pop1 {m : Nat} {w : List (Option V)} {ŵ : List (Option Vl)} {S : Sto} {u : Option V} {e : Option Vl} (h : Sm G E m p (w ++ [u]) (ŵ ++ [e]) S) (hm : m ≤ w.length) : Sm G E m p w ŵ S := h.pop (snoc_len h.len) hm
theorem le_app {l : List (Option V)} (hl : σ.length = s.sl.length) : s.sl.length ≤ (σ ++ l).length := by simp; omega
theorem Rel.pop (h : Rel G E σ (τ ++ [v]) H s (θ ++ [a])) : Rel G E σ τ H s θ := by
  obtain ⟨p, e, hl, h⟩ := h.unsnoc
  exact ⟨p, e, hl, h.pop1 (le_app hl)⟩
theorem RelX.pop {c : Str} {fs : List (Str × D)} {cls : Value} {d : Option Addr} (h : RelX G E σ (τ ++ [v]) H s (θ ++ [a]) c fs cls d) : RelX G E σ τ H s θ c fs cls d := by
  obtain ⟨p, e, hl, h, x⟩ := h
  rw [List.map_append, List.map_append, ← List.append_assoc, ← List.append_assoc] at h
  exact ⟨p, e, hl, h.pop1 (le_app hl), x⟩
theorem XP.up {c : Str} {fs : List (Str × D)} (h : XP G W E τ θ c fs s) : XP G W E (τ ++ [v]) (θ ++ [a]) c fs s := fun cls d σ' H' r => h cls d σ' H' r.pop
theorem Rel.len (h : Rel G E σ τ H s θ) : (σ ++ τ.map some).length = (s.sl ++ θ.map some).length := let ⟨_, _, _, h⟩ := h; h.len
theorem Rel.tlen (h : Rel G E σ τ H s θ) : τ.length = θ.length := by
  obtain ⟨_, _, hl, h⟩ := h
  have := h.len
  simp at this
  omega
/-- the last value -/
theorem Rel.last (h : Rel G E σ (τ ++ [v]) H s (θ ++ [.d x])) : ∃ p : Wr, p.H = H ∧ Rep G p x v := by
  obtain ⟨p, e, hl, h⟩ := h.unsnoc
  have l := snoc_len h.len
  obtain ⟨u, e1, r⟩ := h.ent _ _ (snoc_new (l := s.sl ++ θ.map some))
  rw [← l, snoc_new] at e1
  cases e1
  exact ⟨p, e, r⟩
theorem Rel.push (h : Rel G E σ τ H s θ) (r : ∀ p : Wr, Rep G p x v) : Rel G E σ (τ ++ [v]) H s (θ ++ [.d x]) := by
  obtain ⟨p, e, hl, h⟩ := h
  exact .snoc (h.push (r p)) hl e
end
end Z

/-! the value level: expressions -/
namespace Z
open PySem PySem.Spec PyProof.Rows L2 M
open Classical
/-! ### what is read of a value at hand -/
def SD.cont (s : SD) : Vl → Option D
  | .d (.cell i) => s.st.get i
  | .d x => some x
  | .own x => some x
  | .loc k => match s.sl[k]? with
    | some (some (.own x)) => some x
    | some (some (.d (.cell i))) => s.st.get i
    | some (some (.d x)) => some x
    | _ => none
def Cont (G : Gc) (p : Wr) (x : D) (v : V) : Prop := (x.box = true ∧ ∃ b, v = .ref b ∧ Hc G p x b) ∨ (x.box = false ∧ Rep G p x v)
section
variable {G : Gc} {W : WX} {E : En} {σ : L2.St} {τ : List V} {H : Hp} {s : SD} {θ : List Vl} {v u : V} {a b : Vl} {x y : D} {p : Wr} {Q : VK} {m : Nat} {w : List (Option V)} {S : Sto} {k : Nat}
theorem Ho.box {a : Addr} : ∀ {x : D}, Ho G p x a → x.box = true
  | .lst _, _ => rfl
  | .dct _, _ => rfl
  | .obj _ _, _ => rfl
  | .non, h => h.elim | .bl _, h => h.elim | .int _, h => h.elim | .str _, h => h.elim | .con _, h => h.elim | .tup _, h => h.elim | .cell _, h => h.elim
theorem Ho.cont {a : Addr} (h : Ho G p x a) : Cont G p x (.ref a) := .inl ⟨h.box, a, rfl, h.c⟩
theorem Rep.cont (h : Rep G p x v) : Cont G p x v := by
  cases e : x.box with
  | true => exact .inl ⟨e, h.c e⟩
  | false => exact .inr ⟨e, h⟩
theorem Sm.cont_d (h : Sm G E m p w ŵ S) (r : Rep G p y v) (c : (match y with | .cell i => S.get i | y => some y) = some x) : Cont G p x v := by
  cases y with
  | cell i =>
    obtain ⟨_, rfl⟩ := r
    exact (h.cel i x c).2.cont
  | _ => cases c; exact r.cont
theorem Sm.cont {l : List (Option Vl)} (h : Sm G E m p w (s.sl ++ l) s.st) (hm : m = s.sl.length) (q : (s.sl ++ l)[k]? = some (some a)) (qv : w[k]? = some (some v)) (c : s.cont a = some x) : Cont G p x v := by
  obtain ⟨u, e1, r⟩ := h.ent k a q
  rw [qv] at e1; cases e1
  cases a with
  | d y => exact h.cont_d r (by cases y <;> exact c)
  | own y =>
    cases c
    obtain ⟨b, rfl, r⟩ := r
    exact r.cont
  | loc j =>
    obtain ⟨_, hj, r⟩ := r
    unfold SD.cont at c
    dsimp only at c
    have hs : ∀ {e : Option Vl}, s.sl[j]? = some e → (s.sl ++ l)[j]? = some e := fun q => by rw [List.getElem?_append_left (lt_of_get q)]; exact q
    cases q1 : s.sl[j]? with
    | none => rw [q1] at c; cases c
    | some o =>
      cases o with
      | none => rw [q1] at c; cases c
      | some z =>
        obtain ⟨u, e2, r2⟩ := h.ent j z (hs q1)
        rw [r] at e2; cases e2
        rw [q1] at c
        cases z with
        | d y => exact h.cont_d r2 (by cases y <;> exact c)
        | own y =>
          cases c
          obtain ⟨b, rfl, r2⟩ := r2
          exact r2.cont
        | loc i => cases c
theorem Cont.lst {ds : List D} (h : Cont G p (.lst ds) v) : ∃ b vs, v = .ref b ∧ p.H b = some (.lst vs) ∧ Reps G p ds vs := by
  rcases h with ⟨_, b, e, vs, h, r⟩ | ⟨q, _⟩
  · exact ⟨b, vs, e, h, r⟩
  · cases q
theorem Cont.con {ds : List D} (h : Cont G p (.con ds) v) : ∃ b vs, v = .ref b ∧ SqL G.K p.H b vs ∧ Reps G p ds vs := by
  rcases h with ⟨_, b, e, vs, h, r⟩ | ⟨q, _⟩
  · exact ⟨b, vs, e, h, r⟩
  · cases q
theorem Cont.tup {ds : List D} (h : Cont G p (.tup ds) v) : ∃ b vs, v = .ref b ∧ p.H b = some (.tup vs) ∧ Reps G p ds vs := by
  rcases h with ⟨_, b, e, vs, h, r⟩ | ⟨q, _⟩
  · exact ⟨b, vs, e, h, r⟩
  · cases q
theorem Cont.dct {ds : List (Key × D)} (h : Cont G p (.dct ds) v) : ∃ b vs, v = .ref b ∧ Rd p.H b (.dK vs) ∧ RepK G p ds vs := by
  rcases h with ⟨_, b, e, vs, h, r⟩ | ⟨q, _⟩
  · exact ⟨b, vs, e, h, r⟩
  · cases q
theorem Cont.obj {c : Str} {ds : List (Str × D)} (h : Cont G p (.obj c ds) v) : ∃ b C dx vs, v = .ref b ∧ G.mg c = some (.ref C) ∧ p.H b = some (.ins C dx vs) ∧ RepF G p ds vs := by
  rcases h with ⟨_, b, e, C, dx, vs, m, h, r⟩ | ⟨q, _⟩
  · exact ⟨b, C, dx, vs, e, m, h, r⟩
  · cases q
theorem Cont.sc (h : Cont G p x v) (hx : x.box = false) : Rep G p x v := by
  rcases h with ⟨q, _⟩ | ⟨_, h⟩
  · rw [hx] at q; cases q
  · exact h
theorem Cont.int {i : Int} (h : Cont G p (.int i) v) : v = .int i := h.sc rfl
theorem Cont.str {i : Str} (h : Cont G p (.str i) v) : v = .str i := h.sc rfl
theorem Cont.bl {i : Bool} (h : Cont G p (.bl i) v) : v = .bl i := h.sc rfl
/-! ### what one or two values at hand become -/
def Prim1 (G : Gc) (r : V → Hp → VK → Prop) (f : Vl → SD → R Vl) : Prop := ∀ (E : En) (σ : L2.St) (τ : List V) (s : SD) (θ : List Vl) (p : Wr) (v : V) (a : Vl) (Q : VK), σ.length = s.sl.length →
  Sm G E s.sl.length p ((σ ++ τ.map some) ++ [some v]) ((s.sl ++ θ.map some) ++ [some a]) s.st → Wp (f a s) (fun b s' => ∀ u H', Rel G E σ (τ ++ [u]) H' s' (θ ++ [b]) → Q u H') (fun _ _ _ => False) → r v p.H Q
def Prim2 (G : Gc) (r : R2) (f : Vl → Vl → SD → R Vl) : Prop := ∀ (E : En) (σ : L2.St) (τ : List V) (s : SD) (θ : List Vl) (p : Wr) (v u : V) (a b : Vl) (Q : VK), σ.length = s.sl.length →
  Sm G E s.sl.length p (((σ ++ τ.map some) ++ [some v]) ++ [some u]) (((s.sl ++ θ.map some) ++ [some a]) ++ [some b]) s.st → Wp (f a b s) (fun b s' => ∀ u H', Rel G E σ (τ ++ [u]) H' s' (θ ++ [b]) → Q u H') (fun _ _ _ => False) → r v u p.H Q
def z1 (f : Vl → SD → R Vl) (fa : SD → R Vl) : SD → R Vl := fun s => (fa s).bind f
def z2 (f : Vl → Vl → SD → R Vl) (fa fb : SD → R Vl) : SD → R Vl := fun s => (fa s).bind fun a s1 => (fb s1).bind fun b s2 => f a b s2
theorem RE.op1 {r : V → Hp → VK → Prop} {f : Vl → SD → R Vl} {ta : TE} {fa : SD → R Vl} (hp : Prim1 G r f) (nx : ∀ a s c fs s', f a s ≠ .ex c fs s') (ha : RE G W ta fa) : RE G W (fun σ H Q => ta σ H fun x H1 => r x H1 Q) (z1 f fa) := by
  intro E σ τ H s θ Q hN hR hw
  unfold z1 at hw
  rw [Wp_bind] at hw
  refine ha E σ τ H s θ _ hN hR (hw.mono (fun a s1 hw v H1 h1 => ?_) fun _ _ _ h => h)
  obtain ⟨p, rfl, hl, h⟩ := h1.unsnoc
  refine hp E σ τ s1 θ p v a Q hl h ?_
  cases e : f a s1 with
  | ok b s2 => rw [e] at hw; exact hw
  | ex c fs s2 => exact (nx _ _ _ _ _ e).elim
  | bad => rw [e] at hw; exact hw
theorem Sm.pushLoc' {j : Nat} (h : Sm G E m p w ŵ S) (hm : m ≤ w.length) (hj : j < m) (hv : w[j]? = some (some v)) : Sm G E m p (w ++ [some v]) (ŵ ++ [some (.loc j)]) S := by
  refine { h with len := by simp [h.len], ent := fun k e q => ?_, own := fun k y a q1 q2 => ?_, sep := fun j k y z a q1 q2 q3 q4 => ?_ }
  · rcases snoc_get q with q | ⟨rfl, qq⟩
    · obtain ⟨u, e1, r1⟩ := h.ent k e q
      exact ⟨u, snoc_old e1, r1.mono (.refl p) (fun _ _ _ _ _ => rfl) fun j v _ e => snoc_old e⟩
    · obtain rfl := Option.some.inj qq
      exact ⟨v, by rw [← h.len]; exact snoc_new, by rw [← h.len]; exact hm, hj, snoc_old hv⟩
  · rcases snoc_get q1 with q | ⟨rfl, qq⟩
    · have : k < w.length := by rw [h.len]; exact lt_of_get q
      rw [List.getElem?_append_left this] at q2
      exact h.own k y a q q2
    · cases qq
  · rcases snoc_get q1 with q1 | ⟨rfl, qq⟩
    · rcases snoc_get q2 with q2 | ⟨rfl, qq⟩
      · rw [List.getElem?_append_left (by rw [h.len]; exact lt_of_get q1)] at q3
        rw [List.getElem?_append_left (by rw [h.len]; exact lt_of_get q2)] at q4
        exact h.sep j k y z a q1 q2 q3 q4
      · cases qq
    · cases qq
/-- a slot's name at hand, let go: its value is the slot's -/
theorem Rel.unloc {k : Nat} (h : Rel G E σ (τ ++ [v]) H s (θ ++ [.loc k])) : k < s.sl.length ∧ σ[k]? = some (some v) := by
  obtain ⟨p, e, hl, h⟩ := h.unsnoc
  obtain ⟨u, e1, r1, r2, r3⟩ := h.ent _ _ (snoc_new (l := s.sl ++ θ.map some))
  rw [← snoc_len h.len, snoc_new] at e1; cases e1
  refine ⟨r2, ?_⟩
  rw [List.append_assoc, List.getElem?_append_left (by omega)] at r3
  exact r3
theorem Rel.reloc {k : Nat} (h : Rel G E σ τ H s θ) (hk : σ[k]? = some (some v)) : Rel G E σ (τ ++ [v]) H s (θ ++ [.loc k]) := by
  obtain ⟨p, e, hl, h⟩ := h
  have := lt_of_get hk
  exact .snoc (h.pushLoc' (le_app hl) (by omega) (by rw [List.getElem?_append_left this]; exact hk)) hl e
/-- one of two values pushed below the other -/
theorem Sm.pick (h : Sm G E m p w ŵ S) {w' : List (Option V)} {ŵ' : List (Option Vl)} (f : Nat → Nat) (hl : w'.length = ŵ'.length) (hf : ∀ (k : Nat) (e : Vl), ŵ'[k]? = some (some e) → ŵ[f k]? = some (some e) ∧ w'[k]? = w[f k]? ∧ (m ≤ f k → m ≤ k)) (hi : ∀ (j k : Nat) (y z : D), ŵ'[j]? = some (some (.own y)) → ŵ'[k]? = some (some (.own z)) → f j = f k → j = k)
    (hm : ∀ (k : Nat), k < m → w'[k]? = w[k]?) : Sm G E m p w' ŵ' S := by
  refine { h with len := hl, ent := fun k e q => ?_, own := fun k y a q1 q2 => ?_, sep := fun j k y z a q1 q2 q3 q4 => ?_ }
  · obtain ⟨q1, q2, q3⟩ := hf k e q
    obtain ⟨v, e1, r⟩ := h.ent _ _ q1
    refine ⟨v, q2.trans e1, ?_⟩
    cases e with
    | d x => exact r
    | own x => exact r
    | loc j => exact ⟨q3 r.1, r.2.1, (hm j r.2.1).trans r.2.2⟩
  · obtain ⟨q3, q4, _⟩ := hf k _ q1
    exact h.own _ y a q3 (q4.symm.trans q2)
  · obtain ⟨r1, r2, _⟩ := hf j _ q1
    obtain ⟨r3, r4, _⟩ := hf k _ q2
    exact hi j k y z q1 q2 (h.sep _ _ y z a r1 r3 (r2.symm.trans q3) (r4.symm.trans q4))
theorem Rel.swap (h : Rel G E σ (τ ++ [u] ++ [v]) H s (θ ++ [b] ++ [a])) (ht : τ.length = θ.length) : Rel G E σ (τ ++ [v] ++ [u]) H s (θ ++ [a] ++ [b]) := by
  obtain ⟨p, e, hl, h⟩ := h
  refine ⟨p, e, hl, ?_⟩
  have e1 : ∀ (x y : V), σ ++ (τ ++ [x] ++ [y]).map some = (σ ++ τ.map some) ++ [some x, some y] := fun x y => by simp
  have e2 : ∀ (x y : Vl), s.sl ++ (θ ++ [x] ++ [y]).map some = (s.sl ++ θ.map some) ++ [some x, some y] := fun x y => by simp
  rw [e1, e2] at h ⊢
  have l : (σ ++ τ.map some).length = (s.sl ++ θ.map some).length := by simp [hl, ht]
  generalize (σ ++ τ.map some) = A at *
  have hm : s.sl.length ≤ (s.sl ++ θ.map some).length := by simp
  generalize (s.sl ++ θ.map some) = B at *
  have fl : ∀ {α : Type} {A : List α} {x y z w : α} {k : Nat}, k < A.length → (A ++ [x, y])[k]? = (A ++ [z, w])[k]? := fun {α A x y z w k} hk => by rw [List.getElem?_append_left hk, List.getElem?_append_left hk]
  have f0 : ∀ {α : Type} {A : List α} {x y : α}, (A ++ [x, y])[A.length]? = some x := fun {α A x y} => by rw [List.getElem?_append_right (Nat.le_refl _)]; simp
  have f1 : ∀ {α : Type} {A : List α} {x y : α}, (A ++ [x, y])[A.length + 1]? = some y := fun {α A x y} => by rw [List.getElem?_append_right (Nat.le_succ _)]; simp
  refine h.pick (fun k => if k = B.length then B.length + 1 else if k = B.length + 1 then B.length else k) (by simp [l]) (fun k e q => ?_) (fun j k y z h1 h2 e => ?_) fun k hk => fl (by omega)
  · by_cases c : k < B.length
    · rw [if_neg (by omega), if_neg (by omega)]
      exact ⟨(fl c).trans q, fl (by omega), id⟩
    · by_cases c2 : k = B.length
      · subst c2
        rw [if_pos rfl]
        rw [f0] at q
        exact ⟨f1.trans q, by rw [← l, f0, f1], fun _ => hm⟩
      · have : k = B.length + 1 := by have := lt_of_get q; simp at this; omega
        subst this
        rw [if_neg (by omega), if_pos rfl]
        rw [f1] at q
        exact ⟨f0.trans q, by rw [← l, f0, f1], fun _ => by omega⟩
  · split at e <;> split at e <;> (try split at e) <;> (try split at e) <;> omega
/-- two in a row -/
theorem RE.two {ta tb : TE} {fa fb : SD → R Vl} {α : Type} {f : Vl → Vl → SD → R α} {P : α → SD → Prop} {Q : V → V → Hp → Prop} (ha : RE G W ta fa) (hb : RE G W tb fb) (hN : Nl θ) (hR : Rel G E σ τ H s θ)
    (hw : Wp ((fa s).bind fun a s1 => (fb s1).bind fun b s2 => f a b s2) P (XP G W E τ θ))
    (k : ∀ (a b : Vl) (s2 : SD) (v u : V) (H2 : Hp), Rel G E σ (τ ++ [v] ++ [u]) H2 s2 (θ ++ [a] ++ [b]) → Wp (f a b s2) P (XP G W E τ θ) → Q v u H2) : ta σ H fun x H1 => tb σ H1 fun y H2 => Q x y H2 := by
  rw [Wp_bind] at hw
  refine ha E σ τ H s θ _ hN hR (hw.mono (fun a s1 hw v H1 h1 => ?_) fun _ _ _ h => h)
  rw [Wp_bind] at hw
  by_cases c : ∃ j, a = .loc j
  · obtain ⟨j, rfl⟩ := c
    obtain ⟨c1, c2⟩ := h1.unloc
    refine hb E σ τ H1 s1 θ _ hN h1.pop (hw.mono (fun b s2 hw u H2 h2 => k _ _ _ _ _ _ ?_ hw) fun _ _ _ h => h)
    exact (h2.reloc c2).swap hR.tlen
  · exact hb E σ _ H1 s1 _ _ (hN.snoc fun j q => c ⟨j, q⟩) h1 (hw.mono (fun b s2 hw u H2 h2 => k _ _ _ _ _ _ h2 hw) fun _ _ _ h => h.up)
theorem RE.op2 {r : R2} {f : Vl → Vl → SD → R Vl} {ta tb : TE} {fa fb : SD → R Vl} (hp : Prim2 G r f) (nx : ∀ a b s c fs s', f a b s ≠ .ex c fs s') (ha : RE G W ta fa) (hb : RE G W tb fb) : RE G W (tOp r ta tb) (z2 f fa fb) := by
  intro E σ τ H s θ Q hN hR hw
  refine RE.two ha hb hN hR hw fun a b s2 v u H2 h2 hw => ?_
  obtain ⟨p, rfl, hl, h⟩ := h2.unsnoc
  rw [List.map_append, List.map_append, ← List.append_assoc, ← List.append_assoc] at h
  refine hp E σ τ s2 θ p v u a b Q hl h ?_
  cases e : f a b s2 with
  | ok b s2 => rw [e] at hw; exact hw
  | ex c fs s2 => exact (nx _ _ _ _ _ _ e).elim
  | bad => rw [e] at hw; exact hw
/-! ends -/
theorem fin_d (h : Sm G E s.sl.length p (σ ++ τ.map some) (s.sl ++ θ.map some) s.st) (hl : σ.length = s.sl.length) (hq : ∀ u H', Rel G E σ (τ ++ [u]) H' s (θ ++ [.d x]) → Q u H') (r : Rep G p x v) : Q v p.H :=
  hq v _ (.snoc (h.push r) hl rfl)
theorem fin_lst {ds : List D} {vs : List V} {a : Addr} (h : Sm G E s.sl.length p (σ ++ τ.map some) (s.sl ++ θ.map some) s.st) (hl : σ.length = s.sl.length) (hq : ∀ u H', Rel G E σ (τ ++ [u]) H' s (θ ++ [.own (.lst ds)]) → Q u H') (hn : p.H a = none) (r : Reps G p ds vs) : Q (.ref a) (upd p.H a (.lst vs)) :=
  hq _ _ (.snoc (h.allocOwn hn ⟨vs, upd_same, r.mono (le_allocO hn)⟩) hl rfl)
theorem fin_dct {ds : List (Key × D)} {vs : List (Key × V)} {a : Addr} (h : Sm G E s.sl.length p (σ ++ τ.map some) (s.sl ++ θ.map some) s.st) (hl : σ.length = s.sl.length) (hq : ∀ u H', Rel G E σ (τ ++ [u]) H' s (θ ++ [.own (.dct ds)]) → Q u H') (hn : p.H a = none) (r : RepK G p ds vs) : Q (.ref a) (upd p.H a (.dK vs)) :=
  hq _ _ (.snoc (h.allocOwn hn ⟨vs, upd_same, r.mono (le_allocO hn)⟩) hl rfl)
theorem fin_tup {ds : List D} {vs : List V} {a : Addr} (h : Sm G E s.sl.length p (σ ++ τ.map some) (s.sl ++ θ.map some) s.st) (hl : σ.length = s.sl.length) (hq : ∀ u H', Rel G E σ (τ ++ [u]) H' s (θ ++ [.d (.tup ds)]) → Q u H') (hn : p.H a = none) (r : Reps G p ds vs) : Q (.ref a) (upd p.H a (.tup vs)) :=
  hq _ _ (.snoc ((h.alloc hn).push (x := .tup ds) ⟨a, vs, rfl, ⟨(h.fresh hn).2, upd_same⟩, r.mono (le_alloc hn)⟩) hl rfl)
/-! the contents of the last one, the last two -/
theorem last1 (hl : σ.length = s.sl.length) (h : Sm G E s.sl.length p ((σ ++ τ.map some) ++ [some v]) ((s.sl ++ θ.map some) ++ [some a]) s.st) : Sm G E s.sl.length p (σ ++ τ.map some) (s.sl ++ θ.map some) s.st ∧ (∀ x, s.cont a = some x → Cont G p x v) ∧ Rv G p s.sl.length ((σ ++ τ.map some) ++ [some v]) (s.sl ++ θ.map some).length a v := by
  have l := snoc_len h.len
  refine ⟨h.pop1 (le_app hl), fun x c => ?_, ?_⟩
  · rw [List.append_assoc (as := s.sl)] at h
    exact h.cont rfl (k := (s.sl ++ θ.map some).length) (by rw [← List.append_assoc]; exact snoc_new) (by rw [← l]; exact snoc_new) c
  · obtain ⟨u, e1, r⟩ := h.ent _ _ snoc_new
    rw [← l, snoc_new] at e1; cases e1
    exact r
theorem last2 (hl : σ.length = s.sl.length) (h : Sm G E s.sl.length p (((σ ++ τ.map some) ++ [some v]) ++ [some u]) (((s.sl ++ θ.map some) ++ [some a]) ++ [some b]) s.st) :
    Sm G E s.sl.length p (σ ++ τ.map some) (s.sl ++ θ.map some) s.st ∧ (∀ x, s.cont a = some x → Cont G p x v) ∧ (∀ x, s.cont b = some x → Cont G p x u) := by
  have h1 := h.pop1 (by simp; omega)
  obtain ⟨h2, c1, _⟩ := last1 hl h1
  refine ⟨h2, c1, fun x c => ?_⟩
  have l := snoc_len h.len
  rw [List.append_assoc (as := s.sl), List.append_assoc (as := s.sl)] at h
  exact h.cont rfl (k := ((s.sl ++ θ.map some) ++ [some a]).length) (by rw [← List.append_assoc (as := s.sl), ← List.append_assoc (as := s.sl)]; exact snoc_new) (by rw [← l]; exact snoc_new) c
/-! ### names and constants -/
def zC (x : D) : SD → R Vl := fun s => .ok (.d x) s
def zVar (i : Nat) : SD → R Vl := fun s => match s.sl[i]? with
  | some (some (.own _)) => .ok (.loc i) s
  | some (some (.d x)) => .ok (.d x) s
  | _ => .bad
theorem RE.c (hx : ∀ p : Wr, Rep G p x v) : RE G W (tC v) (zC x) := fun _ _ _ _ _ _ _ _ hR hw => hw _ _ (hR.push hx)
theorem RE.var {i : Nat} : RE G W (tVar i) (zVar i) := by
  intro E σ τ H s θ Q hN hR hw
  obtain ⟨p, rfl, hl, h⟩ := hR
  unfold zVar at hw
  have hs : ∀ {e : Option Vl}, s.sl[i]? = some e → (s.sl ++ θ.map some)[i]? = some e := fun q => by rw [List.getElem?_append_left (lt_of_get q)]; exact q
  have go : ∀ {e : Vl}, s.sl[i]? = some (some e) → ∃ v, σ[i]? = some (some v) ∧ (σ ++ τ.map some)[i]? = some (some v) ∧ Rv G p s.sl.length (σ ++ τ.map some) i e v := fun {e} q => by
    obtain ⟨v, e1, r⟩ := h.ent i e (hs q)
    refine ⟨v, ?_, e1, r⟩
    rw [List.getElem?_append_left (by rw [hl]; exact lt_of_get q)] at e1
    exact e1
  cases q : s.sl[i]? with
  | none => rw [q] at hw; exact hw.elim
  | some o =>
    rw [q] at hw
    cases o with
    | none => exact hw.elim
    | some e =>
      obtain ⟨v, e1, e2, r⟩ := go q
      cases e with
      | d x => exact ⟨v, e1, hw v _ (.snoc (h.push r) hl rfl)⟩
      | own x => exact ⟨v, e1, hw v _ (.snoc (h.pushLoc (by simp; omega) (lt_of_get q) (hs q) e2) hl rfl)⟩
      | loc j => exact hw.elim
end
end Z

/-! the value level: settling, arguments, displays, tests -/
namespace Z
open PySem PySem.Spec PyProof.Rows L2 M
open Classical
/-- never one's own any more -/
def SD.fix (s : SD) : Vl → R D
  | .d x => .ok x s
  | .own x => .ok x s
  | .loc k => match s.sl[k]? with
    | some (some (.own x)) => .ok x { s with sl := s.sl.set k (some (.d x)) }
    | some (some (.d x)) => .ok x s
    | _ => .bad
/-- a cell of it -/
def SD.celled (s : SD) : Vl → R D
  | .d (.cell i) => .ok (.cell i) s
  | .own x => .ok (.cell s.st.nx) { s with st := s.st.new x }
  | .loc k => match s.sl[k]? with
    | some (some (.own x)) => .ok (.cell s.st.nx) ⟨s.sl.set k (some (.d (.cell s.st.nx))), s.st.new x⟩
    | some (some (.d (.cell i))) => .ok (.cell i) s
    | _ => .bad
  | _ => .bad
/-- a cell let go -/
def SD.frz (s : SD) : Vl → R D
  | .d (.cell i) => match s.st.get i with
    | some x => .ok x { s with st := s.st.del i }
    | none => .bad
  | _ => .bad
def zVia (g : SD → Vl → R D) (fa : SD → R Vl) : SD → R Vl := fun s => (fa s).bind fun a s1 => (g s1 a).bind fun x s2 => .ok (.d x) s2
abbrev zFix := zVia SD.fix
abbrev zCell := zVia SD.celled
abbrev zFrz := zVia SD.frz
section
variable {G : Gc} {W : WX} {E : En} {σ : L2.St} {τ : List V} {H : Hp} {s s' : SD} {θ : List Vl} {v u : V} {a b : Vl} {x y : D} {p : Wr} {Q : VK} {m : Nat} {w : List (Option V)} {S : Sto} {k : Nat} {l : List (Option Vl)}
theorem set_last {α : Type} {l : List α} {x y : α} : (l ++ [x]).set l.length y = l ++ [y] := by
  rw [List.set_append_right _ _ (Nat.le_refl _)]
  simp
theorem set_front {α : Type} {l r : List α} {x : α} {k : Nat} (h : k < l.length) : (l ++ r).set k x = l.set k x ++ r := List.set_append_left _ _ h
/-- a slot's own -/
theorem Sm.slot {e : Vl} (h : Sm G E m p w (s.sl ++ l) S) (q : s.sl[k]? = some (some e)) : (s.sl ++ l)[k]? = some (some e) ∧ ∃ v, w[k]? = some (some v) ∧ Rv G p m w k e v := by
  have hs : (s.sl ++ l)[k]? = some (some e) := by rw [List.getElem?_append_left (lt_of_get q)]; exact q
  exact ⟨hs, h.ent k e hs⟩
def Fits (G : Gc) (g : SD → Vl → R D) : Prop := ∀ (E : En) (s : SD) (a : Vl) (x : D) (s' : SD) (p : Wr) (w : List (Option V)) (l : List (Option Vl)) (v : V), g s a = .ok x s' →
  Sm G E s.sl.length p (w ++ [some v]) ((s.sl ++ l) ++ [some a]) s.st → s.sl.length ≤ w.length →
  ∃ p' : Wr, p'.H = p.H ∧ s'.sl.length = s.sl.length ∧ Sm G E s'.sl.length p' (w ++ [some v]) ((s'.sl ++ l) ++ [some (.d x)]) s'.st
theorem fix_ok : Fits G SD.fix := by
  intro E s a x s' p w l v c h hm
  have ll := snoc_len h.len
  cases a with
  | d y =>
    cases c
    exact ⟨p, rfl, rfl, h⟩
  | own y =>
    cases c
    obtain ⟨u, e1, a, rfl, r⟩ := h.ent _ _ snoc_new
    have q := h.settle (k := (s.sl ++ l).length) (x := x) (a := a) snoc_new e1
    rw [set_last] at q
    exact ⟨_, (by rfl), (by rfl), q⟩
  | loc k =>
    unfold SD.fix at c
    dsimp only at c
    obtain ⟨u, e1, r0, r1, r2⟩ := h.ent _ _ (snoc_new (l := s.sl ++ l))
    rw [← ll, snoc_new] at e1
    cases e1
    cases q1 : s.sl[k]? with
    | none => rw [q1] at c; cases c
    | some o =>
      cases o with
      | none => rw [q1] at c; cases c
      | some z =>
        rw [q1] at c
        rw [List.append_assoc] at h
        obtain ⟨hs, u, e2, r⟩ := h.slot q1
        rw [r2] at e2; cases e2
        cases z with
        | d y =>
          cases c
          rw [← List.append_assoc] at h
          exact ⟨p, rfl, rfl, (h.pop1 hm).push r⟩
        | own y =>
          cases c
          obtain ⟨a, rfl, r⟩ := r
          have q := h.settle hs r2
          rw [set_front (lt_of_get q1), ← List.append_assoc] at q
          obtain ⟨u, e3, r3⟩ := q.ent k (.d _) (by rw [List.append_assoc, List.getElem?_append_left (by simpa using lt_of_get q1)]; exact set_new (lt_of_get q1))
          rw [r2] at e3
          cases e3
          have q' := (q.pop1 hm).push r3
          refine ⟨{ p with O := fun b => p.O b ∧ b ≠ a }, rfl, List.length_set, ?_⟩
          show Sm G E (s.sl.set _ _).length _ _ _ _
          rw [List.length_set]
          exact q'
        | loc j => cases c
theorem celled_ok : Fits G SD.celled := by
  intro E s a x s' p w l v c h hm
  have ll := snoc_len h.len
  cases a with
  | d y =>
    cases y with
    | cell i => cases c; exact ⟨p, rfl, rfl, h⟩
    | _ => cases c
  | own y =>
    cases c
    obtain ⟨u, e1, a, rfl, r⟩ := h.ent _ _ snoc_new
    have q := h.celled (k := (s.sl ++ l).length) (x := y) (a := a) snoc_new e1
    rw [set_last] at q
    exact ⟨_, (by rfl), (by rfl), q⟩
  | loc k =>
    unfold SD.celled at c
    dsimp only at c
    obtain ⟨u, e1, r0, r1, r2⟩ := h.ent _ _ (snoc_new (l := s.sl ++ l))
    rw [← ll, snoc_new] at e1
    cases e1
    cases q1 : s.sl[k]? with
    | none => rw [q1] at c; cases c
    | some o =>
      cases o with
      | none => rw [q1] at c; cases c
      | some z =>
        rw [q1] at c
        rw [List.append_assoc] at h
        obtain ⟨hs, u, e2, r⟩ := h.slot q1
        rw [r2] at e2; cases e2
        cases z with
        | d y =>
          cases y with
          | cell i =>
            cases c
            rw [← List.append_assoc] at h
            exact ⟨p, rfl, rfl, (h.pop1 hm).push r⟩
          | _ => cases c
        | own y =>
          cases c
          obtain ⟨a, rfl, r⟩ := r
          have q := h.celled hs r2
          rw [set_front (lt_of_get q1), ← List.append_assoc] at q
          obtain ⟨u, e3, r3⟩ := q.ent k (.d (.cell s.st.nx)) (by rw [List.append_assoc, List.getElem?_append_left (by simpa using lt_of_get q1)]; exact set_new (lt_of_get q1))
          rw [r2] at e3
          cases e3
          have q' := (q.pop1 hm).push r3
          refine ⟨{ p with γ := fun i => if i = s.st.nx then a else p.γ i, n := s.st.nx + 1 }, rfl, List.length_set, ?_⟩
          show Sm G E (s.sl.set _ _).length _ _ _ _
          rw [List.length_set]
          exact q'
        | loc j => cases c
theorem frz_ok : Fits G SD.frz := by
  intro E s a x s' p w l v c h hm
  cases a with
  | d y =>
    cases y with
    | cell i =>
      unfold SD.frz at c
      dsimp only at c
      cases q1 : s.st.get i with
      | none => rw [q1] at c; cases c
      | some z =>
        rw [q1] at c
        cases c
        have q := h.freeze (k := (s.sl ++ l).length) q1 snoc_new
        rw [set_last] at q
        exact ⟨_, (by rfl), (by rfl), q⟩
    | _ => cases c
  | own y => cases c
  | loc k => cases c
theorem RE.via {g : SD → Vl → R D} {ta : TE} {fa : SD → R Vl} (hg : Fits G g) (nx : ∀ s a c fs s', g s a ≠ .ex c fs s') (ha : RE G W ta fa) : RE G W ta (zVia g fa) := by
  intro E σ τ H s θ Q hN hR hw
  unfold zVia at hw
  rw [Wp_bind] at hw
  refine ha E σ τ H s θ _ hN hR (hw.mono (fun a s1 hw v H1 h1 => ?_) fun _ _ _ h => h)
  rw [Wp_bind] at hw
  obtain ⟨p, rfl, hl, h⟩ := h1.unsnoc
  cases e : g s1 a with
  | bad => rw [e] at hw; exact hw.elim
  | ex c fs s2 => exact (nx _ _ _ _ _ e).elim
  | ok x s2 =>
    rw [e] at hw
    obtain ⟨p', hp, hs, h'⟩ := hg E s1 a x s2 p _ _ v e h (le_app hl)
    exact hw v _ (hp ▸ .snoc h' (hl.trans hs.symm) rfl)
theorem fix_nx : ∀ (s : SD) (a : Vl) c fs s', s.fix a ≠ .ex c fs s' := by
  intro s a c fs s'
  cases a with
  | d x => intro q; cases q
  | own x => intro q; cases q
  | loc k =>
    unfold SD.fix
    dsimp only
    split <;> intro q <;> cases q
theorem celled_nx : ∀ (s : SD) (a : Vl) c fs s', s.celled a ≠ .ex c fs s' := by
  intro s a c fs s'
  cases a with
  | d x => cases x <;> intro q <;> cases q
  | own x => intro q; cases q
  | loc k =>
    unfold SD.celled
    dsimp only
    split <;> intro q <;> cases q
theorem frz_nx : ∀ (s : SD) (a : Vl) c fs s', s.frz a ≠ .ex c fs s' := by
  intro s a c fs s'
  unfold SD.frz
  split
  · split <;> intro q <;> cases q
  · intro q; cases q
theorem RE.fix {ta : TE} {fa : SD → R Vl} (ha : RE G W ta fa) : RE G W ta (zFix fa) := RE.via fix_ok fix_nx ha
theorem RE.cell {ta : TE} {fa : SD → R Vl} (ha : RE G W ta fa) : RE G W ta (zCell fa) := RE.via celled_ok celled_nx ha
theorem RE.frz {ta : TE} {fa : SD → R Vl} (ha : RE G W ta fa) : RE G W ta (zFrz fa) := RE.via frz_ok frz_nx ha
/-! ### arguments -/
def zA0 : SD → R (List D) := fun s => .ok [] s
def zA (fa : SD → R Vl) (fr : SD → R (List D)) : SD → R (List D) := fun s => (fa s).bind fun a s1 => (s1.fix a).bind fun x s2 => (fr s2).bind fun xs s3 => .ok (x :: xs) s3
theorem RA.nil : RA G W tNil zA0 := by
  intro E σ τ H s θ Q hN hR hw
  exact hw [] H (by simpa using hR)
theorem RA.cons {ta : TE} {t : TA} {fa : SD → R Vl} {fr : SD → R (List D)} (ha : RE G W ta fa) (hr : RA G W t fr) : RA G W (tCons ta t) (zA fa fr) := by
  intro E σ τ H s θ Q hN hR hw
  refine RE.fix ha E σ τ H s θ _ hN hR ?_
  unfold zA at hw
  rw [Wp_bind] at hw
  unfold zFix zVia
  rw [Wp_bind]
  refine hw.mono (fun a s1 hw => ?_) fun _ _ _ h => h
  rw [Wp_bind] at hw ⊢
  refine hw.mono (fun x s2 hw => ?_) fun _ _ _ h => h
  rw [Wp_bind] at hw
  intro v H1 h1
  refine hr E σ _ H1 s2 _ _ hN.d h1 (hw.mono (fun xs s3 hw vs H2 h2 => ?_) fun _ _ _ h => h.up)
  exact hw (v :: vs) H2 (by simpa using h2)
theorem Rel.args {vs : List V} {ds : List D} (ht : τ.length = θ.length) (h : Rel G E σ (τ ++ vs) H s (θ ++ ds.map .d)) : ∃ p : Wr, p.H = H ∧ σ.length = s.sl.length ∧ Sm G E s.sl.length p (σ ++ τ.map some) (s.sl ++ θ.map some) s.st ∧ Reps G p ds vs := by
  obtain ⟨p, e, hl, h⟩ := h
  rw [List.map_append, List.map_append, ← List.append_assoc, ← List.append_assoc] at h
  have l : (σ ++ τ.map some).length = (s.sl ++ θ.map some).length := by simp [hl, ht]
  refine ⟨p, e, hl, h.pop l (le_app hl), ?_⟩
  have len := h.len
  refine .of (by simp at len; omega) fun i d v e1 e2 => ?_
  obtain ⟨u, e3, r⟩ := h.ent ((s.sl ++ θ.map some).length + i) (.d d) (by rw [List.getElem?_append_right (by omega)]; simp [e1])
  rw [← l, List.getElem?_append_right (by omega)] at e3
  simp [e2] at e3
  subst e3
  exact r
/-! ### displays -/
def zTup (fr : SD → R (List D)) : SD → R Vl := fun s => (fr s).bind fun xs s1 => .ok (.d (.tup xs)) s1
def zLst (fr : SD → R (List D)) : SD → R Vl := fun s => (fr s).bind fun xs s1 => .ok (.own (.lst xs)) s1
/-- so many arguments -/
def Many (fr : SD → R (List D)) (n : Nat) : Prop := ∀ s xs s', fr s = .ok xs s' → xs.length = n
theorem Many.nil : Many zA0 0 := fun s xs s' e => by cases e; rfl
theorem Many.cons {fa : SD → R Vl} {fr : SD → R (List D)} {n : Nat} (h : Many fr n) : Many (zA fa fr) (n + 1) := fun s xs s' e => by
  unfold zA at e
  cases q1 : fa s with
  | bad => rw [q1] at e; cases e
  | ex c fs s1 => rw [q1] at e; cases e
  | ok a s1 =>
    rw [q1] at e
    have e : ((s1.fix a).bind fun x s2 => (fr s2).bind fun xs s3 => .ok (x :: xs) s3) = .ok xs s' := e
    cases q2 : s1.fix a with
    | bad => rw [q2] at e; cases e
    | ex c fs s1 => rw [q2] at e; cases e
    | ok x s2 =>
      rw [q2] at e
      have e : ((fr s2).bind fun xs s3 => .ok (x :: xs) s3) = .ok xs s' := e
      cases q3 : fr s2 with
      | bad => rw [q3] at e; cases e
      | ex c fs s1 => rw [q3] at e; cases e
      | ok ys s3 =>
        rw [q3] at e
        cases e
        simp [h _ _ _ q3]
theorem Wp.eq {α : Type} {m : R α} {Q : α → SD → Prop} {E : XQ} (h : Wp m Q E) : Wp m (fun a s => m = .ok a s ∧ Q a s) E := by
  cases m with
  | ok a s => exact ⟨rfl, h⟩
  | ex c fs s => exact h
  | bad => exact h
theorem RE.tup {t : TA} {fr : SD → R (List D)} {n : Nat} (hr : RA G W t fr) (hm : Many fr n) (hn : n ≤ sizeLine) : RE G W (tTup t) (zTup fr) := by
  intro E σ τ H s θ Q hN hR hw
  unfold zTup at hw
  rw [Wp_bind] at hw
  refine hr E σ τ H s θ _ hN hR (hw.eq.mono (fun xs s1 ⟨e, hw⟩ vs H1 h1 => ?_) fun _ _ _ h => h)
  obtain ⟨p, rfl, hl, h, r⟩ := h1.args hR.tlen
  exact ⟨by rw [r.len, hm _ _ _ e]; exact hn, fun a hn => fin_tup h hl hw hn r⟩
theorem RE.lst {t : TA} {fr : SD → R (List D)} {n : Nat} (hr : RA G W t fr) (hm : Many fr n) (hn : n ≤ sizeLine) : RE G W (tLst t) (zLst fr) := by
  intro E σ τ H s θ Q hN hR hw
  unfold zLst at hw
  rw [Wp_bind] at hw
  refine hr E σ τ H s θ _ hN hR (hw.eq.mono (fun xs s1 ⟨e, hw⟩ vs H1 h1 => ?_) fun _ _ _ h => h)
  obtain ⟨p, rfl, hl, h, r⟩ := h1.args hR.tlen
  exact ⟨by rw [r.len, hm _ _ _ e]; exact hn, fun a hn => fin_lst h hl hw hn r⟩
def zDnew : SD → R Vl := fun s => .ok (.own (.dct [])) s
theorem RE.dnew : RE G W tDNewK zDnew := by
  intro E σ τ H s θ Q hN hR hw
  obtain ⟨p, rfl, hl, h⟩ := hR
  exact fun a hn => fin_dct h hl hw hn rfl
/-! ### tests -/
def oB : Vl → SD → R Bool
  | .d (.bl b), s => .ok b s
  | _, _ => .bad
def zB (fa : SD → R Vl) : SD → R Bool := fun s => (fa s).bind oB
theorem RT.val {ta : TE} {fa : SD → R Vl} (ha : RE G W ta fa) : RT G W (fun σ H Q => ta σ H fun x H' => ∃ k, x = .bl k ∧ Q k H') (zB fa) := by
  intro E σ τ H s θ Q hN hR hw
  unfold zB at hw
  rw [Wp_bind] at hw
  refine ha E σ τ H s θ _ hN hR (hw.mono (fun a s1 hw v H1 h1 => ?_) fun _ _ _ h => h)
  cases a with
  | d x =>
    cases x with
    | bl b =>
      obtain ⟨p, _, r⟩ := h1.last
      exact ⟨b, r, hw _ h1.pop⟩
    | _ => exact hw.elim
  | own x => exact hw.elim
  | loc k => exact hw.elim
noncomputable def oT (a : Vl) (s : SD) : R Bool := match s.cont a with
  | some .non => .ok false s
  | some (.bl b) => .ok b s
  | some (.int i) => .ok (i != 0) s
  | some (.str z) => if z.length ≤ sizeLine then .ok ((z.length : Int) != 0) s else .bad
  | some (.lst xs) => .ok (!xs.isEmpty) s
  | some (.con xs) => .ok (!xs.isEmpty) s
  | some (.tup xs) => .ok (!xs.isEmpty) s
  | _ => .bad
noncomputable def zT (fa : SD → R Vl) : SD → R Bool := fun s => (fa s).bind oT
theorem Reps.empty {ds : List D} {vs : List V} (h : Reps G p ds vs) : vs.isEmpty = ds.isEmpty := by
  cases ds with
  | nil => rw [show vs = [] from h]; rfl
  | cons d r => obtain ⟨v, r, rfl, _⟩ := h; rfl
theorem RT.tru {ta : TE} {fa : SD → R Vl} (ha : RE G W ta fa) : RT G W (fun σ H Q => ta σ H fun x H' => ∃ k, TruV G.K x H' k ∧ Q k H') (zT fa) := by
  intro E σ τ H s θ Q hN hR hw
  unfold zT at hw
  rw [Wp_bind] at hw
  refine ha E σ τ H s θ _ hN hR (hw.mono (fun a s1 hw v H1 h1 => ?_) fun _ _ _ h => h)
  have hpop := h1.pop
  obtain ⟨p, rfl, hl, h⟩ := h1.unsnoc
  obtain ⟨h0, c, _⟩ := last1 hl h
  unfold oT at hw
  split at hw
  · rename_i e; have := (c _ e).sc rfl; subst this; exact ⟨_, rfl, hw _ hpop⟩
  · rename_i e; have := (c _ e).sc rfl; subst this; exact ⟨_, rfl, hw _ hpop⟩
  · rename_i e; have := (c _ e).sc rfl; subst this; exact ⟨_, rfl, hw _ hpop⟩
  · rename_i e; have := (c _ e).sc rfl; subst this
    split at hw
    · rename_i hz; exact ⟨_, ⟨hz, rfl⟩, hw _ hpop⟩
    · exact hw.elim
  · rename_i e
    obtain ⟨b, vs, rfl, hb, r⟩ := (c _ e).lst
    exact ⟨_, .inl ⟨vs, .of hb, rfl⟩, by rw [r.empty]; exact hw _ hpop⟩
  · rename_i e
    obtain ⟨b, vs, rfl, hb, r⟩ := (c _ e).con
    exact ⟨_, .inl ⟨vs, hb, rfl⟩, by rw [r.empty]; exact hw _ hpop⟩
  · rename_i e
    obtain ⟨b, vs, rfl, hb, r⟩ := (c _ e).tup
    exact ⟨_, .inr (.inl ⟨vs, .of hb, rfl⟩), by rw [r.empty]; exact hw _ hpop⟩
  · exact hw.elim
def zAnd (f g : SD → R Bool) : SD → R Bool := fun s => (f s).bind fun b s1 => if b = true then g s1 else .ok false s1
def zOr (f g : SD → R Bool) : SD → R Bool := fun s => (f s).bind fun b s1 => if b = true then .ok true s1 else g s1
def zNot (f : SD → R Bool) : SD → R Bool := fun s => (f s).bind fun b s1 => .ok (!b) s1
theorem RT.and {t u : TT} {f g : SD → R Bool} (ha : RT G W t f) (hb : RT G W u g) : RT G W (tAnd t u) (zAnd f g) := by
  intro E σ τ H s θ Q hN hR hw
  unfold zAnd at hw
  rw [Wp_bind] at hw
  refine ha E σ τ H s θ _ hN hR (hw.mono (fun b s1 hw H1 h1 => ?_) fun _ _ _ h => h)
  split
  · rename_i c; rw [if_pos c] at hw; exact hb E σ τ H1 s1 θ _ hN h1 hw
  · rename_i c; rw [if_neg c] at hw; exact hw _ h1
theorem RT.or {t u : TT} {f g : SD → R Bool} (ha : RT G W t f) (hb : RT G W u g) : RT G W (tOr t u) (zOr f g) := by
  intro E σ τ H s θ Q hN hR hw
  unfold zOr at hw
  rw [Wp_bind] at hw
  refine ha E σ τ H s θ _ hN hR (hw.mono (fun b s1 hw H1 h1 => ?_) fun _ _ _ h => h)
  split
  · rename_i c; rw [if_pos c] at hw; exact hw _ h1
  · rename_i c; rw [if_neg c] at hw; exact hb E σ τ H1 s1 θ _ hN h1 hw
theorem RT.not {t : TT} {f : SD → R Bool} (ha : RT G W t f) : RT G W (tNot t) (zNot f) := by
  intro E σ τ H s θ Q hN hR hw
  unfold zNot at hw
  rw [Wp_bind] at hw
  exact ha E σ τ H s θ _ hN hR (hw.mono (fun b s1 hw H1 h1 => hw _ h1) fun _ _ _ h => h)
def zAndV (fa fb : SD → R Vl) : SD → R Vl := fun s => (zB fa s).bind fun b s1 => if b = true then fb s1 else .ok (.d (.bl false)) s1
def zOrV (fa fb : SD → R Vl) : SD → R Vl := fun s => (zB fa s).bind fun b s1 => if b = true then .ok (.d (.bl true)) s1 else fb s1
def zNotV (fa : SD → R Vl) : SD → R Vl := fun s => (zB fa s).bind fun b s1 => .ok (.d (.bl (!b))) s1
def zIf (c : SD → R Bool) (fa fb : SD → R Vl) : SD → R Vl := fun s => (c s).bind fun b s1 => if b = true then fa s1 else fb s1
theorem RE.andV {ta tb : TE} {fa fb : SD → R Vl} (ha : RE G W ta fa) (hb : RE G W tb fb) : RE G W (tAndV ta tb) (zAndV fa fb) := by
  intro E σ τ H s θ Q hN hR hw
  unfold zAndV at hw
  rw [Wp_bind] at hw
  refine RT.val ha E σ τ H s θ _ hN hR (hw.mono (fun b s1 hw H1 h1 => ?_) fun _ _ _ h => h)
  split
  · rename_i c; rw [if_pos c] at hw; exact hb E σ τ H1 s1 θ _ hN h1 hw
  · rename_i c; rw [if_neg c] at hw; exact hw _ _ (h1.push fun _ => rfl)
theorem RE.orV {ta tb : TE} {fa fb : SD → R Vl} (ha : RE G W ta fa) (hb : RE G W tb fb) : RE G W (tOrV ta tb) (zOrV fa fb) := by
  intro E σ τ H s θ Q hN hR hw
  unfold zOrV at hw
  rw [Wp_bind] at hw
  refine RT.val ha E σ τ H s θ _ hN hR (hw.mono (fun b s1 hw H1 h1 => ?_) fun _ _ _ h => h)
  split
  · rename_i c; rw [if_pos c] at hw; exact hw _ _ (h1.push fun _ => rfl)
  · rename_i c; rw [if_neg c] at hw; exact hb E σ τ H1 s1 θ _ hN h1 hw
theorem RE.notV {ta : TE} {fa : SD → R Vl} (ha : RE G W ta fa) : RE G W (tNotV ta) (zNotV fa) := by
  intro E σ τ H s θ Q hN hR hw
  unfold zNotV at hw
  rw [Wp_bind] at hw
  exact RT.val ha E σ τ H s θ _ hN hR (hw.mono (fun b s1 hw H1 h1 => hw _ _ (h1.push fun _ => rfl)) fun _ _ _ h => h)
theorem RE.if' {c : TT} {ta tb : TE} {fc : SD → R Bool} {fa fb : SD → R Vl} (hc : RT G W c fc) (ha : RE G W ta fa) (hb : RE G W tb fb) : RE G W (tIf c ta tb) (zIf fc fa fb) := by
  intro E σ τ H s θ Q hN hR hw
  unfold zIf at hw
  rw [Wp_bind] at hw
  refine hc E σ τ H s θ _ hN hR (hw.mono (fun b s1 hw H1 h1 => ?_) fun _ _ _ h => h)
  split
  · rename_i c; rw [if_pos c] at hw; exact ha E σ τ H1 s1 θ _ hN h1 hw
  · rename_i c; rw [if_neg c] at hw; exact hb E σ τ H1 s1 θ _ hN h1 hw
end
end Z

/-! the value level: operators, by what the operands are -/
namespace Z
open PySem PySem.Spec PyProof.Rows L2 M
open Classical
section
variable {X : Cx}
theorem OpR.or {f : Value → Value → Sem Value} {r r' : R2} (h : OpR X f r) (h' : OpR X f r') : OpR X f (fun x y H Q => r x y H Q ∨ r' x y H Q) := by
  intro pins s σ H x y v u Q I rx ry q
  rcases q with q | q
  · exact h pins s σ H x y v u Q I rx ry q
  · exact h' pins s σ H x y v u Q I rx ry q
theorem CallR.or {f : Value} {r r' : List V → Hp → VK → Prop} (h : CallR X f r) (h' : CallR X f r') : CallR X f (fun xs H Q => r xs H Q ∨ r' xs H Q) := by
  intro pins s σ H xs us Q I rv q
  rcases q with q | q
  · exact h pins s σ H xs us Q I rv q
  · exact h' pins s σ H xs us Q I rv q
/-! dicts by the same operators -/
def rDIn (neg : Bool) : R2 := fun y x H Q => ∃ a o, x = .ref a ∧ DGet H a y o ∧ Q (.bl (if neg then !o.isSome else o.isSome)) H
theorem op_inD (hu : X.A.units + 1 < cLine) : OpR X (compareOp .In) (rDIn false) := by
  intro pins s σ H y x u v Q I ry rx q
  obtain ⟨a, o, rfl, g, q⟩ := q
  obtain rfl : v = Value.ref a := rx
  exact d_in hu I g ry fun s3 I3 => ⟨.bl o.isSome, H, I3, rfl, q⟩
theorem op_notinD (hu : X.A.units + 1 < cLine) : OpR X (compareOp .NotIn) (rDIn true) := by
  intro pins s σ H y x u v Q I ry rx q
  obtain ⟨a, o, rfl, g, q⟩ := q
  obtain rfl : v = Value.ref a := rx
  exact d_notIn hu I g ry fun s3 I3 => ⟨.bl (!o.isSome), H, I3, rfl, q⟩
def rIxD : R2 := fun x y H Q => ∃ a v, x = .ref a ∧ DGet H a y (some v) ∧ Q v H
theorem ix_dict (hu : X.A.units + 1 < cLine) : IxR X rIxD := by
  intro value slice pins s σ H x y v u Q I rx ry h hs
  obtain ⟨a, z, rfl, g, q⟩ := h
  obtain rfl : v = Value.ref a := rx
  have hT := dict_typeIs I g
  unfold subscriptTail
  refine wpAny_bind ?_
  rw [getitemInPython_of_ne hT.not_modules]
  refine wpAny_bind (wpAny_specialOf hT PySem.F.slot_dict_getitem.lookup ?_)
  have fin : wpAny (model X.prog X.w) X.A (subscripted slice false (.ref a) u) (fun r s₃ => wpAny (model X.prog X.w) X.A (letTemporaryGo value (.ref a) r >>= fun _ => pure r) (EP X pins σ Q) X.xe s₃) X.xe s := by
    rw [hs]
    exact wpAny_operating (d_getItem hu I g ry fun w' s3 I3 r3 => wpAny_bind (wpAny_letTemporaryGo (wpAny_pure ⟨z, H, I3, r3, q⟩)))
  first
    | exact wpAny_pure (wpAny_bind fin)
    | exact wpAny_bind (wpAny_pure (wpAny_bind fin))
    | exact wpAny_bind fin
def rLenDR : List V → Hp → VK → Prop := fun xs H Q => ∃ a, ∃ kvs : List (Key × V), xs = [V.ref a] ∧ Rd H a (.dK kvs) ∧ Q (.int kvs.length) H
theorem cl_lenDR : CallR X (.builtin "len") rLenDR := by
  intro pins s σ H xs us Q I rv q
  obtain ⟨a, kvs, rfl, e, q⟩ := q
  cases rv with
  | cons r rr =>
    cases rr
    obtain rfl : _ = Value.ref a := r
    exact d_len I e fun t s' I' => ⟨.int kvs.length, H, I', ⟨t, rfl⟩, q⟩
def rNeDR (neg : Bool) : R2 := fun x y H Q => ∃ a b, ∃ ks : List (Key × V), x = .ref a ∧ y = .ref b ∧ Rd H a (.dK ks) ∧ Rd H b (.dK []) ∧ Q (.bl (if neg then !ks.isEmpty else ks.isEmpty)) H
theorem op_neDR (hu : X.A.units < cLine) : OpR X (compareOp .NotEq) (rNeDR true) := by
  intro pins s σ H x y v u Q I rx ry h
  obtain ⟨a, b, ks, rfl, rfl, ea, eb, q⟩ := h
  obtain rfl : v = Value.ref a := rx
  obtain rfl : u = Value.ref b := ry
  obtain ⟨_, ya, va, ra, da⟩ := dk_rd I.hok ea
  obtain ⟨_, yb, vb, rb, db⟩ := dk_rd I.hok eb
  have hb : vb.length = 0 := by rw [← rb.length]; rfl
  have ha : va.length = ks.length := ra.length.symm
  refine PySem.W.keq_ne (knd := mixKind X.prog X.w) (r := true) ya yb da db hu (fun hl => ?_) (fin_bl I q ?_)
  · have h0 : ks = [] := List.eq_nil_of_length_eq_zero (by omega)
    subst h0
    exact hits_all rb ra (fun p hp => nomatch hp)
  · rw [ha, hb]
    cases ks with
    | nil => rfl
    | cons a r => simp
/-- two dicts that hold the same -/
def rEqDD (neg : Bool) : R2 := fun x y H Q => ∃ a b, ∃ ks ls : List (Key × V), x = .ref a ∧ y = .ref b ∧ Rd H a (.dK ks) ∧ Rd H b (.dK ls) ∧ ks.length = ls.length ∧ (∀ p ∈ ks, valV ls p.1 = some p.2 ∧ flatB p.2 = true) ∧ Q (.bl (!neg)) H
theorem op_eqDD (hu : X.A.units < cLine) : OpR X (compareOp .Eq) (rEqDD false) := by
  intro pins s σ H x y v u Q I rx ry h
  obtain ⟨a, b, ks, ls, rfl, rfl, ea, eb, hl, hp, q⟩ := h
  obtain rfl : v = Value.ref a := rx
  obtain rfl : u = Value.ref b := ry
  obtain ⟨_, ya, va, ra, da⟩ := dk_rd I.hok ea
  obtain ⟨_, yb, vb, rb, db⟩ := dk_rd I.hok eb
  have h2 : va.length = vb.length := ra.length.symm.trans (hl.trans rb.length)
  exact PySem.W.keq_eq (knd := mixKind X.prog X.w) (r := true) ya yb da db hu (fun _ => hits_all rb ra hp) (fin_bl I q (by simp [h2]))
theorem op_neDD (hu : X.A.units < cLine) : OpR X (compareOp .NotEq) (rEqDD true) := by
  intro pins s σ H x y v u Q I rx ry h
  obtain ⟨a, b, ks, ls, rfl, rfl, ea, eb, hl, hp, q⟩ := h
  obtain rfl : v = Value.ref a := rx
  obtain rfl : u = Value.ref b := ry
  obtain ⟨_, ya, va, ra, da⟩ := dk_rd I.hok ea
  obtain ⟨_, yb, vb, rb, db⟩ := dk_rd I.hok eb
  have h2 : va.length = vb.length := ra.length.symm.trans (hl.trans rb.length)
  exact PySem.W.keq_ne (knd := mixKind X.prog X.w) (r := true) ya yb da db hu (fun _ => hits_all rb ra hp) (fin_bl I q (by simp [h2]))
/-! the operators -/
def rAddZ (K : PySem.W.Frag) : R2 := fun x y H Q => rI0 (fun i j => .int (i + j)) x y H Q ∨ rAddS x y H Q ∨ rCat x y H Q ∨ rCatA K x y H Q
theorem op_addZ {K : PySem.W.Frag} (hK : X.K = K := by rfl) : OpR X (binaryOp .Add) (rAddZ K) := OpR.or op_add (OpR.or o_add_str (OpR.or op_cat (m_catA hK)))
def rMulZ : R2 := fun x y H Q => rI CMulX (fun i j => .int (i * j)) x y H Q ∨ rRep x y H Q
theorem op_mulZ : OpR X (binaryOp .Mult) rMulZ := OpR.or op_mulX op_rep
def rInZ (K : PySem.W.Frag) (neg : Bool) : R2 := fun x y H Q => rIn K neg x y H Q ∨ rInSg neg x y H Q ∨ rInStr neg x y H Q ∨ rDIn neg x y H Q
theorem op_inZ {K : PySem.W.Frag} (hu : X.A.units + 64 < cLine) (hK : X.K = K := by rfl) : OpR X (compareOp .In) (rInZ K false) := OpR.or (m_inS hK) (OpR.or o_in_sign (OpR.or o_in_str (op_inD (by omega))))
theorem op_notinZ {K : PySem.W.Frag} (hu : X.A.units + 64 < cLine) (hK : X.K = K := by rfl) : OpR X (compareOp .NotIn) (rInZ K true) := OpR.or (m_notinS hK) (OpR.or o_notin_sign (OpR.or o_notin_str (op_notinD (by omega))))
def rEqZ (K : PySem.W.Frag) : R2 := fun x y H Q => rEq x y H Q ∨ rEqNil K false x y H Q ∨ rEqD K x y H Q ∨ rEqDD false x y H Q
theorem op_eqZ {K : PySem.W.Frag} (hu : X.A.units + 64 < cLine) (hK : X.K = K := by rfl) : OpR X (compareOp .Eq) (rEqZ K) := OpR.or op_eq (OpR.or (hK ▸ op_eqNil hu) (OpR.or (m_eqD hu hK) (op_eqDD (by omega))))
def rNeZ (K : PySem.W.Frag) : R2 := fun x y H Q => rNe x y H Q ∨ rEqNil K true x y H Q ∨ rNeD K x y H Q ∨ rNeDR true x y H Q ∨ rEqDD true x y H Q
theorem op_neZ {K : PySem.W.Frag} (hu : X.A.units + 64 < cLine) (hK : X.K = K := by rfl) : OpR X (compareOp .NotEq) (rNeZ K) := OpR.or op_ne (OpR.or (hK ▸ op_neNil hu) (OpR.or (m_neD hu hK) (OpR.or (op_neDR (by omega)) (op_neDD (by omega)))))
def rIxZ (K : PySem.W.Frag) : R2 := fun x y H Q => rIxL K x y H Q ∨ rIxT K x y H Q ∨ rIxS x y H Q ∨ rIxD x y H Q
theorem ix_Z {K : PySem.W.Frag} (hu : X.A.units + 64 < cLine) (hK : X.K = K := by rfl) : IxR X (rIxZ K) := IxR.or (m_ixL hK) (IxR.or (m_ixT hK) (IxR.or ix_str (ix_dict (by omega))))
def rLenZ (K : PySem.W.Frag) : List V → Hp → VK → Prop := fun xs H Q => rLenSeq K xs H Q ∨ rLenStr xs H Q ∨ rLenDR xs H Q
theorem cl_lenZ {K : PySem.W.Frag} (hK : X.K = K := by rfl) : CallR X (.builtin "len") (rLenZ K) := CallR.or (m_lenS hK) (CallR.or cl_len_str cl_lenDR)
end
/-! what they make of data -/
def D.sc : D → Option V
  | .non => some .non
  | .bl b => some (.bl b)
  | .int i => some (.int i)
  | .str s => some (.str s)
  | _ => none
def scs : List D → Option (List V)
  | [] => some []
  | d :: ds => match d.sc, scs ds with
    | some v, some vs => some (v :: vs)
    | _, _ => none
def D.key : D → Option Key
  | .int i => some (.inl i)
  | .str s => some (.inr s)
  | _ => none
mutual
def D.py : D → Option PyData
  | .non => some .none
  | .bl b => some (.bool b)
  | .int i => some (.int i)
  | .str s => some (.str s)
  | .lst ds => match D.pys ds with
    | some xs => some (.list xs)
    | none => none
  | .tup ds => match D.pys ds with
    | some xs => some (.tuple xs)
    | none => none
  | _ => none
def D.pys : List D → Option (List PyData)
  | [] => some []
  | d :: ds => match D.py d, D.pys ds with
    | some x, some xs => some (x :: xs)
    | _, _ => none
end
noncomputable def oAdd (a b : Vl) (s : SD) : R Vl := match s.cont a, s.cont b with
  | some (.int i), some (.int j) => .ok (.d (.int (i + j))) s
  | some (.str x), some (.str y) => if x.length + y.length ≤ sizeLine then .ok (.d (.str (x ++ y))) s else .bad
  | some (.lst xs), some (.lst ys) => if xs.length + ys.length ≤ sizeLine then .ok (.own (.lst (xs ++ ys))) s else .bad
  | some (.tup xs), some (.tup ys) => if xs ≠ [] ∧ ys ≠ [] ∧ xs.length + ys.length ≤ sizeLine then .ok (.d (.tup (xs ++ ys))) s else .bad
  | _, _ => .bad
def oSub (a b : Vl) (s : SD) : R Vl := match s.cont a, s.cont b with
  | some (.int i), some (.int j) => .ok (.d (.int (i - j))) s
  | _, _ => .bad
noncomputable def oMul (a b : Vl) (s : SD) : R Vl := match s.cont a, s.cont b with
  | some (.int i), some (.int j) => if CMulX i j then .ok (.d (.int (i * j))) s else .bad
  | some (.lst xs), some (.int k) => if -(2 ^ 63) ≤ k ∧ k < 2 ^ 63 ∧ xs.length * k.toNat ≤ sizeLine then .ok (.own (.lst (List.replicate k.toNat xs).flatten)) s else .bad
  | _, _ => .bad
noncomputable def oMod (a b : Vl) (s : SD) : R Vl := match s.cont a, s.cont b with
  | some (.int i), some (.int j) => if 0 < j then .ok (.d (.int (i % j))) s else .bad
  | _, _ => .bad
noncomputable def oDiv (a b : Vl) (s : SD) : R Vl := match s.cont a, s.cont b with
  | some (.int i), some (.int j) => if CDivW i j then .ok (.d (.int (i / j))) s else .bad
  | _, _ => .bad
noncomputable def oPow (a b : Vl) (s : SD) : R Vl := match s.cont a, s.cont b with
  | some (.int i), some (.int j) => if CPowW i j then .ok (.d (.int (i ^ j.toNat))) s else .bad
  | _, _ => .bad
def oXor (a b : Vl) (s : SD) : R Vl := match s.cont a, s.cont b with
  | some (.int i), some (.int j) => .ok (.d (.int (Builtin.bitXor i j))) s
  | _, _ => .bad
def oCmp (f : Int → Int → Bool) (a b : Vl) (s : SD) : R Vl := match s.cont a, s.cont b with
  | some (.int i), some (.int j) => .ok (.d (.bl (f i j))) s
  | _, _ => .bad
abbrev oLt := oCmp fun i j => decide (i < j)
abbrev oLe := oCmp fun i j => decide (i ≤ j)
abbrev oGt := oCmp fun i j => decide (i > j)
abbrev oGe := oCmp fun i j => decide (i ≥ j)
/-- dicts that hold the same -/
noncomputable def dSame (ks ls : List (Key × D)) : Bool := decide (ks.length = ls.length) && ks.all fun q => match q.2.sc, (dval ls q.1).bind D.sc with
  | some v, some u => decide (v = u)
  | _, _ => false
/-- == of data -/
noncomputable def dEq (x y : D) : Option Bool := match x.sc, y.sc with
  | some v, some u => if scal v u = true then some (decide (v = u)) else none
  | _, _ => match x, y with
    | .lst xs, .lst [] => some xs.isEmpty
    | .con xs, .lst [] => some xs.isEmpty
    | .dct ks, .dct ls => if dSame ks ls = true then some true else none
    | x, y => match x.py, y.py with
      | some d, some e => if SeqAt.shaped d = true ∧ SeqAt.shaped e = true then some (PyData.eqv d e) else none
      | _, _ => none
noncomputable def oEq (a b : Vl) (s : SD) : R Vl := match s.cont a, s.cont b with
  | some x, some y => match dEq x y with
    | some r => .ok (.d (.bl r)) s
    | none => .bad
  | _, _ => .bad
noncomputable def oNe (a b : Vl) (s : SD) : R Vl := match s.cont a, s.cont b with
  | some (.dct ks), some (.dct []) => .ok (.d (.bl (!ks.isEmpty))) s
  | some x, some y => match dEq x y with
    | some r => .ok (.d (.bl (!r))) s
    | none => .bad
  | _, _ => .bad
def oIsN (neg : Bool) (a b : Vl) (s : SD) : R Vl := match b with
  | .d .non => match a with
    | .d .non => .ok (.d (.bl (!neg))) s
    | .d _ => .ok (.d (.bl neg)) s
    | a => match s.cont a with
      | some x => if x.box = true then .ok (.d (.bl neg)) s else .bad
      | none => .bad
  | _ => .bad
noncomputable def dIn (x y : D) : Option Bool := match y with
  | .lst ys => match x.sc, scs ys with
    | some v, some vs => some (inV v vs)
    | _, _ => none
  | .con ys => match x.sc, scs ys with
    | some v, some vs => some (inV v vs)
    | _, _ => none
  | .tup ys => match x.sc, scs ys with
    | some v, some vs => some (inV v vs)
    | _, _ => none
  | .str z => match x with
    | .str w => match w.cps.toList with
      | [c] => some (decide (c ∈ z.cps.toList))
      | _ => some (!(Builtin.Str.occurrences z w 0 z.length 1).isEmpty)
    | _ => none
  | .dct ks => match x.key with
    | some k => some (dval ks k).isSome
    | none => none
  | _ => none
noncomputable def oIn (neg : Bool) (a b : Vl) (s : SD) : R Vl := match s.cont a, s.cont b with
  | some x, some y => match dIn x y with
    | some r => .ok (.d (.bl (if neg then !r else r))) s
    | none => .bad
  | _, _ => .bad
noncomputable def dIx (x y : D) : Option D := match x, y with
  | .lst xs, .int i => atI xs i
  | .con xs, .int i => atI xs i
  | .tup xs, .int i => atI xs i
  | .str z, .int i => if z.length ≤ sizeLine then (atI z.cps.toList i).map fun c => .str ⟨#[c]⟩ else none
  | .dct ks, y => match y.key with
    | some k => dval ks k
    | none => none
  | _, _ => none
noncomputable def oIx (a b : Vl) (s : SD) : R Vl := match s.cont a, s.cont b with
  | some x, some y => match dIx x y with
    | some r => .ok (.d r) s
    | none => .bad
  | _, _ => .bad
noncomputable def oLen (a : Vl) (s : SD) : R Vl := match s.cont a with
  | some (.lst xs) => .ok (.d (.int xs.length)) s
  | some (.con xs) => .ok (.d (.int xs.length)) s
  | some (.tup xs) => .ok (.d (.int xs.length)) s
  | some (.str z) => if z.length ≤ sizeLine then .ok (.d (.int z.length)) s else .bad
  | some (.dct ks) => .ok (.d (.int ks.length)) s
  | _ => .bad
section
variable {G : Gc} {p : Wr} {v u : V} {x y : D} {H : Hp} {Q : VK}
theorem sc_rep (h : Rep G p x v) (e : x.sc = some u) : v = u := by
  cases x with
  | non => cases e; exact h
  | bl b => cases e; exact h
  | int i => cases e; exact h
  | str z => cases e; exact h
  | _ => cases e
theorem sc_box (e : x.sc = some u) : x.box = false := by cases x <;> first | rfl | cases e
theorem sc_flat (e : x.sc = some u) : flatV u = true := by cases x <;> cases e <;> rfl
theorem scs_rep : ∀ {ds : List D} {vs us : List V}, Reps G p ds vs → scs ds = some us → vs = us
  | [], vs, us, h, e => by cases e; exact h
  | d :: ds, vs, us, h, e => by
    obtain ⟨v, r, rfl, h1, h2⟩ := h
    unfold scs at e
    split at e
    · rename_i u ws e1 e2
      cases e
      rw [sc_rep h1 e1, scs_rep h2 e2]
    · cases e
theorem scs_flat : ∀ {ds : List D} {us : List V}, scs ds = some us → us.all flatV = true
  | [], us, e => by cases e; rfl
  | d :: ds, us, e => by
    unfold scs at e
    split at e
    · rename_i u ws e1 e2
      cases e
      rw [List.all_cons, sc_flat e1, scs_flat e2]
      rfl
    · cases e
theorem key_rep {k : Key} (h : Rep G p x v) (e : x.key = some k) : v = kV k := by
  cases x with
  | int i => cases e; exact h
  | str z => cases e; exact h
  | _ => cases e
theorem key_box {k : Key} (e : x.key = some k) : x.box = false := by cases x <;> first | rfl | cases e
mutual
theorem py_rep : ∀ {x : D} {v : V} {d : PyData}, Rep G p x v → x.py = some d → Dp G.K p.H v d
  | .non, v, d, h, e => by cases e; rw [show v = .non from h]; exact .non
  | .bl b, v, d, h, e => by cases e; rw [show v = .bl b from h]; exact .bl b
  | .int b, v, d, h, e => by cases e; rw [show v = .int b from h]; exact .int b
  | .str b, v, d, h, e => by cases e; rw [show v = .str b from h]; exact .str b
  | .lst ds, v, d, h, e => by
    obtain ⟨a, vs, rfl, ⟨_, hh⟩, r⟩ := h
    unfold D.py at e
    split at e
    · rename_i xs e1
      cases e
      exact .lst (.of hh) (pys_rep r e1)
    · cases e
  | .tup ds, v, d, h, e => by
    obtain ⟨a, vs, rfl, ⟨_, hh⟩, r⟩ := h
    unfold D.py at e
    split at e
    · rename_i xs e1
      cases e
      exact .tup (.of hh) (pys_rep r e1)
    · cases e
  | .con _, _, _, _, e => by cases e
  | .dct _, _, _, _, e => by cases e
  | .obj _ _, _, _, _, e => by cases e
  | .cell _, _, _, _, e => by cases e
theorem pys_rep : ∀ {ds : List D} {vs : List V} {xs : List PyData}, Reps G p ds vs → D.pys ds = some xs → DpAll G.K p.H vs xs
  | [], vs, xs, h, e => by cases e; rw [show vs = [] from h]; exact .nil
  | d :: ds, vs, xs, h, e => by
    obtain ⟨v, r, rfl, h1, h2⟩ := h
    unfold D.pys at e
    split at e
    · rename_i u ws e1 e2
      cases e
      exact .cons (py_rep h1 e1) (pys_rep h2 e2)
    · cases e
end
theorem cont_py {d : PyData} (h : Cont G p x v) (e : x.py = some d) : Dp G.K p.H v d := by
  cases x with
  | lst ds =>
    obtain ⟨b, vs, rfl, hb, r⟩ := h.lst
    unfold D.py at e
    split at e
    · rename_i xs e1
      cases e
      exact .lst (.of hb) (pys_rep r e1)
    · cases e
  | tup ds =>
    obtain ⟨b, vs, rfl, hb, r⟩ := h.tup
    unfold D.py at e
    split at e
    · rename_i xs e1
      cases e
      exact .tup (.of hb) (pys_rep r e1)
    · cases e
  | non => exact py_rep (h.sc rfl) e
  | bl b => exact py_rep (h.sc rfl) e
  | int b => exact py_rep (h.sc rfl) e
  | str b => exact py_rep (h.sc rfl) e
  | con ds => cases e
  | dct ds => cases e
  | obj c ds => cases e
  | cell i => cases e
theorem flatB_sc {v : V} (e : x.sc = some v) : flatB v = true := by cases x <;> cases e <;> rfl
theorem dsame_rep : ∀ {ks ls : List (Key × D)} {vs us : List (Key × V)}, RepK G p ks vs → RepK G p ls us → (ks.all fun q => match q.2.sc, (dval ls q.1).bind D.sc with | some v, some u => decide (v = u) | _, _ => false) = true →
    ∀ q ∈ vs, valV us q.1 = some q.2 ∧ flatB q.2 = true
  | [], _, vs, _, h, _, _, q, hq => by rw [show vs = [] from h] at hq; cases hq
  | (k, d) :: ks, ls, vs, us, h, h', e, q, hq => by
    obtain ⟨v, r, rfl, h1, h2⟩ := h
    rw [List.all_cons, Bool.and_eq_true] at e
    rcases List.mem_cons.mp hq with rfl | hq
    · have e1 := e.1
      split at e1
      · rename_i v1 u1 s1 s2
        have e1 := of_decide_eq_true e1
        subst e1
        obtain ⟨d', g1, g2⟩ := Option.bind_eq_some_iff.mp s2
        obtain ⟨v', g3, g4⟩ := (h'.val (k := k)).1 d' g1
        have a1 := sc_rep h1 s1
        have a2 := sc_rep g4 g2
        subst a1 a2
        exact ⟨g3, flatB_sc s1⟩
      · cases e1
    · exact dsame_rep h2 h' e.2 q hq
theorem dsame_len {ks ls : List (Key × D)} (h : dSame ks ls = true) : ks.length = ls.length ∧ (ks.all fun q => match q.2.sc, (dval ls q.1).bind D.sc with | some v, some u => decide (v = u) | _, _ => false) = true := by
  unfold dSame at h
  rw [Bool.and_eq_true] at h
  exact ⟨of_decide_eq_true h.1, h.2⟩
theorem dEq_eq {r : Bool} (hx : Cont G p x v) (hy : Cont G p y u) (e : dEq x y = some r) (q : Q (.bl r) p.H) : rEqZ G.K v u p.H Q := by
  unfold dEq at e
  split at e
  · rename_i v' u' e1 e2
    split at e
    · rename_i hs
      cases e
      have h1 := sc_rep (hx.sc (sc_box e1)) e1
      have h2 := sc_rep (hy.sc (sc_box e2)) e2
      subst h1 h2
      exact .inl ⟨hs, q⟩
    · cases e
  · split at e
    · cases e
      obtain ⟨b, vs, rfl, hb, r⟩ := hx.lst
      obtain ⟨b', vs', rfl, hb', r'⟩ := hy.lst
      obtain rfl : vs' = [] := r'
      exact .inr (.inl ⟨b, b', vs, rfl, rfl, .of hb, .of hb', by rw [r.empty]; exact q⟩)
    · cases e
      obtain ⟨b, vs, rfl, hb, r⟩ := hx.con
      obtain ⟨b', vs', rfl, hb', r'⟩ := hy.lst
      obtain rfl : vs' = [] := r'
      exact .inr (.inl ⟨b, b', vs, rfl, rfl, hb, .of hb', by rw [r.empty]; exact q⟩)
    · split at e
      · rename_i hs
        cases e
        obtain ⟨b, vs, rfl, hb, r⟩ := hx.dct
        obtain ⟨b', vs', rfl, hb', r'⟩ := hy.dct
        obtain ⟨l1, l2⟩ := dsame_len hs
        exact .inr (.inr (.inr ⟨b, b', vs, vs', rfl, rfl, hb, hb', by rw [r.len, r'.len]; exact l1, dsame_rep r r' l2, q⟩))
      · cases e
    · split at e
      · rename_i d e' e1 e2
        split at e
        · rename_i hs
          cases e
          exact .inr (.inr (.inl ⟨d, e', cont_py hx e1, cont_py hy e2, hs.1, hs.2, q⟩))
        · cases e
      · cases e
theorem dEq_ne {r : Bool} (hx : Cont G p x v) (hy : Cont G p y u) (e : dEq x y = some r) (q : Q (.bl (!r)) p.H) : rNeZ G.K v u p.H Q := by
  unfold dEq at e
  split at e
  · rename_i v' u' e1 e2
    split at e
    · rename_i hs
      cases e
      have h1 := sc_rep (hx.sc (sc_box e1)) e1
      have h2 := sc_rep (hy.sc (sc_box e2)) e2
      subst h1 h2
      exact .inl ⟨hs, q⟩
    · cases e
  · split at e
    · cases e
      obtain ⟨b, vs, rfl, hb, r⟩ := hx.lst
      obtain ⟨b', vs', rfl, hb', r'⟩ := hy.lst
      obtain rfl : vs' = [] := r'
      exact .inr (.inl ⟨b, b', vs, rfl, rfl, .of hb, .of hb', by rw [r.empty]; exact q⟩)
    · cases e
      obtain ⟨b, vs, rfl, hb, r⟩ := hx.con
      obtain ⟨b', vs', rfl, hb', r'⟩ := hy.lst
      obtain rfl : vs' = [] := r'
      exact .inr (.inl ⟨b, b', vs, rfl, rfl, hb, .of hb', by rw [r.empty]; exact q⟩)
    · split at e
      · rename_i hs
        cases e
        obtain ⟨b, vs, rfl, hb, r⟩ := hx.dct
        obtain ⟨b', vs', rfl, hb', r'⟩ := hy.dct
        obtain ⟨l1, l2⟩ := dsame_len hs
        exact .inr (.inr (.inr (.inr ⟨b, b', vs, vs', rfl, rfl, hb, hb', by rw [r.len, r'.len]; exact l1, dsame_rep r r' l2, q⟩)))
      · cases e
    · split at e
      · rename_i d e' e1 e2
        split at e
        · rename_i hs
          cases e
          exact .inr (.inr (.inl ⟨d, e', cont_py hx e1, cont_py hy e2, hs.1, hs.2, q⟩))
        · cases e
      · cases e
theorem dIn_in {r neg : Bool} (hx : Cont G p x v) (hy : Cont G p y u) (e : dIn x y = some r) (q : Q (.bl (if neg then !r else r)) p.H) : rInZ G.K neg v u p.H Q := by
  unfold dIn at e
  split at e
  · split at e
    · rename_i v' vs' e1 e2
      cases e
      obtain ⟨b, vs, rfl, hb, r⟩ := hy.lst
      have h1 := sc_rep (hx.sc (sc_box e1)) e1
      have h2 := scs_rep r e2
      subst h1 h2
      exact .inl ⟨b, _, rfl, .inl (.of hb), sc_flat e1, scs_flat e2, q⟩
    · cases e
  · split at e
    · rename_i v' vs' e1 e2
      cases e
      obtain ⟨b, vs, rfl, hb, r⟩ := hy.con
      have h1 := sc_rep (hx.sc (sc_box e1)) e1
      have h2 := scs_rep r e2
      subst h1 h2
      exact .inl ⟨b, _, rfl, .inl hb, sc_flat e1, scs_flat e2, q⟩
    · cases e
  · split at e
    · rename_i v' vs' e1 e2
      cases e
      obtain ⟨b, vs, rfl, hb, r⟩ := hy.tup
      have h1 := sc_rep (hx.sc (sc_box e1)) e1
      have h2 := scs_rep r e2
      subst h1 h2
      exact .inl ⟨b, _, rfl, .inr (.of hb), sc_flat e1, scs_flat e2, q⟩
    · cases e
  · obtain rfl := hy.str
    split at e
    · obtain rfl := hx.str
      split at e
      · rename_i w _ c hc
        cases e
        have hw : w = ⟨#[c]⟩ := by
          cases w with
          | mk cps =>
            congr 1
            exact Array.toList_inj.mp hc
        subst hw
        exact .inr (.inl ⟨c, _, rfl, rfl, q⟩)
      · cases e
        exact .inr (.inr (.inl ⟨_, _, rfl, rfl, by cases neg <;> exact q⟩))
    · cases e
  · rename_i ks
    split at e
    · rename_i k e1
      cases e
      obtain ⟨b, vs, rfl, hb, r⟩ := hy.dct
      have h1 := key_rep (hx.sc (key_box e1)) e1
      subst h1
      have e3 : (valV vs k).isSome = (dval ks k).isSome := by
        cases q : dval ks k with
        | none => rw [r.val.2 q]; rfl
        | some d => obtain ⟨v, e, _⟩ := r.val.1 d q; rw [e]; rfl
      exact .inr (.inr (.inr ⟨b, valV vs k, rfl, .inl ⟨vs, k, hb, rfl, rfl⟩, by rw [e3]; exact q⟩))
    · cases e
  · cases e
theorem atI_reps {ds : List D} {vs : List V} {i : Int} {d : D} (r : Reps G p ds vs) (e : atI ds i = some d) : ∃ v, atI vs i = some v ∧ Rep G p d v := by
  unfold atI at e ⊢
  rw [r.len]
  cases q : ixN ds.length i with
  | none => rw [q] at e; cases e
  | some j =>
    rw [q] at e
    exact r.get (i := j) e
theorem dIx_ix {d : D} (hx : Cont G p x v) (hy : Cont G p y u) (e : dIx x y = some d) : ∃ z, Rep G p d z ∧ (∀ Q : VK, Q z p.H → rIxZ G.K v u p.H Q) := by
  unfold dIx at e
  split at e
  · obtain ⟨b, vs, rfl, hb, r⟩ := hx.lst
    obtain rfl := hy.int
    obtain ⟨z, e1, rz⟩ := atI_reps r e
    exact ⟨z, rz, fun Q q => .inl ⟨b, vs, _, z, rfl, rfl, .of hb, e1, q⟩⟩
  · obtain ⟨b, vs, rfl, hb, r⟩ := hx.con
    obtain rfl := hy.int
    obtain ⟨z, e1, rz⟩ := atI_reps r e
    exact ⟨z, rz, fun Q q => .inl ⟨b, vs, _, z, rfl, rfl, hb, e1, q⟩⟩
  · obtain ⟨b, vs, rfl, hb, r⟩ := hx.tup
    obtain rfl := hy.int
    obtain ⟨z, e1, rz⟩ := atI_reps r e
    exact ⟨z, rz, fun Q q => .inr (.inl ⟨b, vs, _, z, rfl, rfl, .of hb, e1, q⟩)⟩
  · obtain rfl := hx.str
    obtain rfl := hy.int
    split at e
    · rename_i hz
      obtain ⟨c, e1, rfl⟩ := Option.map_eq_some_iff.mp e
      exact ⟨.str ⟨#[c]⟩, rfl, fun Q q => .inr (.inr (.inl ⟨_, _, c, rfl, rfl, hz, e1, q⟩))⟩
    · cases e
  · obtain ⟨b, vs, rfl, hb, r⟩ := hx.dct
    split at e
    · rename_i k e1
      have h1 := key_rep (hy.sc (key_box e1)) e1
      subst h1
      obtain ⟨z, e2, rz⟩ := r.val.1 d e
      exact ⟨z, rz, fun Q q => .inr (.inr (.inr ⟨b, z, rfl, .inl ⟨vs, k, hb, rfl, e2.symm⟩, q⟩))⟩
    · cases e
  · cases e
end
end Z

/-! the value level: operators held; statements -/
namespace Z
open PySem PySem.Spec PyProof.Rows L2 M
open Classical
section
variable {G : Gc} {W : WX}
theorem p_add : Prim2 G (rAddZ G.K) oAdd := by
  intro E σ τ s θ p v u a b Q hl h hw
  obtain ⟨h0, ca, cb⟩ := last2 hl h
  unfold oAdd at hw
  split at hw
  · rename_i e1 e2
    obtain rfl := (ca _ e1).int
    obtain rfl := (cb _ e2).int
    exact .inl ⟨_, _, rfl, rfl, fin_d h0 hl hw rfl⟩
  · rename_i e1 e2
    obtain rfl := (ca _ e1).str
    obtain rfl := (cb _ e2).str
    split at hw
    · rename_i hz
      exact .inr (.inl ⟨_, _, rfl, rfl, hz, fin_d h0 hl hw rfl⟩)
    · exact hw.elim
  · rename_i e1 e2
    obtain ⟨a1, vs, rfl, ha, r⟩ := (ca _ e1).lst
    obtain ⟨a2, us, rfl, hb, r'⟩ := (cb _ e2).lst
    split at hw
    · rename_i hz
      exact .inr (.inr (.inl ⟨a1, a2, vs, us, rfl, rfl, ha, hb, by rw [r.len, r'.len]; exact hz, fun q hq => fin_lst h0 hl hw hq (r.append r')⟩))
    · exact hw.elim
  · rename_i e1 e2
    obtain ⟨a1, vs, rfl, ha, r⟩ := (ca _ e1).tup
    obtain ⟨a2, us, rfl, hb, r'⟩ := (cb _ e2).tup
    split at hw
    · rename_i hz
      refine .inr (.inr (.inr (t_catA (.of ha) (.of hb) (fun z => hz.1 ?_) (fun z => hz.2.1 ?_) (by rw [r.len, r'.len]; exact hz.2.2) fun q hq => fin_tup h0 hl hw hq (r.append r'))))
      · exact List.eq_nil_of_length_eq_zero (by rw [← r.len, z]; rfl)
      · exact List.eq_nil_of_length_eq_zero (by rw [← r'.len, z]; rfl)
    · exact hw.elim
  · exact hw.elim
theorem p_sub : Prim2 G (rI0 fun i j => .int (i - j)) oSub := by
  intro E σ τ s θ p v u a b Q hl h hw
  obtain ⟨h0, ca, cb⟩ := last2 hl h
  unfold oSub at hw
  split at hw
  · rename_i e1 e2
    obtain rfl := (ca _ e1).int
    obtain rfl := (cb _ e2).int
    exact ⟨_, _, rfl, rfl, fin_d h0 hl hw rfl⟩
  · exact hw.elim
theorem rep_flat {p : Wr} {ds : List D} {vs : List V} (r : Reps G p ds vs) : ∀ n : Nat, Reps G p (List.replicate n ds).flatten (List.replicate n vs).flatten
  | 0 => rfl
  | n + 1 => by
    rw [List.replicate_succ, List.replicate_succ, List.flatten_cons, List.flatten_cons]
    exact r.append (rep_flat r n)
theorem p_mul : Prim2 G rMulZ oMul := by
  intro E σ τ s θ p v u a b Q hl h hw
  obtain ⟨h0, ca, cb⟩ := last2 hl h
  unfold oMul at hw
  split at hw
  · rename_i e1 e2
    obtain rfl := (ca _ e1).int
    obtain rfl := (cb _ e2).int
    split at hw
    · rename_i hz
      exact .inl ⟨_, _, rfl, rfl, hz, fin_d h0 hl hw rfl⟩
    · exact hw.elim
  · rename_i e1 e2
    obtain ⟨a1, vs, rfl, ha, r⟩ := (ca _ e1).lst
    obtain rfl := (cb _ e2).int
    split at hw
    · rename_i hz
      refine .inr ⟨a1, _, vs, rfl, rfl, ha, hz.1, hz.2.1, by rw [r.len]; exact hz.2.2, fun q hq => fin_lst h0 hl hw hq ?_⟩
      exact rep_flat r _
    · exact hw.elim
  · exact hw.elim
theorem p_mod : Prim2 G (rI (fun _ j => 0 < j) fun i j => .int (i % j)) oMod := by
  intro E σ τ s θ p v u a b Q hl h hw
  obtain ⟨h0, ca, cb⟩ := last2 hl h
  unfold oMod at hw
  split at hw
  · rename_i e1 e2
    obtain rfl := (ca _ e1).int
    obtain rfl := (cb _ e2).int
    split at hw
    · rename_i hz
      exact ⟨_, _, rfl, rfl, hz, fin_d h0 hl hw rfl⟩
    · exact hw.elim
  · exact hw.elim
theorem p_div : Prim2 G (rI CDivW fun i j => .int (i / j)) oDiv := by
  intro E σ τ s θ p v u a b Q hl h hw
  obtain ⟨h0, ca, cb⟩ := last2 hl h
  unfold oDiv at hw
  split at hw
  · rename_i e1 e2
    obtain rfl := (ca _ e1).int
    obtain rfl := (cb _ e2).int
    split at hw
    · rename_i hz
      exact ⟨_, _, rfl, rfl, hz, fin_d h0 hl hw rfl⟩
    · exact hw.elim
  · exact hw.elim
theorem p_pow : Prim2 G (rI CPowW fun i j => .int (i ^ j.toNat)) oPow := by
  intro E σ τ s θ p v u a b Q hl h hw
  obtain ⟨h0, ca, cb⟩ := last2 hl h
  unfold oPow at hw
  split at hw
  · rename_i e1 e2
    obtain rfl := (ca _ e1).int
    obtain rfl := (cb _ e2).int
    split at hw
    · rename_i hz
      exact ⟨_, _, rfl, rfl, hz, fin_d h0 hl hw rfl⟩
    · exact hw.elim
  · exact hw.elim
theorem p_xor : Prim2 G (rI0 fun i j => .int (Builtin.bitXor i j)) oXor := by
  intro E σ τ s θ p v u a b Q hl h hw
  obtain ⟨h0, ca, cb⟩ := last2 hl h
  unfold oXor at hw
  split at hw
  · rename_i e1 e2
    obtain rfl := (ca _ e1).int
    obtain rfl := (cb _ e2).int
    exact ⟨_, _, rfl, rfl, fin_d h0 hl hw rfl⟩
  · exact hw.elim
theorem p_cmp {f : Int → Int → Bool} : Prim2 G (rI0 fun i j => .bl (f i j)) (oCmp f) := by
  intro E σ τ s θ p v u a b Q hl h hw
  obtain ⟨h0, ca, cb⟩ := last2 hl h
  unfold oCmp at hw
  split at hw
  · rename_i e1 e2
    obtain rfl := (ca _ e1).int
    obtain rfl := (cb _ e2).int
    exact ⟨_, _, rfl, rfl, fin_d h0 hl hw rfl⟩
  · exact hw.elim
theorem p_eq : Prim2 G (rEqZ G.K) oEq := by
  intro E σ τ s θ p v u a b Q hl h hw
  obtain ⟨h0, ca, cb⟩ := last2 hl h
  unfold oEq at hw
  split at hw
  · rename_i e1 e2
    split at hw
    · rename_i e3
      exact dEq_eq (ca _ e1) (cb _ e2) e3 (fin_d h0 hl hw rfl)
    · exact hw.elim
  · exact hw.elim
theorem p_ne : Prim2 G (rNeZ G.K) oNe := by
  intro E σ τ s θ p v u a b Q hl h hw
  obtain ⟨h0, ca, cb⟩ := last2 hl h
  unfold oNe at hw
  split at hw
  · rename_i ks e1 e2
    obtain ⟨a1, vs, rfl, ha, r⟩ := (ca _ e1).dct
    obtain ⟨a2, us, rfl, hb, r'⟩ := (cb _ e2).dct
    obtain rfl : us = [] := r'
    have e3 : vs.isEmpty = ks.isEmpty := by
      have := r.len
      cases vs with
      | nil => cases ks with
        | nil => rfl
        | cons _ _ => simp at this
      | cons _ _ => cases ks with
        | nil => simp at this
        | cons _ _ => rfl
    exact .inr (.inr (.inr (.inl ⟨a1, a2, vs, rfl, rfl, ha, hb, by rw [e3]; exact fin_d h0 hl hw rfl⟩)))
  · rename_i e1 e2
    split at hw
    · rename_i e3
      exact dEq_ne (ca _ e1) (cb _ e2) e3 (fin_d h0 hl hw rfl)
    · exact hw.elim
  · exact hw.elim
theorem p_in {neg : Bool} : Prim2 G (rInZ G.K neg) (oIn neg) := by
  intro E σ τ s θ p v u a b Q hl h hw
  obtain ⟨h0, ca, cb⟩ := last2 hl h
  unfold oIn at hw
  split at hw
  · rename_i e1 e2
    split at hw
    · rename_i e3
      exact dIn_in (ca _ e1) (cb _ e2) e3 (fin_d h0 hl hw rfl)
    · exact hw.elim
  · exact hw.elim
theorem p_ix : Prim2 G (rIxZ G.K) oIx := by
  intro E σ τ s θ p v u a b Q hl h hw
  obtain ⟨h0, ca, cb⟩ := last2 hl h
  unfold oIx at hw
  split at hw
  · rename_i e1 e2
    split at hw
    · rename_i e3
      obtain ⟨z, r, k⟩ := dIx_ix (ca _ e1) (cb _ e2) e3
      exact k Q (fin_d h0 hl hw r)
    · exact hw.elim
  · exact hw.elim
theorem non_iff {x : D} {p : Wr} {v : V} (h : Rep G p x v) : v = .non ↔ x = .non := by
  cases x with
  | non => exact ⟨fun _ => rfl, fun _ => h⟩
  | bl _ => obtain rfl := h; exact ⟨fun z => (nomatch z), fun z => (nomatch z)⟩
  | int _ => obtain rfl := h; exact ⟨fun z => (nomatch z), fun z => (nomatch z)⟩
  | str _ => obtain rfl := h; exact ⟨fun z => (nomatch z), fun z => (nomatch z)⟩
  | cell _ => obtain ⟨_, rfl⟩ := h; exact ⟨fun z => (nomatch z), fun z => (nomatch z)⟩
  | lst _ => obtain ⟨_, _, rfl, _⟩ := h; exact ⟨fun z => (nomatch z), fun z => (nomatch z)⟩
  | con _ => obtain ⟨_, _, rfl, _⟩ := h; exact ⟨fun z => (nomatch z), fun z => (nomatch z)⟩
  | tup _ => obtain ⟨_, _, rfl, _⟩ := h; exact ⟨fun z => (nomatch z), fun z => (nomatch z)⟩
  | dct _ => obtain ⟨_, _, rfl, _⟩ := h; exact ⟨fun z => (nomatch z), fun z => (nomatch z)⟩
  | obj _ _ => obtain ⟨_, _, _, _, rfl, _⟩ := h; exact ⟨fun z => (nomatch z), fun z => (nomatch z)⟩
def rIsZ (neg : Bool) : R2 := fun x y H Q => y = .non ∧ Q (.bl (if neg then !decide (x = .non) else decide (x = .non))) H
theorem op_isZ {X : Cx} : OpR X (compareOp .Is) (rIsZ false) := o_isN
theorem op_isnotZ {X : Cx} : OpR X (compareOp .IsNot) (rIsZ true) := o_notN
theorem p_isN {neg : Bool} : Prim2 G (rIsZ neg) (oIsN neg) := by
  intro E σ τ s θ p v u a b Q hl h hw
  have h1 := h.pop1 (by simp; omega)
  obtain ⟨h0, c, r⟩ := last1 hl h1
  unfold oIsN at hw
  split at hw
  · obtain ⟨u', e1, r'⟩ := h.ent _ _ snoc_new
    have ll := snoc_len h.len
    rw [← ll, snoc_new] at e1
    cases e1
    obtain rfl : u = .non := r'
    refine ⟨rfl, ?_⟩
    split at hw
    · have e : v = .non := r
      rw [decide_eq_true e]
      cases neg <;> exact fin_d h0 hl hw rfl
    · rename_i x hx
      have e : ¬ v = .non := fun z => hx ((non_iff (show Rep G p x v from r)).mp z)
      rw [decide_eq_false e]
      cases neg <;> exact fin_d h0 hl hw rfl
    · split at hw
      · rename_i x e1
        split at hw
        · rename_i hb
          rcases c x e1 with ⟨_, b, rfl, _⟩ | ⟨q, _⟩
          · cases neg <;> exact fin_d h0 hl hw rfl
          · rw [hb] at q; cases q
        · exact hw.elim
      · exact hw.elim
  · exact hw.elim
end
end Z

/-! the value level: statements -/
namespace Z
open PySem PySem.Spec PyProof.Rows L2 M
open Classical
section
variable {G : Gc} {W : WX} {E : En} {σ σ' : L2.St} {τ τ' : List V} {H : Hp} {s s' : SD} {θ θ' : List Vl} {v u : V} {a b : Vl} {x y : D} {p : Wr} {Q : VK} {m : Nat} {w w' : List (Option V)} {ŵ ŵ' : List (Option Vl)} {S : Sto} {k : Nat}
/-- values in the middle let go -/
theorem Sm.mid {A B C : List (Option V)} {A' B' C' : List (Option Vl)} (h : Sm G E m p ((A ++ B) ++ C) ((A' ++ B') ++ C') S) (hA : A.length = A'.length) (hB : B.length = B'.length) (hm : m ≤ A.length) : Sm G E m p (A ++ C) (A' ++ C') S := by
  have hC : C.length = C'.length := by have := h.len; simp at this; omega
  have fl : ∀ {α : Type} {A B C : List α} {k : Nat}, k < A.length → ((A ++ B) ++ C)[k]? = (A ++ C)[k]? := fun {α A B C k} hk => by rw [List.append_assoc, List.getElem?_append_left hk, List.getElem?_append_left hk]
  have fr : ∀ {α : Type} {A B C : List α} {k : Nat}, ¬ k < A.length → ((A ++ B) ++ C)[k + B.length]? = (A ++ C)[k]? := fun {α A B C k} hk => by
    rw [List.getElem?_append_right (by simp; omega), List.getElem?_append_right (by omega)]
    congr 1
    simp
    omega
  refine h.pick (fun k => if k < A.length then k else k + B.length) (by simp [hA, hC]) (fun k e q => ?_) (fun j k y z _ _ e => ?_) fun k hk => ?_
  · by_cases c : k < A.length
    · rw [if_pos c]
      exact ⟨(fl (by omega)).trans q, (fl c).symm, id⟩
    · rw [if_neg c]
      refine ⟨?_, (fr c).symm, fun _ => by omega⟩
      rw [hB]
      exact (fr (by omega)).trans q
  · split at e <;> split at e <;> omega
  · exact (fl (by omega)).symm
theorem Rel.dropMid (h : Rel G E σ ((τ ++ τ') ++ [v]) H s ((θ ++ θ') ++ [a])) (ht : τ.length = θ.length) : Rel G E σ (τ ++ [v]) H s (θ ++ [a]) := by
  obtain ⟨p, e, hl, h⟩ := h
  have e1 : σ ++ ((τ ++ τ') ++ [v]).map some = ((σ ++ τ.map some) ++ τ'.map some) ++ [some v] := by simp
  have e2 : s.sl ++ ((θ ++ θ') ++ [a]).map some = ((s.sl ++ θ.map some) ++ θ'.map some) ++ [some a] := by simp
  rw [e1, e2] at h
  have len := h.len
  simp at len
  exact .snoc (h.mid (by simp [hl, ht]) (by simp; omega) (le_app hl)) hl e
theorem Rel.dropEnd (h : Rel G E σ (τ ++ τ') H s (θ ++ θ')) (ht : τ.length = θ.length) : Rel G E σ τ H s θ := by
  obtain ⟨p, e, hl, h⟩ := h
  rw [List.map_append, List.map_append, ← List.append_assoc, ← List.append_assoc] at h
  exact ⟨p, e, hl, h.pop (by simp [hl, ht]) (le_app hl)⟩
theorem RelX.dropEnd {c : Str} {fs : List (Str × D)} {cls : Value} {d : Option Addr} (h : RelX G E σ (τ ++ τ') H s (θ ++ θ') c fs cls d) (ht : τ.length = θ.length) : RelX G E σ τ H s θ c fs cls d := by
  obtain ⟨p, e, hl, h, r⟩ := h
  rw [List.map_append, List.map_append, ← List.append_assoc, ← List.append_assoc] at h
  exact ⟨p, e, hl, h.pop (by simp [hl, ht]) (le_app hl), r⟩
theorem XP.upEnd {c : Str} {fs : List (Str × D)} (h : XP G W E τ θ c fs s) (ht : τ.length = θ.length) : XP G W E (τ ++ τ') (θ ++ θ') c fs s := fun cls d σ' H' r => h cls d σ' H' (r.dropEnd ht)
theorem noLoc (h : Sm G E s.sl.length p w (s.sl ++ θ.map some) S) (hn : Nl θ) {i j : Nat} (q : (s.sl ++ θ.map some)[i]? = some (some (.loc j))) : False := by
  by_cases c : i < s.sl.length
  · obtain ⟨_, _, r⟩ := h.ent i _ q
    exact absurd r.1 (by omega)
  · rw [List.getElem?_append_right (by omega), List.getElem?_map] at q
    obtain ⟨e, h1, h2⟩ := Option.map_eq_some_iff.mp q
    cases h2
    exact hn _ (List.mem_of_getElem? h1) j rfl
/-! ### targets -/
/-- but for the slots told, as it was -/
def Only (is : List Nat) (σ σ' : L2.St) : Prop := σ'.length = σ.length ∧ ∀ k : Nat, k ∉ is → σ'[k]? = σ[k]?
def RG (G : Gc) (W : WX) (is : List Nat) (g : TG) (fz : Vl → SD → R Unit) : Prop := ∀ (E : En) (σ : L2.St) (τ : List V) (H : Hp) (s : SD) (θ : List Vl) (v : V) (a : Vl) (Q : L2.St → Hp → Prop), Nl θ → Rel G E σ (τ ++ [v]) H s (θ ++ [a]) →
  Wp (fz a s) (fun _ s' => ∀ σ' H', Rel G E σ' τ H' s' θ → Only is σ σ' → Q σ' H') (XP G W E τ θ) → g v σ H Q
def zSt (i : Nat) (a : Vl) (s : SD) : R Unit := match a with
  | .d x => .ok () { s with sl := s.sl.set i (some (.d x)) }
  | .own x => .ok () { s with sl := s.sl.set i (some (.own x)) }
  | .loc k => (s.fix (.loc k)).bind fun x s2 => .ok () { s2 with sl := s2.sl.set i (some (.d x)) }
theorem Rel.store {i : Nat} (h : Rel G E σ (τ ++ [v]) H s (θ ++ [a])) (hn : Nl θ) (ha : ∀ j, a ≠ .loc j) : Rel G E (σ.set i (some v)) τ H { s with sl := s.sl.set i (some a) } θ := by
  have hpop := h.pop
  obtain ⟨p, e, hl, h⟩ := h.unsnoc
  by_cases c : i < s.sl.length
  · have h0 := h.pop1 (le_app hl)
    have q := h.store (k := i) c (le_app hl) (snoc_len h.len) ha fun i' j' z => (noLoc h0 hn z).elim
    rw [set_front (by rw [hl]; exact c), set_front c] at q
    refine ⟨p, e, by simp [hl], ?_⟩
    show Sm G E (s.sl.set i (some a)).length _ _ _ _
    rw [List.length_set]
    exact q
  · rw [List.set_eq_of_length_le (by omega), List.set_eq_of_length_le (by omega)]
    exact hpop
theorem Only.set {i : Nat} {u : Option V} : Only [i] σ (σ.set i u) := ⟨by simp, fun k hk => List.getElem?_set_ne (fun z => hk (by simp [z]))⟩
theorem RG.name {i : Nat} : RG G W [i] (gName i) (zSt i) := by
  intro E σ τ H s θ v a Q hn hR hw
  cases a with
  | d x => exact hw _ _ (hR.store hn fun j q => nomatch q) .set
  | own x => exact hw _ _ (hR.store hn fun j q => nomatch q) .set
  | loc k =>
    unfold zSt at hw
    dsimp only at hw
    rw [Wp_bind] at hw
    obtain ⟨p, rfl, hl, h⟩ := hR.unsnoc
    cases e : s.fix (.loc k) with
    | bad => rw [e] at hw; exact hw.elim
    | ex c fs s2 => exact (fix_nx _ _ _ _ _ e).elim
    | ok x s2 =>
      rw [e] at hw
      obtain ⟨p', hp, hs, h'⟩ := fix_ok E s _ x s2 p _ _ v e h (le_app hl)
      have hR2 : Rel G E σ (τ ++ [v]) p.H s2 (θ ++ [.d x]) := hp ▸ .snoc h' (hl.trans hs.symm) rfl
      exact hw _ _ (hR2.store hn fun j q => nomatch q) .set
/-- names of a tuple -/
def setAll : List Nat → List D → List (Option Vl) → List (Option Vl)
  | i :: is, d :: ds, l => setAll is ds (l.set i (some (.d d)))
  | _, _, l => l
def gNames : List Nat → TGs
  | [] => gNil
  | i :: is => gCons (gName i) (gNames is)
theorem only_cons {i : Nat} {is : List Nat} {u : Option V} (o : Only is (σ.set i u) σ') : Only (i :: is) σ σ' := ⟨o.1.trans (by simp), fun k hk => by
  simp only [List.mem_cons, not_or] at hk
  rw [o.2 k hk.2, List.getElem?_set_ne (fun z => hk.1 z.symm)]⟩
theorem names_ok {is : List Nat} : ∀ {ds : List D} {vs : List V} {σ : L2.St} {s : SD} {Q : L2.St → Hp → Prop}, ds.length = is.length → Nl θ → σ.length = s.sl.length → Sm G E s.sl.length p (σ ++ τ.map some) (s.sl ++ θ.map some) s.st → Reps G p ds vs →
    (∀ σ', Rel G E σ' τ p.H { s with sl := setAll is ds s.sl } θ → Only is σ σ' → Q σ' p.H) → gNames is vs σ p.H Q := by
  induction is with
  | nil =>
    intro ds vs σ s Q hd hn hl h r q
    obtain rfl : ds = [] := List.eq_nil_of_length_eq_zero hd
    obtain rfl : vs = [] := r
    exact ⟨rfl, q σ ⟨p, rfl, hl, h⟩ ⟨rfl, fun _ _ => rfl⟩⟩
  | cons i is ih =>
    intro ds vs σ s Q hd hn hl h r q
    cases ds with
    | nil => cases hd
    | cons d ds =>
      obtain ⟨v, vr, rfl, r1, r2⟩ := r
      refine ⟨v, vr, rfl, ?_⟩
      show gNames is vr (σ.set i (some v)) p.H Q
      have h1 := h.push r1
      by_cases c : i < s.sl.length
      · have q1 := h1.store (k := i) c (le_app hl) h.len (fun j z => nomatch z) fun i' j' z => (noLoc h hn z).elim
        rw [set_front (by rw [hl]; exact c), set_front c] at q1
        refine ih (s := { s with sl := s.sl.set i (some (.d d)) }) (by simpa using hd) hn (by simp [hl]) ?_ r2 fun σ' h' o => q σ' h' (only_cons o)
        show Sm G E (s.sl.set i _).length _ _ _ _
        rw [List.length_set]
        exact q1
      · have e1 : σ.set i (some v) = σ := List.set_eq_of_length_le (by omega)
        have e2 : s.sl.set i (some (.d d)) = s.sl := List.set_eq_of_length_le (by omega)
        rw [e1]
        refine ih (s := s) (by simpa using hd) hn hl h r2 fun σ' h' o => q σ' ?_ (only_cons (by rw [e1]; exact o))
        unfold setAll
        rw [e2]
        exact h'
def zUnp (is : List Nat) (a : Vl) (s : SD) : R Unit := match s.cont a with
  | some (.tup ds) => if ds.length = is.length then .ok () { s with sl := setAll is ds s.sl } else .bad
  | _ => .bad
theorem RG.names {is : List Nat} {n : Nat} (hn : n = is.length) : RG G W is (gTup G.K n (gNames is)) (zUnp is) := by
  intro E σ τ H s θ v a Q hN hR hw
  obtain ⟨p, rfl, hl, h⟩ := hR.unsnoc
  obtain ⟨h0, c, _⟩ := last1 hl h
  unfold zUnp at hw
  split at hw
  · rename_i ds e1
    split at hw
    · rename_i e2
      obtain ⟨b, vs, rfl, hb, r⟩ := (c _ e1).tup
      exact ⟨b, vs, rfl, .of hb, by rw [r.len, e2, hn], names_ok e2 hN hl h0 r fun σ' h' o => hw σ' _ h' o⟩
    · exact hw.elim
  · exact hw.elim
/-! ### statements -/
def zAsg (fa : SD → R Vl) (fz : Vl → SD → R Unit) : SD → R Fl := fun s => (fa s).bind fun a s1 => (fz a s1).bind fun _ s2 => .ok .nx s2
theorem RS.asg {is : List Nat} {te : TE} {g : TG} {fa : SD → R Vl} {fz : Vl → SD → R Unit} (ha : RE G W te fa) (hg : RG G W is g fz) : RS G W (tAsg te g) (zAsg fa fz) := by
  intro E σ τ H s θ D hN hR hw
  unfold zAsg at hw
  rw [Wp_bind] at hw
  refine ha E σ τ H s θ _ hN hR (hw.mono (fun a s1 hw v H1 h1 => ?_) fun _ _ _ h => h)
  rw [Wp_bind] at hw
  exact hg E σ τ H1 s1 θ v a _ hN h1 (hw.mono (fun _ s2 hw σ' H' h' _ => hw σ' H' h') fun _ _ _ h => h)
def zSeq (f g : SD → R Fl) : SD → R Fl := fun s => (f s).bind fun fl s1 => match fl with
  | .nx => g s1
  | .bk => .ok .bk s1
  | .ct => .ok .ct s1
  | .rt a => .ok (.rt a) s1
theorem RS.seq {t u : TS} {f g : SD → R Fl} (ha : RS G W t f) (hb : RS G W u g) : RS G W (tSeq t u) (zSeq f g) := by
  intro E σ τ H s θ D hN hR hw
  unfold zSeq at hw
  rw [Wp_bind] at hw
  refine ha E σ τ H s θ _ hN hR (hw.mono (fun fl s1 hw => ?_) fun _ _ _ h => h)
  cases fl with
  | nx => exact fun σ' H' h' => hb E σ' τ H' s1 θ D hN h' hw
  | bk => exact hw
  | ct => exact hw
  | rt a => exact hw
def zNext : SD → R Fl := fun s => .ok .nx s
def zBreak : SD → R Fl := fun s => .ok .bk s
def zCont : SD → R Fl := fun s => .ok .ct s
theorem RS.next : RS G W tNext zNext := fun _ _ _ _ _ _ _ _ hR hw => hw _ _ hR
theorem RS.brk : RS G W tBreak zBreak := fun _ _ _ _ _ _ _ _ hR hw => hw _ _ hR
theorem RS.cont : RS G W tCont zCont := fun _ _ _ _ _ _ _ _ hR hw => hw _ _ hR
def zIfS (c : SD → R Bool) (f g : SD → R Fl) : SD → R Fl := fun s => (c s).bind fun b s1 => if b = true then f s1 else g s1
theorem RS.ifS {c : TT} {t u : TS} {fc : SD → R Bool} {f g : SD → R Fl} (hc : RT G W c fc) (ha : RS G W t f) (hb : RS G W u g) : RS G W (tIfS c t u) (zIfS fc f g) := by
  intro E σ τ H s θ D hN hR hw
  unfold zIfS at hw
  rw [Wp_bind] at hw
  refine hc E σ τ H s θ _ hN hR (hw.mono (fun b s1 hw H1 h1 => ?_) fun _ _ _ h => h)
  split
  · rename_i c; rw [if_pos c] at hw; exact ha E σ τ H1 s1 θ D hN h1 hw
  · rename_i c; rw [if_neg c] at hw; exact hb E σ τ H1 s1 θ D hN h1 hw
/-- what is told: never by a slot's name -/
def SD.told (s : SD) : Vl → R Vl
  | .d x => .ok (.d x) s
  | .own x => .ok (.own x) s
  | .loc k => match s.sl[k]? with
    | some (some (.own x)) => .ok (.own x) { s with sl := s.sl.set k none }
    | some (some (.d x)) => .ok (.d x) s
    | _ => .bad
def zRet (fa : SD → R Vl) : SD → R Fl := fun s => (fa s).bind fun a s1 => (s1.told a).bind fun b s2 => .ok (.rt b) s2
theorem Sm.move {i : Nat} (h : Sm G E m p (w ++ [some v]) (ŵ ++ [some (.loc i)]) S) (q : ŵ[i]? = some (some (.own x))) (hl : w.length = ŵ.length) (hm : m ≤ w.length) (hn : ∀ (k j : Nat), ŵ[k]? = some (some (.loc j)) → False) :
    Sm G E m p (w ++ [some v]) (ŵ.set i none ++ [some (.own x)]) S := by
  obtain ⟨u, e1, r1, r2, r3⟩ := h.ent _ _ (snoc_new (l := ŵ))
  rw [← hl, snoc_new] at e1; cases e1
  have hi := lt_of_get q
  rw [List.getElem?_append_left (by omega)] at r3
  have q' : (ŵ ++ [some (Vl.loc i)])[i]? = some (some (.own x)) := snoc_old q
  have r3' : (w ++ [some v])[i]? = some (some v) := snoc_old r3
  refine h.pick (fun k => if k = ŵ.length then i else k) (by simp [hl]) (fun k e q1 => ?_) (fun j k y z h1 h2 e => ?_) fun k hk => rfl
  · rcases snoc_get q1 with q1 | ⟨rfl, qq⟩
    · rcases set_get q1 with ⟨rfl, qq⟩ | ⟨c, q1⟩
      · cases qq
      · rw [if_neg (by have := lt_of_get q1; omega)]
        exact ⟨snoc_old q1, rfl, id⟩
    · obtain rfl := Option.some.inj qq
      simp only [List.length_set, if_true]
      exact ⟨q', by rw [← hl, snoc_new, r3'], fun z => by omega⟩
  · have ni : ∀ {j : Nat} {y : D}, (ŵ.set i none ++ [some (Vl.own x)])[j]? = some (some (.own y)) → j ≠ i := fun {j y} q1 => by
      rcases snoc_get q1 with q1 | ⟨rfl, qq⟩
      · rcases set_get q1 with ⟨rfl, qq⟩ | ⟨c, q1⟩
        · cases qq
        · exact fun z => c z.symm
      · simp; omega
    have := ni h1
    have := ni h2
    split at e <;> split at e <;> omega
theorem told_ok {E : En} {s : SD} {a b : Vl} {s' : SD} {θ : List Vl} (c : s.told a = .ok b s') (hn : Nl θ) (hR : Rel G E σ (τ ++ [v]) H s (θ ++ [a])) : Rel G E σ (τ ++ [v]) H s' (θ ++ [b]) ∧ ∀ j, b ≠ .loc j := by
  cases a with
  | d x => cases c; exact ⟨hR, fun j q => nomatch q⟩
  | own x => cases c; exact ⟨hR, fun j q => nomatch q⟩
  | loc k =>
    unfold SD.told at c
    dsimp only at c
    obtain ⟨p, e, hl, h⟩ := hR.unsnoc
    have h0 := h.pop1 (le_app hl)
    cases q1 : s.sl[k]? with
    | none => rw [q1] at c; cases c
    | some o =>
      cases o with
      | none => rw [q1] at c; cases c
      | some z =>
        rw [q1] at c
        have hs : (s.sl ++ θ.map some)[k]? = some (some z) := by rw [List.getElem?_append_left (lt_of_get q1)]; exact q1
        cases z with
        | d y =>
          cases c
          obtain ⟨u, e1, r1, r2, r3⟩ := h.ent _ _ (snoc_new (l := s.sl ++ θ.map some))
          rw [← snoc_len h.len, snoc_new] at e1; cases e1
          rw [List.getElem?_append_left (by simp; omega)] at r3
          obtain ⟨u, e2, r⟩ := h0.ent k _ hs
          rw [r3] at e2; cases e2
          exact ⟨.snoc (h0.push r) hl e, fun j q => nomatch q⟩
        | own y =>
          cases c
          have q := h.move hs (snoc_len h.len) (le_app hl) fun k' j' z => noLoc h0 hn z
          rw [set_front (lt_of_get q1)] at q
          refine ⟨.snoc (s := { s with sl := s.sl.set k none }) ?_ (by simp [hl]) e, fun j q => nomatch q⟩
          show Sm G E (s.sl.set k none).length _ _ _ _
          rw [List.length_set]
          exact q
        | loc j => cases c
theorem told_nx : ∀ (s : SD) (a : Vl) c fs s', s.told a ≠ .ex c fs s' := by
  intro s a c fs s'
  cases a with
  | d x => intro q; cases q
  | own x => intro q; cases q
  | loc k =>
    unfold SD.told
    dsimp only
    split <;> intro q <;> cases q
theorem RS.ret {te : TE} {fa : SD → R Vl} (ha : RE G W te fa) : RS G W (tRet te) (zRet fa) := by
  intro E σ τ H s θ D hN hR hw
  unfold zRet at hw
  rw [Wp_bind] at hw
  refine ha E σ τ H s θ _ hN hR (hw.mono (fun a s1 hw v H1 h1 => ?_) fun _ _ _ h => h)
  rw [Wp_bind] at hw
  cases e : s1.told a with
  | bad => rw [e] at hw; exact hw.elim
  | ex c fs s2 => exact (told_nx _ _ _ _ _ e).elim
  | ok b s2 =>
    rw [e] at hw
    obtain ⟨h2, _⟩ := told_ok e hN h1
    exact hw.2 _ _ _ h2
def zRetN : SD → R Fl := fun s => .ok (.rt (.d .non)) s
theorem RS.retN : RS G W tRetN zRetN := fun _ _ _ _ _ _ _ _ hR hw => hw.2 _ _ _ (hR.push fun _ => rfl)
def zDrop (fa : SD → R Vl) : SD → R Fl := fun s => (fa s).bind fun _ s1 => .ok .nx s1
theorem RS.drop {te : TE} {fa : SD → R Vl} (ha : RE G W te fa) : RS G W (tDrop te) (zDrop fa) := by
  intro E σ τ H s θ D hN hR hw
  unfold zDrop at hw
  rw [Wp_bind] at hw
  exact ha E σ τ H s θ _ hN hR (hw.mono (fun a s1 hw v H1 h1 => hw _ _ h1.pop) fun _ _ _ h => h)
/-- two, three names at once -/
def zPar (i j : Nat) (fr : SD → R (List D)) : SD → R Fl := fun s => (fr s).bind fun ds s1 => match ds with
  | [x, y] => .ok .nx { s1 with sl := setAll [i, j] [x, y] s1.sl }
  | _ => .bad
theorem RS.par {i j : Nat} {t : TA} {fr : SD → R (List D)} (ha : RA G W t fr) : RS G W (tPar i j t) (zPar i j fr) := by
  intro E σ τ H s θ D hN hR hw
  unfold zPar at hw
  rw [Wp_bind] at hw
  refine ha E σ τ H s θ _ hN hR (hw.mono (fun ds s1 hw vs H1 h1 => ?_) fun _ _ _ h => h)
  split at hw
  · obtain ⟨p, rfl, hl, h, r⟩ := h1.args hR.tlen
    have := names_ok (is := [i, j]) (Q := fun σ' H' => D.nx σ' H') rfl hN hl h r fun σ' h' _ => hw σ' _ h'
    obtain ⟨v, r1, rfl, w, r2, rfl, rfl, q⟩ := this
    exact ⟨v, w, rfl, q⟩
  · exact hw.elim
end
end Z

/-! the value level: loops and comprehensions -/
namespace Z
open PySem PySem.Spec PyProof.Rows L2 M
open Classical
/-- what a loop walks: what is held meanwhile, that it hasn't changed, the items -/
structure Src where
  hs : List Vl
  ok : SD → Prop
  ds : List D
def Walk (G : Gc) (E : En) (J : It) (src : Src) (vs : List V) : Prop := ∀ (i : Nat) (σ : L2.St) (τ τ2 : List V) (θ θ2 : List Vl) (H : Hp) (s : SD), τ.length = θ.length → τ2.length = θ2.length → Rel G E σ (τ ++ vs ++ τ2) H s (θ ++ src.hs ++ θ2) → src.ok s →
  (∀ d, src.ds[i]? = some d → J.go i H ∧ ∀ x H', J.yld i H x H' → Rel G E σ (τ ++ vs ++ τ2 ++ [x]) H' s (θ ++ src.hs ++ θ2 ++ [.d d])) ∧ (src.ds[i]? = none → J.stop i H)
/-- an entry that asks more -/
def EnLe (G : Gc) (E E' : En) : Prop := ∀ (m : Nat) (p : Wr) (w : List (Option V)) (ŵ : List (Option Vl)) (S : Sto), Sm G E' m p w ŵ S → Sm G E m p w ŵ S
def RI (G : Gc) (W : WX) (wi : TI) (fi : SD → R Src) : Prop := ∀ (E : En) (σ : L2.St) (τ : List V) (H : Hp) (s : SD) (θ : List Vl) (Q : It → Hp → Prop), Nl θ → Rel G E σ τ H s θ →
  Wp (fi s) (fun src s' => ∀ vs H' J E', EnLe G E E' → vs.length = src.hs.length → Rel G E' σ (τ ++ vs) H' s' (θ ++ src.hs) → Walk G E' J src vs → Q J H') (XP G W E τ θ) → wi σ H Q
section
variable {G : Gc} {W : WX} {E : En} {σ σ' : L2.St} {τ τ' τ2 : List V} {H : Hp} {s s' : SD} {θ θ' θ2 : List Vl} {v u : V} {a b : Vl} {x y : D} {p : Wr} {Q : VK} {m : Nat} {w w' : List (Option V)} {ŵ ŵ' : List (Option Vl)} {S : Sto} {k : Nat}
theorem Rel.at1 (h : Rel G E σ (τ ++ [v] ++ τ2) H s (θ ++ [a] ++ θ2)) (ht : τ.length = θ.length) : ∃ p : Wr, p.H = H ∧ σ.length = s.sl.length ∧ Sm G E s.sl.length p (σ ++ (τ ++ [v] ++ τ2).map some) (s.sl ++ (θ ++ [a] ++ θ2).map some) s.st ∧ ∀ x, s.cont a = some x → Cont G p x v := by
  obtain ⟨p, e, hl, h⟩ := h
  refine ⟨p, e, hl, h, fun x c => ?_⟩
  have e1 : σ ++ (τ ++ [v] ++ τ2).map some = (σ ++ τ.map some) ++ some v :: τ2.map some := by simp
  have e2 : s.sl ++ (θ ++ [a] ++ θ2).map some = (s.sl ++ θ.map some) ++ some a :: θ2.map some := by simp
  have hA : (σ ++ τ.map some).length = (s.sl ++ θ.map some).length := by simp [hl, ht]
  refine h.cont rfl (k := (s.sl ++ θ.map some).length) ?_ ?_ c
  · rw [e2, List.getElem?_append_right (Nat.le_refl _)]; simp
  · rw [e1, ← hA, List.getElem?_append_right (Nat.le_refl _)]; simp
/-! ### what may be walked -/
noncomputable def zItL (fa : SD → R Vl) : SD → R Src := fun s => (fa s).bind fun a s1 => match s1.cont a with
  | some (.lst ds) => .ok ⟨[a], fun s => s.cont a = some (.lst ds), ds⟩ s1
  | some (.con ds) => .ok ⟨[a], fun s => s.cont a = some (.con ds), ds⟩ s1
  | _ => .bad
theorem seq_go {K : PySem.W.Frag} {a : Addr} {ds : List D} {vs : List V} {H : Hp} (hs : SqL K H a vs) (r : Reps G p ds vs) (uq : ∀ xs, SqL K H a xs → xs = vs) (i : Nat) : (∀ d, ds[i]? = some d → (Itl K a).go i H ∧ ∀ x H', (Itl K a).yld i H x H' → H' = H ∧ Rep G p d x) ∧ (ds[i]? = none → (Itl K a).stop i H) := by
  refine ⟨fun d e => ?_, fun e => ⟨vs, hs, List.getElem?_eq_none_iff.mp (r.none e)⟩⟩
  obtain ⟨v, e1, r1⟩ := r.get e
  refine ⟨⟨vs, v, hs, e1⟩, fun x H' y => ⟨y.1, ?_⟩⟩
  have := y.2 vs hs
  rw [e1] at this; cases this
  exact r1
theorem RI.lst {te : TE} {fa : SD → R Vl} (ha : RE G W te fa) : RI G W (iList G.K te) (zItL fa) := by
  intro E σ τ H s θ Q hN hR hw
  unfold zItL at hw
  rw [Wp_bind] at hw
  refine ha E σ τ H s θ _ hN hR (hw.mono (fun a s1 hw v H1 h1 => ?_) fun _ _ _ h => h)
  have h0 := h1
  obtain ⟨p, rfl, hl, h⟩ := h1.unsnoc
  obtain ⟨h2, c, _⟩ := last1 hl h
  split at hw
  · rename_i ds e
    obtain ⟨b, vs, rfl, hb, r⟩ := (c _ e).lst
    refine ⟨b, rfl, ⟨vs, .of hb⟩, hw [.ref b] _ _ E (fun _ _ _ _ _ h => h) rfl h0 fun i σ τ τ2 θ θ2 H s ht ht2 h ok => ?_⟩
    obtain ⟨p', rfl, hl', hS, c'⟩ := h.at1 ht
    obtain ⟨b', vs', e', hb', r'⟩ := (c' _ ok).lst
    cases e'
    refine ⟨fun d e => ?_, fun e => ⟨vs', .of hb', List.getElem?_eq_none_iff.mp (r'.none e)⟩⟩
    obtain ⟨v, e1, r1⟩ := r'.get e
    refine ⟨⟨vs', v, .of hb', e1⟩, fun x H' y => ?_⟩
    obtain ⟨rfl, y⟩ := y
    have := y vs' (.of hb')
    rw [e1] at this; cases this
    exact .snoc (hS.push r1) hl' rfl
  · rename_i ds e
    obtain ⟨b, vs, rfl, hb, r⟩ := (c _ e).con
    refine ⟨b, rfl, ⟨vs, hb⟩, hw [.ref b] _ _ E (fun _ _ _ _ _ h => h) rfl h0 fun i σ τ τ2 θ θ2 H s ht ht2 h ok => ?_⟩
    obtain ⟨p', rfl, hl', hS, c'⟩ := h.at1 ht
    obtain ⟨b', vs', e', hb', r'⟩ := (c' _ ok).con
    cases e'
    refine ⟨fun d e => ?_, fun e => ⟨vs', hb', List.getElem?_eq_none_iff.mp (r'.none e)⟩⟩
    obtain ⟨v, e1, r1⟩ := r'.get e
    refine ⟨⟨vs', v, hb', e1⟩, fun x H' y => ?_⟩
    obtain ⟨rfl, y⟩ := y
    have := y vs' (hb')
    rw [e1] at this; cases this
    exact .snoc (hS.push r1) hl' rfl
  · exact hw.elim
noncomputable def zItT (fa : SD → R Vl) : SD → R Src := fun s => (fa s).bind fun a s1 => match s1.cont a with
  | some (.tup ds) => .ok ⟨[a], fun s => s.cont a = some (.tup ds), ds⟩ s1
  | _ => .bad
theorem RI.tup {te : TE} {fa : SD → R Vl} (ha : RE G W te fa) : RI G W (iTup G.K te) (zItT fa) := by
  intro E σ τ H s θ Q hN hR hw
  unfold zItT at hw
  rw [Wp_bind] at hw
  refine ha E σ τ H s θ _ hN hR (hw.mono (fun a s1 hw v H1 h1 => ?_) fun _ _ _ h => h)
  have h0 := h1
  obtain ⟨p, rfl, hl, h⟩ := h1.unsnoc
  obtain ⟨h2, c, _⟩ := last1 hl h
  split at hw
  · rename_i ds e
    obtain ⟨b, vs, rfl, hb, r⟩ := (c _ e).tup
    refine ⟨b, rfl, ⟨vs, .of hb⟩, hw [.ref b] _ _ E (fun _ _ _ _ _ h => h) rfl h0 fun i σ τ τ2 θ θ2 H s ht ht2 h ok => ?_⟩
    obtain ⟨p', rfl, hl', hS, c'⟩ := h.at1 ht
    obtain ⟨b', vs', e', hb', r'⟩ := (c' _ ok).tup
    cases e'
    refine ⟨fun d e => ?_, fun e => ⟨vs', .of hb', List.getElem?_eq_none_iff.mp (r'.none e)⟩⟩
    obtain ⟨v, e1, r1⟩ := r'.get e
    refine ⟨⟨vs', v, .of hb', e1⟩, fun x H' y => ?_⟩
    obtain ⟨rfl, y⟩ := y
    have := y vs' (.of hb')
    rw [e1] at this; cases this
    exact .snoc (hS.push r1) hl' rfl
  · exact hw.elim
def signs (z : Str) : List D := z.cps.toList.map fun c => .str ⟨#[c]⟩
def zItS (fa : SD → R Vl) : SD → R Src := fun s => (fa s).bind fun a s1 => match a with
  | .d (.str z) => .ok ⟨[a], fun _ => True, signs z⟩ s1
  | _ => .bad
theorem RI.str {te : TE} {fa : SD → R Vl} (ha : RE G W te fa) : RI G W (iStr te) (zItS fa) := by
  intro E σ τ H s θ Q hN hR hw
  unfold zItS at hw
  rw [Wp_bind] at hw
  refine ha E σ τ H s θ _ hN hR (hw.mono (fun a s1 hw v H1 h1 => ?_) fun _ _ _ h => h)
  split at hw
  · rename_i z
    obtain ⟨p, rfl, r⟩ := h1.last
    obtain rfl : v = .str z := r
    refine ⟨z, rfl, hw [.str z] _ _ E (fun _ _ _ _ _ h => h) rfl h1 fun i σ τ τ2 θ θ2 H s ht ht2 h ok => ?_⟩
    have sz : (signs z).length = z.cps.size := by simp [signs]
    refine ⟨fun d e => ?_, fun e => ?_⟩
    · have hi : i < z.cps.size := by rw [← sz]; exact lt_of_get e
      refine ⟨hi, fun x H' y => ?_⟩
      obtain ⟨rfl, c, e1, rfl⟩ := y
      unfold signs at e
      rw [List.getElem?_map, Array.getElem?_toList, e1] at e
      cases e
      exact h.push fun _ => rfl
    · show z.cps.size ≤ i
      rw [← sz]
      exact List.getElem?_eq_none_iff.mp e
  · exact hw.elim
/-- lo, lo + 1, .. -/
def upTo (lo : Int) (n : Nat) : List D := (List.range n).map fun i => .int (lo + (i : Nat))
theorem upTo_get {lo : Int} {n i : Nat} : (upTo lo n)[i]? = if i < n then some (.int (lo + i)) else none := by
  unfold upTo
  rw [List.getElem?_map]
  by_cases c : i < n
  · rw [List.getElem?_range c, if_pos c]; rfl
  · rw [List.getElem?_eq_none (by simpa using c), if_neg c]; rfl
theorem walk_rng {lo : Int} {n : Nat} : Walk G E (Itr lo n) ⟨[], fun _ => True, upTo lo n⟩ [] := by
  intro i σ τ τ2 θ θ2 H s ht ht2 h ok
  refine ⟨fun d e => ?_, fun e => ?_⟩
  · rw [upTo_get] at e
    split at e
    · rename_i c
      cases e
      refine ⟨c, fun x H' y => ?_⟩
      obtain ⟨rfl, rfl⟩ := y
      exact h.push fun _ => rfl
    · cases e
  · rw [upTo_get] at e
    split at e
    · cases e
    · rename_i c; exact Nat.le_of_not_lt c
def oI : D → Option Int
  | .int i => some i
  | _ => none
noncomputable def zRg1 (fr : SD → R (List D)) : SD → R Src := fun s => (fr s).bind fun ds s1 => match ds with
  | [.int j] => if -(2 ^ 62) ≤ j ∧ j < 2 ^ 62 then .ok ⟨[], fun _ => True, upTo 0 j.toNat⟩ s1 else .bad
  | _ => .bad
noncomputable def zRg2 (fr : SD → R (List D)) : SD → R Src := fun s => (fr s).bind fun ds s1 => match ds with
  | [.int i, .int j] => if -(2 ^ 62) ≤ i ∧ i < 2 ^ 62 ∧ -(2 ^ 62) ≤ j ∧ j < 2 ^ 62 then .ok ⟨[], fun _ => True, upTo i (j - i).toNat⟩ s1 else .bad
  | _ => .bad
theorem Reps.ints1 {i : Int} {vs : List V} (r : Reps G p [.int i] vs) : vs = [.int i] := by
  obtain ⟨v, r1, rfl, h1, rfl⟩ := r
  rw [show v = .int i from h1]
theorem Reps.ints2 {i j : Int} {vs : List V} (r : Reps G p [.int i, .int j] vs) : vs = [.int i, .int j] := by
  obtain ⟨v, r1, rfl, h1, h2⟩ := r
  rw [show v = .int i from h1, h2.ints1]
theorem RI.rg1 {t : TA} {fr : SD → R (List D)} (ha : RA G W t fr) : RI G W (iRng1 t) (zRg1 fr) := by
  intro E σ τ H s θ Q hN hR hw
  unfold zRg1 at hw
  rw [Wp_bind] at hw
  refine ha E σ τ H s θ _ hN hR (hw.mono (fun ds s1 hw vs H1 h1 => ?_) fun _ _ _ h => h)
  obtain ⟨p, rfl, hl, h, r⟩ := h1.args hR.tlen
  split at hw
  · rename_i j
    split at hw
    · rename_i c
      exact ⟨j, r.ints1, c.1, c.2, hw [] _ _ E (fun _ _ _ _ _ h => h) rfl (by simpa using (show Rel G E σ τ p.H s1 θ from ⟨p, rfl, hl, h⟩)) walk_rng⟩
    · exact hw.elim
  · exact hw.elim
theorem RI.rg2 {t : TA} {fr : SD → R (List D)} (ha : RA G W t fr) : RI G W (iRng2 t) (zRg2 fr) := by
  intro E σ τ H s θ Q hN hR hw
  unfold zRg2 at hw
  rw [Wp_bind] at hw
  refine ha E σ τ H s θ _ hN hR (hw.mono (fun ds s1 hw vs H1 h1 => ?_) fun _ _ _ h => h)
  obtain ⟨p, rfl, hl, h, r⟩ := h1.args hR.tlen
  split at hw
  · rename_i i j
    split at hw
    · rename_i c
      exact ⟨i, j, r.ints2, c, hw [] _ _ E (fun _ _ _ _ _ h => h) rfl (by simpa using (show Rel G E σ τ p.H s1 θ from ⟨p, rfl, hl, h⟩)) walk_rng⟩
    · exact hw.elim
  · exact hw.elim
/-- with their places -/
def places (ds : List D) : List D := ds.zipIdx.map fun q => .tup [.int (q.2 : Nat), q.1]
theorem places_get {ds : List D} {i : Nat} : (places ds)[i]? = ds[i]?.map fun d => .tup [.int (i : Nat), d] := by
  unfold places
  rw [List.getElem?_map, List.getElem?_zipIdx]
  cases ds[i]? <;> simp
noncomputable def zEnum (fa : SD → R Vl) : SD → R Src := fun s => (fa s).bind fun a s1 => match s1.cont a with
  | some (.lst ds) => .ok ⟨[a], fun s => s.cont a = some (.lst ds), places ds⟩ s1
  | _ => .bad
theorem RI.enum {te : TE} {fa : SD → R Vl} (ha : RE G W te fa) : RI G W (iEnum G.K (tCons te tNil)) (zEnum fa) := by
  intro E σ τ H s θ Q hN hR hw
  unfold zEnum at hw
  rw [Wp_bind] at hw
  refine ha E σ τ H s θ _ hN hR (hw.mono (fun a s1 hw v H1 h1 => ?_) fun _ _ _ h => h)
  have h0 := h1
  obtain ⟨p, rfl, hl, h⟩ := h1.unsnoc
  obtain ⟨h2, c, _⟩ := last1 hl h
  split at hw
  · rename_i ds e
    obtain ⟨b, vs, rfl, hb, r⟩ := (c _ e).lst
    refine ⟨b, vs, rfl, .of hb, hw [.ref b] _ _ E (fun _ _ _ _ _ h => h) rfl h0 fun i σ τ τ2 θ θ2 H s ht ht2 h ok => ?_⟩
    obtain ⟨p', rfl, hl', hS, c'⟩ := h.at1 ht
    obtain ⟨b', vs', e', hb', r'⟩ := (c' _ ok).lst
    cases e'
    refine ⟨fun d e => ?_, fun e => ?_⟩
    · have e : (places ds)[i]? = some d := e
      rw [places_get] at e
      obtain ⟨d, ee, rfl⟩ := Option.map_eq_some_iff.mp e
      obtain ⟨v, e1, r1⟩ := r'.get ee
      refine ⟨⟨vs', v, .of hb', e1⟩, fun x H' y => ?_⟩
      obtain ⟨T, z, rfl, hT, rfl, y⟩ := y
      have := y vs' (.of hb')
      rw [e1] at this; cases this
      exact .snoc ((hS.alloc hT).push (x := .tup [.int (i : Nat), d]) ⟨T, _, rfl, ⟨(hS.fresh hT).2, upd_same⟩, _, _, rfl, rfl, _, _, rfl, r1.mono (le_alloc hT), rfl⟩) hl' rfl
    · have e : (places ds)[i]? = none := e
      rw [places_get, Option.map_eq_none_iff] at e
      exact ⟨vs', .of hb', List.getElem?_eq_none_iff.mp (r'.none e)⟩
  · exact hw.elim
/-- backwards -/
noncomputable def zRev (fa : SD → R Vl) : SD → R Src := fun s => (fa s).bind fun a s1 => match s1.cont a with
  | some (.lst ds) => .ok ⟨[a], fun s => s.cont a = some (.lst ds), ds.reverse⟩ s1
  | _ => .bad
theorem RI.rev {te : TE} {fa : SD → R Vl} (ha : RE G W te fa) : RI G W (iRev G.K (tCons te tNil)) (zRev fa) := by
  intro E σ τ H s θ Q hN hR hw
  unfold zRev at hw
  rw [Wp_bind] at hw
  refine ha E σ τ H s θ _ hN hR (hw.mono (fun a s1 hw v H1 h1 => ?_) fun _ _ _ h => h)
  have h0 := h1
  obtain ⟨p, rfl, hl, h⟩ := h1.unsnoc
  obtain ⟨h2, c, _⟩ := last1 hl h
  split at hw
  · rename_i ds e
    obtain ⟨b, vs, rfl, hb, r⟩ := (c _ e).lst
    refine ⟨b, vs, rfl, .of hb, hw [.ref b] _ _ E (fun _ _ _ _ _ h => h) rfl h0 fun i σ τ τ2 θ θ2 H s ht ht2 h ok => ?_⟩
    obtain ⟨p', rfl, hl', hS, c'⟩ := h.at1 ht
    obtain ⟨b', vs', e', hb', r'⟩ := (c' _ ok).lst
    cases e'
    have ln := r.len
    have ln' := r'.len
    refine ⟨fun d e => ?_, fun e => ?_⟩
    · have e : ds.reverse[i]? = some d := e
      have hi : i < ds.length := by have := lt_of_get e; simpa using this
      rw [List.getElem?_reverse hi] at e
      obtain ⟨v, e1, r1⟩ := r'.get e
      have e1' : vs'[vs.length - 1 - i]? = some v := by rw [ln]; exact e1
      refine ⟨⟨by omega, vs', v, .of hb', e1'⟩, fun x H' y => ?_⟩
      obtain ⟨rfl, y⟩ := y
      have := y vs' (.of hb')
      rw [e1'] at this; cases this
      exact .snoc (hS.push r1) hl' rfl
    · have e : ds.reverse[i]? = none := e
      have := List.getElem?_eq_none_iff.mp e
      show vs.length ≤ i
      simp at this
      omega
  · exact hw.elim
theorem EnLe.rel {E' : En} (l : EnLe G E E') (h : Rel G E' σ τ H s θ) : Rel G E σ τ H s θ := let ⟨p, e, hl, h⟩ := h; ⟨p, e, hl, l _ _ _ _ _ h⟩
theorem EnLe.xp {E' : En} (l : EnLe G E E') {c : Str} {fs : List (Str × D)} (h : XP G W E τ θ c fs s) : XP G W E' τ θ c fs s := fun cls d σ' H' ⟨p, e, hl, h1, x⟩ => h cls d σ' H' ⟨p, e, hl, l _ _ _ _ _ h1, x⟩
/-! ### for -/
/-- turn by turn; at each the walked thing is as it was -/
noncomputable def zLoop (ok : SD → Prop) (body : D → SD → R Fl) : List D → SD → R Fl
  | [], s => if ok s then .ok .nx s else .bad
  | d :: ds, s => if ok s then (body d s).bind fun fl s1 => match fl with
      | .nx => zLoop ok body ds s1
      | .ct => zLoop ok body ds s1
      | .bk => .ok .nx s1
      | .rt a => .ok (.rt a) s1
    else .bad
noncomputable def zFor (fi : SD → R Src) (fz : Vl → SD → R Unit) (fb : SD → R Fl) : SD → R Fl := fun s => (fi s).bind fun src s1 => if Nl src.hs then zLoop src.ok (fun d s => (fz (.d d) s).bind fun _ s2 => fb s2) src.ds s1 else .bad
theorem Nl.app {l l' : List Vl} (h : Nl l) (h' : Nl l') : Nl (l ++ l') := fun e he => (List.mem_append.mp he).elim (h e) (h' e)
theorem RS.for' {is : List Nat} {wi : TI} {g : TG} {tb : TS} {fi : SD → R Src} {fz : Vl → SD → R Unit} {fb : SD → R Fl} (hi : RI G W wi fi) (hg : RG G W is g fz) (hb : RS G W tb fb) : RS G W (tFor wi g tb) (zFor fi fz fb) := by
  intro E σ τ H s θ D hN hR hw
  unfold zFor at hw
  rw [Wp_bind] at hw
  refine hi E σ τ H s θ _ hN hR (hw.mono (fun src s1 hw vs H1 J E' el hv h1 wk => ?_) fun _ _ _ h => h)
  split at hw
  · rename_i hNs
    have ht := hR.tlen
    have hN1 : Nl (θ ++ src.hs) := hN.app hNs
    refine ⟨fun i m σ H => m = src.ds.length - i ∧ i ≤ src.ds.length ∧ ∃ s, Rel G E' σ (τ ++ vs) H s (θ ++ src.hs) ∧ Wp (zLoop src.ok (fun d s => (fz (.d d) s).bind fun _ s2 => fb s2) (src.ds.drop i) s) (FP G E τ θ D) (XP G W E τ θ), ⟨src.ds.length, by simp, Nat.zero_le _, s1, h1, by simpa using hw⟩, ?_⟩
    rintro i m σ2 H2 ⟨rfl, hi2, s2, h2, hw2⟩
    have h2' : Rel G E' σ2 (τ ++ vs ++ []) H2 s2 (θ ++ src.hs ++ []) := by simpa using h2
    by_cases c : i < src.ds.length
    · have ed : src.ds[i]? = some src.ds[i] := List.getElem?_eq_getElem c
      rw [List.drop_eq_getElem_cons c] at hw2
      unfold zLoop at hw2
      split at hw2
      · rename_i ok
        obtain ⟨go, yl⟩ := (wk i σ2 τ [] θ [] H2 s2 ht rfl h2' ok).1 _ ed
        refine .inr ⟨go, fun σ' H' => ∃ s, Rel G E' σ' (τ ++ vs) H' s (θ ++ src.hs) ∧ Wp (zLoop src.ok (fun d s => (fz (.d d) s).bind fun _ s2 => fb s2) (src.ds.drop (i + 1)) s) (FP G E τ θ D) (XP G W E τ θ), fun σ' H' ⟨s, q1, q2⟩ => ⟨_, by omega, rfl, by omega, s, q1, q2⟩, fun x H' y => ?_⟩
        have hx : Rel G E' σ2 (τ ++ vs ++ [x]) H' s2 (θ ++ src.hs ++ [.d src.ds[i]]) := by simpa using yl x H' y
        rw [Wp_bind, Wp_bind] at hw2
        refine hg E' σ2 (τ ++ vs) H' s2 (θ ++ src.hs) x _ _ hN1 hx (hw2.mono (fun _ s3 hw3 σ3 H3 h3 _ => ?_) fun _ _ _ h => el.xp (h.upEnd ht))
        refine hb E' σ3 (τ ++ vs) H3 s3 (θ ++ src.hs) _ hN1 h3 (hw3.mono (fun fl s4 hw4 => ?_) fun _ _ _ h => el.xp (h.upEnd ht))
        cases fl with
        | nx => exact fun σ' H' h' => ⟨s4, h', hw4⟩
        | ct => exact fun σ' H' h' => ⟨s4, h', hw4⟩
        | bk => exact fun σ' H' h' => hw4 σ' H' ((el.rel h').dropEnd ht)
        | rt a => exact ⟨hw4.1, fun σ' v H' h' => hw4.2 σ' v H' ((el.rel h').dropMid ht)⟩
      · exact hw2.elim
    · have e : src.ds[i]? = none := List.getElem?_eq_none (by omega)
      rw [List.drop_eq_nil_of_le (by omega)] at hw2
      unfold zLoop at hw2
      split at hw2
      · rename_i ok
        exact .inl ⟨(wk i σ2 τ [] θ [] H2 s2 ht rfl h2' ok).2 e, hw2 _ _ ((el.rel h2).dropEnd ht)⟩
      · exact hw2.elim
  · exact hw.elim
/-! ### while -/
def zWhN (c : SD → R Bool) (f : SD → R Fl) : Nat → SD → R Fl
  | 0, _ => .bad
  | n + 1, s => (c s).bind fun b s1 => if b = true then (f s1).bind fun fl s2 => match fl with
      | .nx => zWhN c f n s2
      | .ct => zWhN c f n s2
      | .bk => .ok .nx s2
      | .rt a => .ok (.rt a) s2
    else .ok .nx s1
noncomputable def zWh (c : SD → R Bool) (f : SD → R Fl) : SD → R Fl := fun s => if h : ∃ n, zWhN c f n s ≠ .bad then zWhN c f (choose h) s else .bad
theorem RS.while' {c : TT} {tb : TS} {fc : SD → R Bool} {fb : SD → R Fl} (hc : RT G W c fc) (hb : RS G W tb fb) : RS G W (tWhile c tb) (zWh fc fb) := by
  intro E σ τ H s θ D hN hR hw
  unfold zWh at hw
  split at hw
  · rename_i hn
    refine ⟨fun m σ H => ∃ s, Rel G E σ τ H s θ ∧ Wp (zWhN fc fb m s) (FP G E τ θ D) (XP G W E τ θ), ⟨_, s, hR, hw⟩, ?_⟩
    rintro m σ2 H2 ⟨s2, h2, hw2⟩
    cases m with
    | zero => exact hw2.elim
    | succ m =>
      unfold zWhN at hw2
      rw [Wp_bind] at hw2
      refine hc E σ2 τ H2 s2 θ _ hN h2 (hw2.mono (fun b s3 hw3 H3 h3 => ?_) fun _ _ _ h => h)
      split
      · rename_i cb
        rw [if_pos cb, Wp_bind] at hw3
        refine ⟨fun σ' H' => ∃ s, Rel G E σ' τ H' s θ ∧ Wp (zWhN fc fb m s) (FP G E τ θ D) (XP G W E τ θ), fun σ' H' q => ⟨m, Nat.lt_succ_self m, q⟩, ?_⟩
        refine hb E σ2 τ H3 s3 θ _ hN h3 (hw3.mono (fun fl s4 hw4 => ?_) fun _ _ _ h => h)
        cases fl with
        | nx => exact fun σ' H' h' => ⟨s4, h', hw4⟩
        | ct => exact fun σ' H' h' => ⟨s4, h', hw4⟩
        | bk => exact hw4
        | rt a => exact hw4
      · rename_i cb
        rw [if_neg cb] at hw3
        exact hw3 _ _ h3
  · exact hw.elim
theorem zWhN_more {c : SD → R Bool} {f : SD → R Fl} : ∀ {n : Nat} {s : SD}, zWhN c f n s ≠ .bad → zWhN c f (n + 1) s = zWhN c f n s
  | 0, s, h => (h rfl).elim
  | n + 1, s, h => by
    have e1 : zWhN c f (n + 1) s = (c s).bind fun b s1 => if b = true then (f s1).bind fun fl s2 => match fl with
      | .nx => zWhN c f n s2
      | .ct => zWhN c f n s2
      | .bk => .ok .nx s2
      | .rt a => .ok (.rt a) s2
      else .ok .nx s1 := rfl
    have e2 : zWhN c f (n + 2) s = (c s).bind fun b s1 => if b = true then (f s1).bind fun fl s2 => match fl with
      | .nx => zWhN c f (n + 1) s2
      | .ct => zWhN c f (n + 1) s2
      | .bk => .ok .nx s2
      | .rt a => .ok (.rt a) s2
      else .ok .nx s1 := rfl
    rw [e2]
    rw [e1] at h ⊢
    cases q : c s with
    | bad => rfl
    | ex _ _ _ => rfl
    | ok b s1 =>
      rw [q] at h
      show (if b = true then _ else _) = (if b = true then _ else _)
      have h : (if b = true then (f s1).bind fun fl s2 => match fl with
        | .nx => zWhN c f n s2
        | .ct => zWhN c f n s2
        | .bk => .ok .nx s2
        | .rt a => .ok (.rt a) s2
        else .ok .nx s1) ≠ .bad := h
      split
      · rename_i cb
        rw [if_pos cb] at h
        cases q2 : f s1 with
        | bad => rfl
        | ex _ _ _ => rfl
        | ok fl s2 =>
          rw [q2] at h
          cases fl with
          | nx => exact zWhN_more h
          | ct => exact zWhN_more h
          | bk => rfl
          | rt a => rfl
      · rfl
theorem zWhN_le {c : SD → R Bool} {f : SD → R Fl} {n : Nat} {s : SD} (h : zWhN c f n s ≠ .bad) : ∀ k : Nat, zWhN c f (n + k) s = zWhN c f n s
  | 0 => rfl
  | k + 1 => by
    have ih := zWhN_le h k
    rw [← Nat.add_assoc, zWhN_more (by rw [ih]; exact h), ih]
theorem zWh_of {c : SD → R Bool} {f : SD → R Fl} {n : Nat} {s : SD} (h : zWhN c f n s ≠ .bad) : zWh c f s = zWhN c f n s := by
  have hn : ∃ n, zWhN c f n s ≠ .bad := ⟨n, h⟩
  unfold zWh
  rw [dif_pos hn]
  have h2 := choose_spec hn
  generalize choose hn = k at *
  rcases Nat.le_total n k with l | l
  · obtain ⟨j, rfl⟩ := Nat.le.dest l
    exact zWhN_le h j
  · obtain ⟨j, rfl⟩ := Nat.le.dest l
    exact (zWhN_le h2 j).symm
/-- one turn -/
theorem zWh_eq {c : SD → R Bool} {f : SD → R Fl} {s : SD} : zWh c f s = (c s).bind fun b s1 => if b = true then (f s1).bind fun fl s2 => match fl with
      | .nx => zWh c f s2
      | .ct => zWh c f s2
      | .bk => .ok .nx s2
      | .rt a => .ok (.rt a) s2
      else .ok .nx s1 := by
  have one : ∀ n, zWhN c f (n + 1) s = (c s).bind fun b s1 => if b = true then (f s1).bind fun fl s2 => match fl with
      | .nx => zWhN c f n s2
      | .ct => zWhN c f n s2
      | .bk => .ok .nx s2
      | .rt a => .ok (.rt a) s2
      else .ok .nx s1 := fun n => rfl
  have bad : ∀ s2, (∀ n, zWhN c f n s2 = .bad) → zWh c f s2 = .bad := fun s2 h => dif_neg fun ⟨n, q⟩ => q (h n)
  cases q : c s with
  | bad => exact bad _ fun n => by cases n with
    | zero => rfl
    | succ n => rw [one, q]; rfl
  | ex a b d => rw [zWh_of (n := 1) (by rw [one, q]; intro z; cases z), one, q]; rfl
  | ok b s1 =>
    cases b with
    | false => rw [zWh_of (n := 1) (by rw [one, q]; intro z; cases z), one, q]; rfl
    | true =>
      show _ = (f s1).bind _
      have one' : ∀ n, zWhN c f (n + 1) s = (f s1).bind fun fl s2 => match fl with
        | .nx => zWhN c f n s2
        | .ct => zWhN c f n s2
        | .bk => .ok .nx s2
        | .rt a => .ok (.rt a) s2 := fun n => by rw [one, q]; rfl
      cases q2 : f s1 with
      | bad => exact bad _ fun n => by cases n with
        | zero => rfl
        | succ n => rw [one', q2]; rfl
      | ex a b d => rw [zWh_of (n := 1) (by rw [one', q2]; intro z; cases z), one', q2]; rfl
      | ok fl s2 =>
        have go : (∀ n, zWhN c f (n + 1) s = zWhN c f n s2) → zWh c f s = zWh c f s2 := fun e => by
          by_cases h : ∃ n, zWhN c f n s2 ≠ .bad
          · obtain ⟨n, h⟩ := h
            rw [zWh_of h, zWh_of (n := n + 1) (by rw [e]; exact h), e]
          · have h' : ∀ n, zWhN c f n s2 = .bad := fun n => Classical.byContradiction fun z => h ⟨n, z⟩
            rw [bad s2 h']
            exact bad _ fun n => by cases n with
              | zero => rfl
              | succ n => rw [e, h']
        cases fl with
        | nx => exact go fun n => by rw [one', q2]; rfl
        | ct => exact go fun n => by rw [one', q2]; rfl
        | bk => rw [zWh_of (n := 1) (by rw [one', q2]; intro z; cases z), one', q2]; rfl
        | rt a => rw [zWh_of (n := 1) (by rw [one', q2]; intro z; cases z), one', q2]; rfl
end
end Z

/-! the value level: comprehensions -/
namespace Z
open PySem PySem.Spec PyProof.Rows L2 M
open Classical
def zwipe (l : List (Option Vl)) : List Nat → List (Option Vl)
  | [] => l
  | v :: vs => (zwipe l vs).set v none
def SD.wipe (s : SD) (is : List Nat) : SD := { s with sl := zwipe s.sl is }
def R.nx {α : Type} (m : R α) : R α := match m with
  | .ok a s => .ok a s
  | _ => .bad
theorem Wp_nx {α : Type} {m : R α} {Q : α → SD → Prop} {E : XQ} : Wp m.nx Q E = Wp m Q (fun _ _ _ => False) := by
  cases m <;> rfl
abbrev WF : WX := fun _ _ _ _ => False
noncomputable def zLcL (ok : SD → Prop) (fz : Vl → SD → R Unit) (ft : SD → R Bool) (fe : SD → R Vl) (is : List Nat) : List D → List D → SD → R (List D)
  | [], acc, s => if ok s then .ok acc s else .bad
  | d :: ds, acc, s => if ok s then (fz (.d d) s).nx.bind fun _ s1 => (ft s1).nx.bind fun b s2 => if b = true then (fe s2).nx.bind fun a s3 => (s3.fix a).bind fun y s4 =>
      if acc.length < sizeLine then zLcL ok fz ft fe is ds (acc ++ [y]) (s4.wipe is) else .bad
      else zLcL ok fz ft fe is ds acc (s2.wipe is)
    else .bad
noncomputable def zLc (fi : SD → R Src) (fz : Vl → SD → R Unit) (ft : SD → R Bool) (fe : SD → R Vl) (is : List Nat) : SD → R Vl := fun s => (fi s).bind fun src s1 => if Nl src.hs then (zLcL src.ok fz ft fe is src.ds [] (s1.wipe is)).nx.bind fun acc s2 => .ok (.own (.lst acc)) s2 else .bad
def zYes : SD → R Bool := fun s => .ok true s
section
variable {G : Gc} {W : WX} {E : En} {σ σ' σ2 : L2.St} {τ τ' τ2 : List V} {H : Hp} {s s' : SD} {θ θ' θ2 : List Vl} {v u : V} {a b : Vl} {x y : D} {p : Wr} {Q : VK} {m : Nat} {w w' : List (Option V)} {ŵ ŵ' : List (Option Vl)} {S : Sto} {k : Nat} {is : List Nat}
theorem zwipe_len {l : List (Option Vl)} : ∀ {is : List Nat}, (zwipe l is).length = l.length
  | [] => rfl
  | v :: vs => by unfold zwipe; rw [List.length_set, zwipe_len]
theorem zwipe_some {l : List (Option Vl)} {i : Nat} {x : Vl} : ∀ {vs : List Nat}, (zwipe l vs)[i]? = some (some x) → l[i]? = some (some x) ∧ i ∉ vs
  | [], h => ⟨h, by simp⟩
  | v :: vs, h => by
    unfold zwipe at h
    rcases set_get h with ⟨rfl, q⟩ | ⟨c, q⟩
    · cases q
    · obtain ⟨h1, h2⟩ := zwipe_some q
      exact ⟨h1, by simp only [List.mem_cons, not_or]; exact ⟨fun e => c e.symm, h2⟩⟩
theorem wipe_ne {i : Nat} : ∀ {vs : List Nat} {σ : L2.St}, i ∉ vs → (wipe σ vs)[i]? = σ[i]?
  | [], _, _ => rfl
  | v :: vs, σ, h => by
    simp only [List.mem_cons, not_or] at h
    unfold wipe
    rw [List.getElem?_set_ne (fun e => h.1 e.symm), wipe_ne h.2]
theorem wipe_in {i : Nat} : ∀ {vs : List Nat} {σ : L2.St}, i ∈ vs → i < σ.length → (wipe σ vs)[i]? = some none
  | v :: vs, σ, h, hl => by
    unfold wipe
    by_cases c : v = i
    · subst c
      rw [List.getElem?_set_self (by rw [wipe_length]; exact hl)]
    · rw [List.getElem?_set_ne c, wipe_in ((List.mem_cons.mp h).resolve_left fun e => c e.symm) hl]
theorem wipe_only (o : Only is σ σ') : wipe σ' is = wipe σ is := by
  apply List.ext_getElem?
  intro i
  by_cases c : i ∈ is
  · by_cases l : i < σ.length
    · rw [wipe_in c (by rw [o.1]; exact l), wipe_in c l]
    · rw [List.getElem?_eq_none (by rw [wipe_length, o.1]; omega), List.getElem?_eq_none (by rw [wipe_length]; omega)]
  · rw [wipe_ne c, wipe_ne c, o.2 i c]
theorem wipe_wipe : wipe (wipe σ is) is = wipe σ is := wipe_only ⟨wipe_length _ _, fun _ h => wipe_ne h⟩
/-- where nothing is known the value may be another -/
theorem Sm.repl (h : Sm G E m p w ŵ S) (hl : w'.length = w.length) (hw : ∀ (k : Nat) (e : Vl), ŵ[k]? = some (some e) → w'[k]? = w[k]?) (hn : ∀ (k j : Nat), ŵ[k]? = some (some (.loc j)) → False) : Sm G E m p w' ŵ S := by
  refine { h with len := hl.trans h.len, ent := fun k e q => ?_, own := fun k y a q1 q2 => h.own k y a q1 ((hw _ _ q1).symm.trans q2), sep := fun j k y z a q1 q2 q3 q4 => h.sep j k y z a q1 q2 ((hw _ _ q1).symm.trans q3) ((hw _ _ q2).symm.trans q4) }
  obtain ⟨v, e1, r⟩ := h.ent k e q
  refine ⟨v, (hw _ _ q).trans e1, ?_⟩
  cases e with
  | d x => exact r
  | own x => exact r
  | loc j => exact (hn k j q).elim
/-- what is known may be forgotten -/
theorem Sm.less (h : Sm G E m p w ŵ S) (hl : ŵ'.length = ŵ.length) (hw : ∀ (k : Nat) (e : Vl), ŵ'[k]? = some (some e) → ŵ[k]? = some (some e)) : Sm G E m p w ŵ' S :=
  { h with len := h.len.trans hl.symm, ent := fun k e q => h.ent k e (hw k e q), own := fun k y a q1 q2 => h.own k y a (hw _ _ q1) q2, sep := fun j k y z a q1 q2 q3 q4 => h.sep j k y z a (hw _ _ q1) (hw _ _ q2) q3 q4 }
def Blank (s : SD) (is : List Nat) : Prop := ∀ i ∈ is, ∀ e, s.sl[i]? ≠ some (some e)
theorem blank_wipe : Blank (s.wipe is) is := fun i hi e q => (zwipe_some q).2 hi
theorem Rel.wipe (h : Rel G E σ τ H s θ) : Rel G E σ τ H (s.wipe is) θ := by
  obtain ⟨p, e, hl, h⟩ := h
  refine ⟨p, e, hl.trans zwipe_len.symm, ?_⟩
  show Sm G E (zwipe s.sl is).length p _ _ _
  rw [zwipe_len]
  refine h.less (by show (zwipe s.sl is ++ _).length = _; simp [zwipe_len]) fun k e q => ?_
  have q : (zwipe s.sl is ++ θ.map some)[k]? = some (some e) := q
  by_cases c : k < s.sl.length
  · rw [List.getElem?_append_left (by rw [zwipe_len]; exact c)] at q
    rw [List.getElem?_append_left c]
    exact (zwipe_some q).1
  · rw [List.getElem?_append_right (by rw [zwipe_len]; omega), zwipe_len] at q
    rw [List.getElem?_append_right (by omega)]
    exact q
theorem Rel.repl (h : Rel G E σ τ H s θ) (hn : Nl θ) (hb : Blank s is) (o : Only is σ σ') : Rel G E σ' τ H s θ := by
  obtain ⟨p, e, hl, h⟩ := h
  refine ⟨p, e, o.1.trans hl, h.repl (by simp [o.1]) (fun k e q => ?_) fun k j q => noLoc h hn q⟩
  by_cases c : k < s.sl.length
  · have ni : k ∉ is := fun hi => by
      rw [List.getElem?_append_left c] at q
      exact hb k hi e q
    rw [List.getElem?_append_left (by rw [o.1, hl]; exact c), List.getElem?_append_left (by rw [hl]; exact c), o.2 k ni]
  · rw [List.getElem?_append_right (by rw [o.1, hl]; omega), List.getElem?_append_right (by rw [hl]; omega), o.1]
theorem only_wipe : Only is σ (wipe σ is) := ⟨wipe_length _ _, fun _ h => wipe_ne h⟩
theorem Only.symm (o : Only is σ σ') : Only is σ' σ := ⟨o.1.symm, fun k h => (o.2 k h).symm⟩
theorem Only.trans (o : Only is σ σ') (o' : Only is σ' σ2) : Only is σ σ2 := ⟨o'.1.trans o.1, fun k h => (o'.2 k h).trans (o.2 k h)⟩
/-- a list of one's own, last but one, grows by the last -/
theorem Rel.grow {D0 : Addr} {acc : List D} (h : Rel G E σ (τ ++ [.ref D0] ++ [v]) H s (θ ++ [.own (.lst acc)] ++ [.d x])) (ht : τ.length = θ.length) :
    ∃ vs, H D0 = some (.lst vs) ∧ vs.length = acc.length ∧ Rel G E σ (τ ++ [.ref D0]) (upd H D0 (.lst (vs ++ [v]))) s (θ ++ [.own (.lst (acc ++ [x]))]) := by
  obtain ⟨p, rfl, hl, h⟩ := h.unsnoc
  rw [List.map_append, List.map_append, ← List.append_assoc, ← List.append_assoc, show List.map some [V.ref D0] = [some (.ref D0)] from rfl, show List.map some [Vl.own (.lst acc)] = [some (.own (.lst acc))] from rfl] at h
  have l : (σ ++ τ.map some).length = (s.sl ++ θ.map some).length := by simp [hl, ht]
  obtain ⟨u, e1, r⟩ := h.ent _ _ (snoc_new (l := (s.sl ++ θ.map some) ++ [some (.own (.lst acc))]))
  rw [← snoc_len h.len] at e1
  rw [snoc_new] at e1
  cases e1
  have q1 : (((s.sl ++ θ.map some) ++ [some (Vl.own (.lst acc))]) ++ [some (.d x)])[(s.sl ++ θ.map some).length]? = some (some (.own (.lst acc))) := snoc_old snoc_new
  have q2 : (((σ ++ τ.map some) ++ [some (V.ref D0)]) ++ [some v])[(s.sl ++ θ.map some).length]? = some (some (.ref D0)) := snoc_old (by rw [← l]; exact snoc_new)
  obtain ⟨u, e2, D1, e3, vs, e4, r4⟩ := h.ent _ _ q1
  rw [q2] at e2
  cases e2
  cases e3
  refine ⟨vs, e4, r4.len, ?_⟩
  have o1 := (h.own _ _ _ q1 q2).1
  have l' := le_write (p := p) (o := .lst (vs ++ [v])) o1
  have h2 := h.write (y := .lst (acc ++ [x])) (o := .lst (vs ++ [v])) q1 q2 ⟨_, upd_same, (r4.mono l').append (Reps.one (Rep.mono l' r))⟩
  rw [show (((s.sl ++ θ.map some) ++ [some (Vl.own (.lst acc))]) ++ [some (Vl.d x)]).set (s.sl ++ θ.map some).length (some (.own (.lst (acc ++ [x])))) = ((s.sl ++ θ.map some) ++ [some (.own (.lst (acc ++ [x])))]) ++ [some (.d x)] from by
    rw [set_front (by simp)]
    congr 1
    exact set_last] at h2
  exact .snoc (h2.pop1 (by simp; omega)) hl rfl
theorem fix_len {s s' : SD} {a : Vl} {x : D} (h : s.fix a = .ok x s') : s'.sl.length = s.sl.length := by
  cases a with
  | d y => cases h; rfl
  | own y => cases h; rfl
  | loc k =>
    unfold SD.fix at h
    dsimp only at h
    split at h
    · cases h; simp
    · cases h; rfl
    · cases h
theorem RE.lc {wi : TI} {g : TG} {tt : TT} {te : TE} {fi : SD → R Src} {fz : Vl → SD → R Unit} {ft : SD → R Bool} {fe : SD → R Vl} (hi : RI G W wi fi) (hg : RG G WF is g fz) (hT : RT G WF tt ft) (he : RE G WF te fe) : RE G W (tLc wi g tt te is) (zLc fi fz ft fe is) := by
  intro E σ τ H s θ Q hN hR hw
  unfold zLc at hw
  rw [Wp_bind] at hw
  refine hi E σ τ H s θ _ hN hR (hw.mono (fun src s1 hw vs H1 J E' el hv h1 wk => ?_) fun _ _ _ h => h)
  split at hw
  · rename_i hNs
    have ht := hR.tlen
    have ht1 : (τ ++ vs).length = (θ ++ src.hs).length := by simp [ht, hv]
    have hN1 : Nl (θ ++ src.hs) := hN.app hNs
    intro D0 hD
    have h2 : Rel G E' σ ((τ ++ vs) ++ [.ref D0]) (upd H1 D0 (.lst [])) (s1.wipe is) ((θ ++ src.hs) ++ [.own (.lst [])]) := by
      obtain ⟨p, rfl, hl, h⟩ := h1.wipe (is := is)
      exact .snoc (h.allocOwn hD ⟨[], upd_same, rfl⟩) hl rfl
    let P : List D → SD → Prop := fun acc s2 => ∀ u H', Rel G E σ (τ ++ [u]) H' s2 (θ ++ [.own (.lst acc)]) → Q u H'
    refine ⟨fun i m H => m = src.ds.length - i ∧ i ≤ src.ds.length ∧ ∃ s acc, Rel G E' σ ((τ ++ vs) ++ [.ref D0]) H s ((θ ++ src.hs) ++ [.own (.lst acc)]) ∧ Blank s is ∧ Wp (zLcL src.ok fz ft fe is (src.ds.drop i) acc s) P (fun _ _ _ => False), ⟨src.ds.length, by simp, Nat.zero_le _, s1.wipe is, [], h2, blank_wipe, ?_⟩, ?_⟩
    · rw [Wp_bind, Wp_nx] at hw
      rw [List.drop_zero]
      exact hw
    · rintro i m H2 ⟨rfl, hi2, s2, acc, h2, hb2, hw2⟩
      have hNo : Nl ((θ ++ src.hs) ++ [.own (.lst acc)]) := hN1.snoc fun _ q => nomatch q
      have h3 := h2.repl (σ' := wipe σ is) hNo hb2 only_wipe
      by_cases c : i < src.ds.length
      · have ed : src.ds[i]? = some src.ds[i] := List.getElem?_eq_getElem c
        rw [List.drop_eq_getElem_cons c] at hw2
        unfold zLcL at hw2
        split at hw2
        · rename_i ok
          obtain ⟨go, yl⟩ := (wk i (wipe σ is) τ [.ref D0] θ [.own (.lst acc)] H2 s2 ht rfl h3 ok).1 _ ed
          refine .inr ⟨go, fun H' => ∃ s acc, Rel G E' σ ((τ ++ vs) ++ [.ref D0]) H' s ((θ ++ src.hs) ++ [.own (.lst acc)]) ∧ Blank s is ∧ Wp (zLcL src.ok fz ft fe is (src.ds.drop (i + 1)) acc s) P (fun _ _ _ => False), fun H' ⟨s, acc, q1, q2, q3⟩ => ⟨_, by omega, rfl, by omega, s, acc, q1, q2, q3⟩, fun x H' y => ?_⟩
          have hx := yl x H' y
          rw [Wp_bind, Wp_nx] at hw2
          refine hg E' (wipe σ is) _ H' s2 _ x _ _ hNo hx (hw2.mono (fun _ s3 hw3 σ3 H3 h3 o3 => ?_) fun _ _ _ h => h.elim)
          have ow : Only is σ3 σ := o3.symm.trans only_wipe.symm
          refine ⟨(wipe_only o3).trans wipe_wipe, ?_⟩
          rw [Wp_bind, Wp_nx] at hw3
          refine hT E' σ3 _ H3 s3 _ _ hNo h3 (hw3.mono (fun b s4 hw4 H4 h4 => ?_) fun _ _ _ h => h.elim)
          split
          · rename_i cb
            rw [if_pos cb, Wp_bind, Wp_nx] at hw4
            refine RE.fix he E' σ3 _ H4 s4 _ _ hNo h4 ?_
            unfold zFix zVia
            rw [Wp_bind]
            refine hw4.mono (fun a s5 hw5 => ?_) fun _ _ _ h => h.elim
            rw [Wp_bind] at hw5 ⊢
            cases e5 : s5.fix a with
            | bad => rw [e5] at hw5; exact hw5.elim
            | ex _ _ _ => exact (fix_nx _ _ _ _ _ e5).elim
            | ok y s6 =>
              rw [e5] at hw5
              intro v H5 h5
              have hw5 : Wp (if acc.length < sizeLine then _ else _) _ _ := hw5
              split at hw5
              · rename_i hz
                obtain ⟨av, e6, hl6, h6⟩ := h5.grow ht1
                refine ⟨av, e6, by rw [hl6]; exact hz, s6.wipe is, acc ++ [y], ?_, blank_wipe, hw5⟩
                exact (h6.wipe (is := is)).repl (hN1.snoc fun _ q => nomatch q) blank_wipe ow
              · exact hw5.elim
          · rename_i cb
            rw [if_neg cb] at hw4
            exact ⟨s4.wipe is, acc, (h4.wipe (is := is)).repl hNo blank_wipe ow, blank_wipe, hw4⟩
        · exact hw2.elim
      · have e : src.ds[i]? = none := List.getElem?_eq_none (by omega)
        rw [List.drop_eq_nil_of_le (by omega)] at hw2
        unfold zLcL at hw2
        split at hw2
        · rename_i ok
          exact .inl ⟨(wk i (wipe σ is) τ [.ref D0] θ [.own (.lst acc)] H2 s2 ht rfl h3 ok).2 e, hw2 _ _ ((el.rel h2).dropMid ht)⟩
        · exact hw2.elim
  · exact hw.elim
theorem RT.yes : RT G W tYes zYes := fun _ _ _ _ _ _ _ _ hR hw => hw _ hR
end
end Z

/-! the value level: what is changed; attributes -/
namespace Z
open PySem PySem.Spec PyProof.Rows L2 M
open Classical
/-- the list, dict, instance at hand becomes another -/
def SD.mod (s : SD) (y : D) : Vl → R Unit
  | .d (.cell i) => .ok () { s with st := s.st.put i y }
  | .loc k => match s.sl[k]? with
    | some (some (.own _)) => .ok () { s with sl := s.sl.set k (some (.own y)) }
    | some (some (.d (.cell i))) => .ok () { s with st := s.st.put i y }
    | _ => .bad
  | _ => .bad
section
variable {G : Gc} {W : WX} {E : En} {σ σ' σ2 : L2.St} {τ τ' τ2 : List V} {H : Hp} {s s' : SD} {θ θ' θ2 : List Vl} {v u : V} {a b : Vl} {x y : D} {p : Wr} {Q : VK} {m : Nat} {w w' : List (Option V)} {ŵ ŵ' : List (Option Vl)} {S : Sto} {k : Nat} {is : List Nat} {l : List (Option Vl)}
/-- it may be written: where it lies, what stands there, what comes of it -/
theorem mod_ok {c : D} (h : Sm G E s.sl.length p w (s.sl ++ l) s.st) (q : (s.sl ++ l)[k]? = some (some a)) (qv : w[k]? = some (some v)) (hc : s.cont a = some c) (hm : s.mod y a = .ok () s') :
    ∃ b, v = .ref b ∧ p.O b ∧ Ho G p c b ∧ s'.sl.length = s.sl.length ∧ ∀ ho, Ho G { p with H := upd p.H b ho } y b → Sm G E s'.sl.length { p with H := upd p.H b ho } w (s'.sl ++ l) s'.st := by
  obtain ⟨u, e1, r⟩ := h.ent k a q
  rw [qv] at e1; cases e1
  have cell : ∀ {i : Nat} {c : D}, s.st.get i = some c → s' = { s with st := s.st.put i y } → v = .ref (p.γ i) → ∃ b, v = .ref b ∧ p.O b ∧ Ho G p c b ∧ s'.sl.length = s.sl.length ∧ ∀ ho, Ho G { p with H := upd p.H b ho } y b → Sm G E s'.sl.length { p with H := upd p.H b ho } w (s'.sl ++ l) s'.st := fun {i c} hc e ev => by
    subst e ev
    obtain ⟨o1, o2⟩ := h.cel i c hc
    exact ⟨_, rfl, o1, o2, rfl, fun ho hy => h.writeCell hc hy⟩
  cases a with
  | d z =>
    cases z with
    | cell i =>
      cases hm
      exact cell hc rfl r.2
    | _ => cases hm
  | own z => cases hm
  | loc j =>
    obtain ⟨r1, r2, r3⟩ := r
    unfold SD.mod at hm
    unfold SD.cont at hc
    dsimp only at hm hc
    cases q1 : s.sl[j]? with
    | none => rw [q1] at hm; cases hm
    | some o =>
      cases o with
      | none => rw [q1] at hm; cases hm
      | some z =>
        rw [q1] at hm hc
        obtain ⟨hs, u, e2, r⟩ := h.slot q1
        rw [r3] at e2; cases e2
        cases z with
        | d z =>
          cases z with
          | cell i =>
            cases hm
            exact cell hc rfl r.2
          | _ => cases hm
        | own z =>
          cases hm
          cases hc
          obtain ⟨b, rfl, r⟩ := r
          have o1 := (h.own j _ b hs r3).1
          refine ⟨b, rfl, o1, r, by simp, fun ho hy => ?_⟩
          have q2 := h.write hs r3 hy
          rw [set_front (lt_of_get q1)] at q2
          show Sm G E (s.sl.set j _).length _ _ _ _
          rw [List.length_set]
          exact q2
        | loc i => cases hm
theorem mod_nx : ∀ (s : SD) (y : D) (a : Vl) c fs s', s.mod y a ≠ .ex c fs s' := by
  intro s y a c fs s'
  cases a with
  | d x => cases x <;> intro q <;> cases q
  | own x => intro q; cases q
  | loc k =>
    unfold SD.mod
    dsimp only
    split <;> intro q <;> cases q
/-- the last at hand, changed and let go -/
theorem mod1 {c : D} (hl : σ.length = s.sl.length) (h : Sm G E s.sl.length p ((σ ++ τ.map some) ++ [some v]) ((s.sl ++ θ.map some) ++ [some a]) s.st) (hc : s.cont a = some c) (hm : s.mod y a = .ok () s') :
    ∃ b, v = .ref b ∧ Ho G p c b ∧ ∀ ho, (p.le { p with H := upd p.H b ho } → Ho G { p with H := upd p.H b ho } y b) → p.le { p with H := upd p.H b ho } ∧ σ.length = s'.sl.length ∧ Sm G E s'.sl.length { p with H := upd p.H b ho } (σ ++ τ.map some) (s'.sl ++ θ.map some) s'.st := by
  have ll := snoc_len h.len
  rw [List.append_assoc (as := s.sl)] at h
  obtain ⟨b, e, o1, ho, hs, go⟩ := mod_ok (k := (s.sl ++ θ.map some).length) (v := v) h (by rw [← List.append_assoc]; exact snoc_new) (by rw [← ll]; exact snoc_new) hc hm
  refine ⟨b, e, ho, fun ho' hy => ⟨le_write o1, hl.trans hs.symm, ?_⟩⟩
  have q := go ho' (hy (le_write o1))
  rw [← List.append_assoc] at q
  exact q.pop1 (by rw [hs]; exact le_app hl)
/-! ### lists changed by their methods -/
def oB2 (f : D → D → Option (D × D)) (a b : Vl) (s : SD) : R Vl := match b with
  | .d z => match s.cont a with
    | some c => match f c z with
      | some (y, r) => (s.mod y a).bind fun _ s' => .ok (.d r) s'
      | none => .bad
    | none => .bad
  | _ => .bad
def oB1 (f : D → Option (D × D)) (a : Vl) (s : SD) : R Vl := match s.cont a with
  | some c => match f c with
    | some (y, r) => (s.mod y a).bind fun _ s' => .ok (.d r) s'
    | none => .bad
  | none => .bad
/-- of a list, dict at b and a value: what stands there then, what is told -/
def Chg2 (G : Gc) (r : V → V → Hp → VK → Prop) (f : D → D → Option (D × D)) : Prop := ∀ (p : Wr) (c z y t : D) (b : Addr) (u : V) (Q : VK), f c z = some (y, t) → Ho G p c b → Rep G p z u →
  ∃ ho w, Rep G p t w ∧ (p.le { p with H := upd p.H b ho } → Ho G { p with H := upd p.H b ho } y b) ∧ (Q w (upd p.H b ho) → r (.ref b) u p.H Q)
def Chg1 (G : Gc) (r : V → Hp → VK → Prop) (f : D → Option (D × D)) : Prop := ∀ (p : Wr) (c y t : D) (b : Addr) (Q : VK), f c = some (y, t) → Ho G p c b →
  ∃ ho w, Rep G p t w ∧ (p.le { p with H := upd p.H b ho } → Ho G { p with H := upd p.H b ho } y b) ∧ (Q w (upd p.H b ho) → r (.ref b) p.H Q)
theorem p_chg2 {r : V → V → Hp → VK → Prop} {f : D → D → Option (D × D)} (hf : Chg2 G r f) : Prim2 G r (oB2 f) := by
  intro E σ τ s θ p v u a b Q hl h hw
  unfold oB2 at hw
  split at hw
  · rename_i z
    split at hw
    · rename_i c e1
      split at hw
      · rename_i y t e2
        rw [Wp_bind] at hw
        cases e3 : s.mod y a with
        | bad => rw [e3] at hw; exact hw.elim
        | ex _ _ _ => exact (mod_nx _ _ _ _ _ _ e3).elim
        | ok _ s' =>
          rw [e3] at hw
          obtain ⟨u', e4, r4⟩ := h.ent _ _ snoc_new
          rw [← snoc_len h.len, snoc_new] at e4
          cases e4
          obtain ⟨b, rfl, ho, go⟩ := mod1 hl (h.pop1 (by simp; omega)) e1 e3
          obtain ⟨o', w, r5, hy, k⟩ := hf p c _ y t b u Q e2 ho r4
          obtain ⟨le, hl', hS⟩ := go o' hy
          exact k (hw w _ (.snoc (hS.push (r5.mono le)) hl' rfl))
      · exact hw.elim
    · exact hw.elim
  · exact hw.elim
theorem p_chg1 {r : V → Hp → VK → Prop} {f : D → Option (D × D)} (hf : Chg1 G r f) : Prim1 G r (oB1 f) := by
  intro E σ τ s θ p v a Q hl h hw
  unfold oB1 at hw
  split at hw
  · rename_i c e1
    split at hw
    · rename_i y t e2
      rw [Wp_bind] at hw
      cases e3 : s.mod y a with
      | bad => rw [e3] at hw; exact hw.elim
      | ex _ _ _ => exact (mod_nx _ _ _ _ _ _ e3).elim
      | ok _ s' =>
        rw [e3] at hw
        obtain ⟨b, rfl, ho, go⟩ := mod1 hl h e1 e3
        obtain ⟨o', w, r5, hy, k⟩ := hf p c y t b Q e2 ho
        obtain ⟨le, hl', hS⟩ := go o' hy
        exact k (hw w _ (.snoc (hS.push (r5.mono le)) hl' rfl))
    · exact hw.elim
  · exact hw.elim
noncomputable def fAppend (c z : D) : Option (D × D) := match c with
  | .lst ds => if ds.length < sizeLine then some (.lst (ds ++ [z]), .non) else none
  | _ => none
theorem h_append : Chg2 G (fun x y H Q => rAppend x [y] H Q) fAppend := by
  intro p c z y t b u Q e ho r
  unfold fAppend at e
  split at e
  · split at e
    · rename_i ds hz
      cases e
      obtain ⟨vs, e1, r1⟩ := ho
      exact ⟨.lst (vs ++ [u]), .non, rfl, fun le => ⟨_, upd_same, (r1.mono le).append (Reps.one (Rep.mono le r))⟩, fun q => ⟨b, vs, u, rfl, rfl, e1, by rw [r1.len]; exact hz, q⟩⟩
    · cases e
  · cases e
noncomputable def fExtend (c z : D) : Option (D × D) := match c, z with
  | .lst ds, .lst es => if ds.length + es.length ≤ sizeLine then some (.lst (ds ++ es), .non) else none
  | _, _ => none
theorem h_extend : Chg2 G (fun x y H Q => rExtend x [y] H Q) fExtend := by
  intro p c z y t b u Q e ho r
  unfold fExtend at e
  split at e
  · split at e
    · rename_i ds es hz
      cases e
      obtain ⟨vs, e1, r1⟩ := ho
      obtain ⟨b', us, rfl, ⟨_, e2⟩, r2⟩ := r
      exact ⟨.lst (vs ++ us), .non, rfl, fun le => ⟨_, upd_same, (r1.mono le).append (r2.mono le)⟩, fun q => ⟨b, b', vs, us, rfl, rfl, e1, e2, by rw [r1.len, r2.len]; exact hz, q⟩⟩
    · cases e
  · cases e
def fPop (c : D) : Option (D × D) := match c with
  | .lst ds => match ds[ds.length - 1]? with
    | some t => some (.lst ds.dropLast, t)
    | none => none
  | _ => none
theorem h_pop : Chg1 G (fun x H Q => rPop x [] H Q) fPop := by
  intro p c y t b Q e ho
  unfold fPop at e
  split at e
  · rename_i ds
    split at e
    · rename_i e0
      cases e
      obtain ⟨vs, e1, r1⟩ := ho
      obtain ⟨w, e2, r2⟩ := r1.get e0
      have e3 : vs.dropLast = vs.take (ds.length - 1) := by rw [List.dropLast_eq_take, r1.len]
      have r3 : Reps G p ds.dropLast vs.dropLast := by rw [e3, List.dropLast_eq_take]; exact r1.take _
      exact ⟨.lst vs.dropLast, w, r2, fun le => ⟨_, upd_same, r3.mono le⟩, fun q => ⟨b, vs, w, rfl, rfl, e1, by rw [r1.len]; exact e2, q⟩⟩
    · cases e
  · cases e
def fReverse (c : D) : Option (D × D) := match c with
  | .lst ds => some (.lst ds.reverse, .non)
  | _ => none
theorem h_reverse : Chg1 G (fun x H Q => rReverse x [] H Q) fReverse := by
  intro p c y t b Q e ho
  unfold fReverse at e
  split at e
  · cases e
    obtain ⟨vs, e1, r1⟩ := ho
    exact ⟨.lst vs.reverse, .non, rfl, fun le => ⟨_, upd_same, r1.reverse.mono le⟩, fun q => ⟨b, vs, rfl, rfl, e1, q⟩⟩
  · cases e
def fClear (c : D) : Option (D × D) := match c with
  | .lst ds => some (.lst [], .non)
  | _ => none
theorem h_clear : Chg1 G (fun x H Q => rClear x [] H Q) fClear := by
  intro p c y t b Q e ho
  unfold fClear at e
  split at e
  · cases e
    obtain ⟨vs, e1, r1⟩ := ho
    exact ⟨.lst [], .non, rfl, fun le => ⟨_, upd_same, rfl⟩, fun q => ⟨b, vs, rfl, rfl, e1, q⟩⟩
  · cases e
theorem oB2_nx {f : D → D → Option (D × D)} : ∀ (a b : Vl) (s : SD) c fs s', oB2 f a b s ≠ .ex c fs s' := by
  intro a b s c fs s'
  unfold oB2
  split
  · split
    · split
      · rename_i y r _
        cases e : s.mod y a with
        | bad => intro q; cases q
        | ok _ _ => intro q; cases q
        | ex _ _ _ => exact (mod_nx _ _ _ _ _ _ e).elim
      · intro q; cases q
    · intro q; cases q
  · intro q; cases q
theorem oB1_nx {f : D → Option (D × D)} : ∀ (a : Vl) (s : SD) c fs s', oB1 f a s ≠ .ex c fs s' := by
  intro a s c fs s'
  unfold oB1
  split
  · split
    · rename_i y r _
      cases e : s.mod y a with
      | bad => intro q; cases q
      | ok _ _ => intro q; cases q
      | ex _ _ _ => exact (mod_nx _ _ _ _ _ _ e).elim
    · intro q; cases q
  · intro q; cases q
/-! a method of a list, of a dict -/
def isL (s : SD) (a : Vl) : Bool := match s.cont a with
  | some (.lst _) => true
  | _ => false
def zM2 (chk : SD → Vl → Bool) (f : Vl → Vl → SD → R Vl) (fa fb : SD → R Vl) : SD → R Vl := fun s => (fa s).bind fun a s1 => if chk s1 a = true then (fb s1).bind fun b s2 => f a b s2 else .bad
def zM1 (f : Vl → SD → R Vl) (fa : SD → R Vl) : SD → R Vl := z1 f fa
theorem RE.next {tb : TE} {fb : SD → R Vl} {α : Type} {f : Vl → SD → R α} {P : α → SD → Prop} {Q : V → Hp → Prop} (hb : RE G W tb fb) (hN : Nl θ) (hR : Rel G E σ (τ ++ [v]) H s (θ ++ [a])) (hw : Wp ((fb s).bind fun b s2 => f b s2) P (XP G W E τ θ))
    (k : ∀ (b : Vl) (s2 : SD) (u : V) (H2 : Hp), Rel G E σ (τ ++ [v] ++ [u]) H2 s2 (θ ++ [a] ++ [b]) → Wp (f b s2) P (XP G W E τ θ) → Q u H2) : tb σ H Q := by
  rw [Wp_bind] at hw
  by_cases c : ∃ j, a = .loc j
  · obtain ⟨j, rfl⟩ := c
    obtain ⟨c1, c2⟩ := hR.unloc
    refine hb E σ τ H s θ _ hN hR.pop (hw.mono (fun b s2 hw u H2 h2 => k _ _ _ _ ?_ hw) fun _ _ _ h => h)
    exact (h2.reloc c2).swap hR.pop.tlen
  · exact hb E σ _ H s _ _ (hN.snoc fun j q => c ⟨j, q⟩) hR (hw.mono (fun b s2 hw u H2 h2 => k _ _ _ _ h2 hw) fun _ _ _ h => h.up)
/-- a method with one argument -/
theorem RE.bm {T : String} {chk : SD → Vl → Bool} {r : V → List V → Hp → VK → Prop} {f : Vl → Vl → SD → R Vl} {ta tb : TE} {fa fb : SD → R Vl} (hk : ∀ (p : Wr) (s : SD) (a : Vl) (v : V), chk s a = true → (∀ x, s.cont a = some x → Cont G p x v) → tyV G.K T v p.H) (hp : Prim2 G (fun x y H Q => r x [y] H Q) f)
    (nx : ∀ a b s c fs s', f a b s ≠ .ex c fs s') (ha : RE G W ta fa) (hb : RE G W tb fb) : RE G W (tBM G.K T r ta (tCons tb tNil)) (zM2 chk f fa fb) := by
  intro E σ τ H s θ Q hN hR hw
  unfold zM2 at hw
  rw [Wp_bind] at hw
  refine ha E σ τ H s θ _ hN hR (hw.mono (fun a s1 hw v H1 h1 => ?_) fun _ _ _ h => h)
  split at hw
  · rename_i c
    have h0 := h1
    obtain ⟨p, rfl, hl, h⟩ := h1.unsnoc
    refine ⟨hk p s1 a v c (last1 hl h).2.1, ?_⟩
    refine RE.next (Q := fun u H2 => r v [u] H2 Q) hb hN h0 hw fun b s2 u H2 h2 hw => ?_
    obtain ⟨p, rfl, hl, h⟩ := h2.unsnoc
    rw [List.map_append, List.map_append, ← List.append_assoc, ← List.append_assoc] at h
    refine hp E σ τ s2 θ p v u a b Q hl h ?_
    cases e : f a b s2 with
    | ok b s2 => rw [e] at hw; exact hw
    | ex c fs s2 => exact (nx _ _ _ _ _ _ e).elim
    | bad => rw [e] at hw; exact hw
  · exact hw.elim
theorem RE.bm0 {T : String} {r : V → List V → Hp → VK → Prop} {f : Vl → SD → R Vl} {ta : TE} {fa : SD → R Vl} (hp : Prim1 G (fun x H Q => tyV G.K T x H ∧ r x [] H Q) f) (nx : ∀ a s c fs s', f a s ≠ .ex c fs s') (ha : RE G W ta fa) : RE G W (tBM0 G.K T r ta) (z1 f fa) := RE.op1 (r := fun x H Q => tyV G.K T x H ∧ r x [] H Q) hp nx ha
theorem isL_ty : ∀ (p : Wr) (s : SD) (a : Vl) (v : V), isL s a = true → (∀ x, s.cont a = some x → Cont G p x v) → tyV G.K "list" v p.H := by
  intro p s a v h c
  unfold isL at h
  split at h
  · rename_i e
    obtain ⟨b, vs, rfl, hb, _⟩ := (c _ e).lst
    exact .inl ⟨rfl, vs, .of hb⟩
  · cases h
/-- a method of a list without arguments that changes it -/
theorem p_lm0 {r : V → List V → Hp → VK → Prop} {f : D → Option (D × D)} (hf : Chg1 G (fun x H Q => r x [] H Q) f) (hl : ∀ c y, f c = some y → ∃ ds, c = .lst ds) : Prim1 G (fun x H Q => tyV G.K "list" x H ∧ r x [] H Q) (oB1 f) := p_chg1 fun p c y t b Q e ho => by
  obtain ⟨ho', w, r1, hy, k⟩ := hf p c y t b Q e ho
  refine ⟨ho', w, r1, hy, fun q => ⟨?_, k q⟩⟩
  obtain ⟨ds, rfl⟩ := hl c _ e
  obtain ⟨vs, e1, _⟩ := ho
  exact .inl ⟨rfl, vs, .of e1⟩
/-! ### attributes -/
def FldOk (G : Gc) (f : Str) (cls : List Str) : Prop := ∀ c ∈ cls, ∀ C, G.mg c = some (.ref C) → Cls G.K C ∧ NoAttr G.K C f
noncomputable def oFld (cls : List Str) (f : Str) (a : Vl) (s : SD) : R Vl := match s.cont a with
  | some (.obj c fs) => if c ∈ cls then match fval fs f with
    | some x => .ok (.d x) s
    | none => .bad
    else .bad
  | _ => .bad
theorem RE.fld {cls : List Str} {f : Str} {ta : TE} {fa : SD → R Vl} (hf : FldOk G f cls) (ha : RE G W ta fa) : RE G W (tFld G.K ta f) (z1 (oFld cls f) fa) := by
  refine RE.op1 (r := fun x H1 Q => ∃ a C dx fs v, x = .ref a ∧ H1 a = some (.ins C dx fs) ∧ Cls G.K C ∧ NoAttr G.K C f ∧ fs.lookup f = some v ∧ Q v H1) ?_ ?_ ha
  · intro E σ τ s θ p v a Q hl h hw
    obtain ⟨h0, ca, _⟩ := last1 hl h
    unfold oFld at hw
    split at hw
    · rename_i c fs e
      obtain ⟨b, C, dx, vs, rfl, hm, hb, r⟩ := (ca _ e).obj
      split at hw
      · rename_i hc
        split at hw
        · rename_i x e1
          obtain ⟨v, e2, r2⟩ := r.val.1 x e1
          obtain ⟨c1, c2⟩ := hf c hc C hm
          exact ⟨b, C, dx, vs, v, rfl, hb, c1, c2, e2, fin_d h0 hl hw r2⟩
        · exact hw.elim
      · exact hw.elim
    · exact hw.elim
  · intro a s c fs s'
    unfold oFld
    split
    · split
      · split <;> (intro q; cases q)
      · intro q; cases q
    · intro q; cases q
noncomputable def zSFld (cls : List Str) (f : Str) (fo fv : SD → R Vl) : SD → R Fl := fun s => (fv s).bind fun v s0 => (s0.fix v).bind fun x s1 => (fo s1).bind fun a s2 => match s2.cont a with
  | some (.obj c fs) => if c ∈ cls ∧ fs.length < 1000 then (s2.mod (.obj c (fput f x fs)) a).bind fun _ s3 => .ok .nx s3 else .bad
  | _ => .bad
theorem RS.fld {cls : List Str} {f : Str} {ta tv : TE} {fo fv : SD → R Vl} (hf : FldOk G f cls) (hv : RE G W tv fv) (ho : RE G W ta fo) : RS G W (sFld G.K ta tv f) (zSFld cls f fo fv) := by
  intro E σ τ H s θ D hN hR hw
  unfold zSFld at hw
  refine RE.fix hv E σ τ H s θ _ hN hR ?_
  unfold zFix zVia
  rw [Wp_bind] at hw ⊢
  refine hw.mono (fun v0 s0 hw => ?_) fun _ _ _ h => h
  rw [Wp_bind] at hw ⊢
  refine hw.mono (fun x s1 hw => ?_) fun _ _ _ h => h
  intro y H1 h1
  rw [Wp_bind] at hw
  refine ho E σ _ H1 s1 _ _ hN.d h1 (hw.mono (fun a s2 hw v H2 h2 => ?_) fun _ _ _ h => h.up)
  obtain ⟨p, rfl, hl, h⟩ := h2.unsnoc
  obtain ⟨h3, ca, _⟩ := last1 hl h
  split at hw
  · rename_i c fs e
    split at hw
    · rename_i hc
      rw [Wp_bind] at hw
      cases e3 : s2.mod (.obj c (fput f x fs)) a with
      | bad => rw [e3] at hw; exact hw.elim
      | ex _ _ _ => exact (mod_nx _ _ _ _ _ _ e3).elim
      | ok _ s' =>
        rw [e3] at hw
        obtain ⟨b, rfl, hO, go⟩ := mod1 hl h e e3
        obtain ⟨C, dx, vs, m, e4, r⟩ := hO
        obtain ⟨c1, c2⟩ := hf c hc.1 C m
        rw [List.map_append, List.map_append, ← List.append_assoc, ← List.append_assoc] at h3
        obtain ⟨u', e5, ry⟩ := h3.ent _ _ snoc_new
        rw [← snoc_len h3.len, show List.map some [y] = [some y] from rfl, snoc_new] at e5
        cases e5
        obtain ⟨le, hl', hS⟩ := go (.ins C dx (putF f y vs)) fun le => ⟨C, dx, _, m, upd_same, RepF.put (Rep.mono le ry) (r.mono le)⟩
        refine ⟨b, C, dx, vs, rfl, e4, c1, c2, by rw [r.len]; exact hc.2, hw σ _ (Rel.pop (v := y) (a := .d x) ⟨_, rfl, hl', hS⟩)⟩
    · exact hw.elim
  · exact hw.elim
end
end Z

/-! the value level: defs and their calls -/
namespace Z
open PySem PySem.Spec PyProof.Rows L2 M
open Classical
/-! calls, methods, makers whose exceptions are wished for at the caller's slots -/
section
variable {X : Cx} {CX : CXT} {k : Nat} {f C : Addr} {fd : FuncData} {ps : List Str} {sp : Sp} {dvs : List V} {ds : List Value} {E : L2.St → XK} {x m : Str} {p pos apos : Pos} {e o : Expr} {es : List Expr} {ta : TE} {t : TA}
theorem pe_callSD0 (F : FnOk X.prog X.w X.K X.mg X.base CX k f fd ps sp) (hr : Room k X.A) (hg : Gl X x) (hm : X.mg x = some (.ref f)) (hk : PySem.W.keepIn X.K (.ref f) = true) (hb : Binds X.K fd ps ds) (hd : Vals dvs ds) (hx : ∀ σ, PassesAt CX X σ (E σ))
    (hdb : (x == ("__debug__" : Str)) = false := by decide) : PE X (.Call (.Name x p) [] [] pos) (tCallSD sp dvs E tNil) := by
  refine ⟨fun pins s σ H Q I h => ?_⟩
  refine wpAny_Call_Name_kw (ld_glob I hg hm ?_ hdb)
  exact PySem.W.callWith_K0 I.kIn hk (run_fnSD (us := []) F hr hb hd (hx σ) I .nil h)
def tMethS (C : Addr) (m : Str) (sp : Sp) (dvs : List V) (E : L2.St → XK) (ta : TE) (t : TA) : TE := fun σ H Q => ta σ H fun x H1 => ∃ a dx fs, x = .ref a ∧ H1 a = some (.ins C dx fs) ∧ fs.lookup m = none ∧
  t σ H1 fun vs H2 => sp (x :: (vs ++ dvs)) H2 Q (E σ)
theorem pe_methSD {pl : Sem Bool} (he : PE X o ta) (c : Cls X.K C) (hm : Meth X.K C m f) (F : FnOk X.prog X.w X.K X.mg X.base CX k f fd ps sp) (hr : Room k X.A) (hb : Binds X.K fd ps ds) (hd : Vals dvs ds) (hx : ∀ σ, PassesAt CX X σ (E σ)) (ha : PA X (e :: es) t)
    (hst : starEach (e :: es) X.env = (false, eval e X.env) :: starEach es X.env := by rfl) (hpl : (backTo pos (starEach es X.env)).any (·.1) = false := by rfl)
    (ht : eval (.Call (.Attribute o m apos) (e :: es) [] pos) X.env = (do
      let ov ← eval o X.env
      standAt apos.atName
      let (f, first) ← holding [ov] (getMethod ov m pl)
      callWith pos f first (backTo pos (starEach (e :: es) X.env)) (backToKw pos (keywordEach [] X.env))) := by rfl) :
    PE X (.Call (.Attribute o m apos) (e :: es) [] pos) (tMethS C m sp dvs E ta t) := by
  refine ⟨fun pins s σ H Q I h => ?_⟩
  refine PySem.W.methodCall_KW (pl := pl) (thn (he.run pins s σ H _ I h) fun u s1 ⟨x, H1, I1, rx, a, dx, fs, ex, ea, l, q⟩ => ?_) ht
  subst ex
  obtain rfl : u = Value.ref a := rx
  refine getmeth_ok I1 ea c hm l ?_
  refine PySem.W.callWith_K (first := [.ref a]) (h₀ := X.base) I.ok.mod.kin hm.kp (thn (ha.run pos pins s1 σ H1 _ I1 q) fun us s2 ⟨vs, H2, I2, r, q2⟩ => ⟨I2.kIn, ?_⟩) hst hpl
  exact run_fnSD (us := .ref a :: us) (vs := .ref a :: vs) F hr hb hd (hx σ) I2 (.cons rfl r) q2
theorem pe_methSD0 {pl : Sem Bool} (he : PE X o ta) (c : Cls X.K C) (hm : Meth X.K C m f) (F : FnOk X.prog X.w X.K X.mg X.base CX k f fd ps sp) (hr : Room k X.A) (hb : Binds X.K fd ps ds) (hd : Vals dvs ds) (hx : ∀ σ, PassesAt CX X σ (E σ))
    (ht : eval (.Call (.Attribute o m apos) [] [] pos) X.env = (do
      let ov ← eval o X.env
      standAt apos.atName
      let (f, first) ← holding [ov] (getMethod ov m pl)
      callWith pos f first (backTo pos (starEach [] X.env)) (backToKw pos (keywordEach [] X.env))) := by rfl) :
    PE X (.Call (.Attribute o m apos) [] [] pos) (tMethS C m sp dvs E ta tNil) := by
  refine ⟨fun pins s σ H Q I h => ?_⟩
  refine PySem.W.methodCall_KW (pl := pl) (thn (he.run pins s σ H _ I h) fun u s1 ⟨x, H1, I1, rx, a, dx, fs, ex, ea, l, q⟩ => ?_) ht
  subst ex
  obtain rfl : u = Value.ref a := rx
  refine getmeth_ok I1 ea c hm l ?_
  exact PySem.W.callWith_K0 (first := [.ref a]) I1.kIn hm.kp (run_fnSD (us := [.ref a]) (vs := [.ref a]) F hr hb hd (hx σ) I1 (.cons rfl .nil) q)
def tMakeS (C : Addr) (sp : Sp) (dvs : List V) (E : L2.St → XK) (t : TA) : TE := fun σ H Q => t σ H fun vs H1 => ∀ x dx, H1 x = none → H1 dx = none → dx ≠ x →
  sp (.ref x :: (vs ++ dvs)) (upd (upd H1 dx (.own x)) x (.ins C dx [])) (fun v H2 => v = .non ∧ H2 dx = some (.own x) ∧ Q (.ref x) H2) (fun cls d H2 => H2 dx = some (.own x) ∧ E σ cls d H2)
end
/-- what a def makes of data and cells -/
def zFn (n : Nat) (body : SD → R Fl) (ds : List D) (S : Sto) : R Vl := match body ⟨starts n ds, S⟩ with
  | .ok .nx s => .ok (.d .non) s
  | .ok (.rt (.d x)) s => .ok (.d x) s
  | .ok (.rt (.own x)) s => .ok (.own x) s
  | .ok _ _ => .bad
  | .ex c fs s => .ex c fs s
  | .bad => .bad
abbrev FnV := List D → Sto → R Vl
def goF (F : FnV) (ds : List D) (s : SD) : R Vl := match F ds s.st with
  | .ok a s' => .ok a { s with st := s'.st }
  | .ex c fs s' => .ex c fs { s with st := s'.st }
  | .bad => .bad
/-- the promise -/
def spF (G : Gc) (n : Nat) (F : FnV) : Sp := fun vs H Q X => vs.length = n ∧ ∃ (E : En) (m : Nat) (p : Wr) (w : List (Option V)) (ŵ : List (Option Vl)) (S : Sto) (ds : List D), p.H = H ∧ Sm G E m p w ŵ S ∧ Reps G p ds vs ∧
  Wp (F ds S) (fun a s' => ∀ v (p' : Wr), Sm G E m p' (w ++ [some v]) (ŵ ++ [some a]) s'.st → Q v p'.H) (fun c fs s' => ∀ cls d (p' : Wr), Sm G E m p' w ŵ s'.st → ExV G p' c fs cls d → X cls d p'.H)
section
variable {P : Program} {w : World} {K : PySem.W.Frag} {mg : Str → Option Value} {base : Heap}
/-- a body that is held: the two ways to leave it -/
theorem spF_body {G : Gc} {t : TS} {fz : SD → R Fl} {N : List Str} {n : Nat} {vs : List V} {H : Hp} {Q : VK} {X : XK} (hb : RS G (fun cls d _ H => X cls d H) t fz) (hs : spF G n (zFn N.length fz) vs H Q X) (hn : n ≤ N.length) : t { nx := fun _ H' => Q .non H', rt := Q } (L2.start N vs) H := by
  obtain ⟨hl, E, m, p, w, ŵ, S, ds, rfl, h, r, hw⟩ := hs
  have hd : ds.length = n := by rw [← r.len]; exact hl
  have h0 := h.enter (N := N) (m' := N.length) r
  have ls : (starts N.length ds).length = N.length := by unfold starts; simp; omega
  have hR : Rel G (E.of p S w ŵ) (L2.start N vs) [] p.H ⟨starts N.length ds, S⟩ [] := by
    refine ⟨p, rfl, ?_, ?_⟩
    · show _ = (starts N.length ds).length
      rw [ls]
      unfold L2.start
      simp [hl]
      omega
    · show Sm G _ (starts N.length ds).length p _ _ _
      rw [ls]
      simpa using h0
  refine hb _ _ [] p.H _ [] _ (fun e h => absurd h List.not_mem_nil) hR ?_
  unfold zFn at hw
  have push : ∀ {σ' : L2.St} {v : V} {H' : Hp} {s' : SD} {a : Vl}, (∀ j, a ≠ .loc j) → Rel G (E.of p S w ŵ) σ' ([] ++ [v]) H' s' ([] ++ [a]) → ∃ p' : Wr, p'.H = H' ∧ Sm G E m p' (w ++ [some v]) (ŵ ++ [some a]) s'.st := fun {σ' v H' s' a} ha hR => by
    obtain ⟨p', rfl, hl', h'⟩ := hR.unsnoc
    have ll := snoc_len h'.len
    exact ⟨p', rfl, h.leave h' (k := (s'.sl ++ ([] : List Vl).map some).length) snoc_new (by rw [← ll]; exact snoc_new) ha⟩
  cases e : fz ⟨starts N.length ds, S⟩ with
  | bad => rw [e] at hw; exact hw.elim
  | ex c fs s' =>
    rw [e] at hw
    intro cls d σ' H' hx
    obtain ⟨p', rfl, hl', h', x⟩ := hx
    exact hw cls d p' (h.after h') x
  | ok fl s' =>
    rw [e] at hw
    cases fl with
    | nx =>
      intro σ' H' hR'
      obtain ⟨p', rfl, h'⟩ := push (a := .d .non) (fun j q => nomatch q) (hR'.push (x := .non) (v := .non) fun _ => rfl)
      exact hw _ _ h'
    | bk => exact hw.elim
    | ct => exact hw.elim
    | rt a =>
      cases a with
      | loc j => exact hw.elim
      | d x =>
        refine ⟨(fun j q => nomatch q), fun σ' v H' hR' => ?_⟩
        obtain ⟨p', rfl, h'⟩ := push (a := .d x) (fun j q => nomatch q) hR'
        exact hw _ _ h'
      | own x =>
        refine ⟨(fun j q => nomatch q), fun σ' v H' hR' => ?_⟩
        obtain ⟨p', rfl, h'⟩ := push (a := .own x) (fun j q => nomatch q) hR'
        exact hw _ _ h'
theorem spF_len {G : Gc} {n : Nat} {F : FnV} : ∀ vs H Q E, spF G n F vs H Q E → vs.length = n := fun _ _ _ _ h => h.1
/-- a def keeps its promise: its body as a term of rules, and what that term makes of data -/
theorem fnZ {x qual : Str} {st : Stmt} {f : Addr} {fd : FuncData} {N ps : List Str} {k : Nat} {fz : SD → R Fl} (F : L2.Fun K x qual st f fd) (S : FnScope N ps (L2.defScope st)) (hn : ps.length ≤ N.length)
    (hbody : ∀ (cdv : Value) (A : Around) (outer : List Env) (s : Shared) (H : Hp) (E : XK), Room k (A.deeper (envOfC qual (L2.defScope st) s.heap.objs.size f cdv)) →
      ∃ t, PSs (cxOf (L2.CX P w) P w K mg base N qual (L2.defScope st) f cdv A outer s H E) (L2.defBody st) t ∧ RS ⟨K, mg⟩ (fun cls d _ H => E cls d H) t fz) : FnOk P w K mg base (L2.CX P w) (k + 1) f fd ps (spF ⟨K, mg⟩ ps.length (zFn N.length fz)) :=
  F.okX S spF_len fun cdv A outer s H vs Q E hr h => by
    obtain ⟨t, h1, h2⟩ := hbody cdv A outer s H E hr
    exact ⟨t, h1, spF_body h2 h hn⟩
/-- the law itself -/
theorem fnZ0 {x qual : Str} {st : Stmt} {f : Addr} {fd : FuncData} {N ps : List Str} {k : Nat} {fz : SD → R Fl} (F : L2.Fun K x qual st f fd) (S : FnScope N ps (L2.defScope st)) (hn : ps.length ≤ N.length)
    (hbody : ∀ (cdv : Value) (A : Around) (outer : List Env) (s : Shared) (H : Hp) (E : XK), Room k (A.deeper (envOfC qual (L2.defScope st) s.heap.objs.size f cdv)) →
      ∃ t, PSs (cxOf L2.CX0 P w K mg base N qual (L2.defScope st) f cdv A outer s H E).nox (L2.defBody st) t ∧ RS ⟨K, mg⟩ WF t fz) : FnOk P w K mg base L2.CX0 (k + 1) f fd ps (fun vs H Q E => spF ⟨K, mg⟩ ps.length (zFn N.length fz) vs H Q (fun _ _ _ => False)) :=
  F.ok S (fun _ _ _ _ h => h.1) fun cdv A outer s H vs Q E hr h => by
    obtain ⟨t, h1, h2⟩ := hbody cdv A outer s H E hr
    exact ⟨t, h1, spF_body (X := fun _ _ _ => False) h2 h hn⟩
end
/-! ### calls -/
/-- constants for what is left out -/
inductive DvOk : List V → List D → Prop where
  | nil : DvOk [] []
  | cons {v : V} {d : D} {vs : List V} {ds : List D} (h : d.sc = some v) (t : DvOk vs ds) : DvOk (v :: vs) (d :: ds)
section
variable {G : Gc} {W : WX} {E : En} {σ : L2.St} {τ : List V} {H : Hp} {s s' : SD} {θ : List Vl} {v u : V} {a b : Vl} {x y : D} {p : Wr}
theorem rep_sc (e : x.sc = some v) : Rep G p x v := by
  cases x <;> cases e <;> rfl
theorem DvOk.reps {vs : List V} {ds : List D} (h : DvOk vs ds) : Reps G p ds vs := by
  induction h with
  | nil => rfl
  | cons h _ ih => exact ⟨_, _, rfl, rep_sc h, ih⟩
def zCall (F : FnV) (dds : List D) (fr : SD → R (List D)) : SD → R Vl := fun s => (fr s).bind fun ds s1 => goF F (ds ++ dds) s1
/-- what a callee wants, from a body -/
theorem goF_sp {F : FnV} {n : Nat} {ds : List D} {vs : List V} {Q : VK} (h : Sm G E s.sl.length p (σ ++ τ.map some) (s.sl ++ θ.map some) s.st) (hl : σ.length = s.sl.length) (r : Reps G p ds vs) (hn : vs.length = n)
    (hw : Wp (goF F ds s) (fun a s' => ∀ v H', Rel G E σ (τ ++ [v]) H' s' (θ ++ [a]) → Q v H') (XP G W E τ θ)) : spF G n F vs p.H Q (WE W σ) := by
  refine ⟨hn, E, _, p, _, _, s.st, ds, rfl, h, r, ?_⟩
  unfold goF at hw
  cases e : F ds s.st with
  | bad => rw [e] at hw; exact hw.elim
  | ok a s' =>
    rw [e] at hw
    intro v p' h'
    exact hw v _ (.snoc h' hl rfl)
  | ex c fs s' =>
    rw [e] at hw
    intro cls d p' h' x
    exact hw cls d σ _ ⟨p', rfl, hl, h', x⟩
theorem RE.call {F : FnV} {n : Nat} {dvs : List V} {dds : List D} {t : TA} {fr : SD → R (List D)} {k : Nat} (hd : DvOk dvs dds) (hr : RA G W t fr) (hm : Many fr k) (hn : k + dvs.length = n) : RE G W (tCallSD (spF G n F) dvs (WE W) t) (zCall F dds fr) := by
  intro E σ τ H s θ Q hN hR hw
  unfold zCall at hw
  rw [Wp_bind] at hw
  refine hr E σ τ H s θ _ hN hR (hw.eq.mono (fun ds s1 ⟨e, hw⟩ vs H1 h1 => ?_) fun _ _ _ h => h)
  obtain ⟨p, rfl, hl, h, r⟩ := h1.args hR.tlen
  exact goF_sp h hl (r.append hd.reps) (by rw [List.length_append, r.len, hm _ _ _ e]; exact hn) hw
/-- a method of an instance of that class -/
noncomputable def zMeth (c m : Str) (F : FnV) (dds : List D) (fo : SD → R Vl) (fr : SD → R (List D)) : SD → R Vl := fun s => (fo s).bind fun a s1 => (s1.fix a).bind fun x s2 => match s2.cont (.d x) with
  | some (.obj c' fs) => if c' = c ∧ fval fs m = none then (fr s2).bind fun ds s3 => goF F (x :: (ds ++ dds)) s3 else .bad
  | _ => .bad
theorem RE.meth {c m : Str} {C : Addr} {F : FnV} {n : Nat} {dvs : List V} {dds : List D} {to : TE} {fo : SD → R Vl} {t : TA} {fr : SD → R (List D)} {k : Nat} (hC : G.mg c = some (.ref C)) (hd : DvOk dvs dds) (ho : RE G W to fo) (hr : RA G W t fr) (hm : Many fr k) (hn : k + dvs.length + 1 = n) :
    RE G W (tMethS C m (spF G n F) dvs (WE W) to t) (zMeth c m F dds fo fr) := by
  intro E σ τ H s θ Q hN hR hw
  unfold zMeth at hw
  refine RE.fix ho E σ τ H s θ _ hN hR ?_
  unfold zFix zVia
  rw [Wp_bind] at hw ⊢
  refine hw.mono (fun a s1 hw => ?_) fun _ _ _ h => h
  rw [Wp_bind] at hw ⊢
  refine hw.mono (fun x s2 hw => ?_) fun _ _ _ h => h
  intro v H1 h1
  have h0 := h1
  obtain ⟨p, rfl, hl, h⟩ := h1.unsnoc
  obtain ⟨h3, ca, _⟩ := last1 hl h
  split at hw
  · rename_i c' fs e
    split at hw
    · rename_i hc
      obtain ⟨b, C', dx, vs, rfl, hm', hb, r⟩ := (ca _ e).obj
      rw [hc.1, hC] at hm'
      cases hm'
      refine ⟨b, dx, vs, rfl, hb, r.val.2 hc.2, ?_⟩
      rw [Wp_bind] at hw
      refine hr E σ _ p.H s2 _ _ hN.d h0 (hw.eq.mono (fun ds s3 ⟨e, hw⟩ vs H2 h2 => ?_) fun _ _ _ h => h.up)
      have h2' : Rel G E σ (τ ++ (.ref b :: vs)) H2 s3 (θ ++ (x :: ds).map .d) := by simpa using h2
      obtain ⟨p2, rfl, hl2, h4, r2⟩ := h2'.args hR.tlen
      have r3 : Reps G p2 (x :: (ds ++ dds)) (.ref b :: (vs ++ dvs)) := by
        obtain ⟨v1, r1, e1, q1, q2⟩ := r2
        cases e1
        exact ⟨_, _, rfl, q1, q2.append hd.reps⟩
      obtain ⟨v1, r1, e1, q1, q2⟩ := r2
      cases e1
      exact goF_sp h4 hl2 r3 (by rw [List.length_cons, List.length_append, q2.len, hm _ _ _ e]; exact hn) hw
    · exact hw.elim
  · exact hw.elim
end
end Z

/-! the value level: makers, built-ins, dicts, slices -/
namespace Z
open PySem PySem.Spec PyProof.Rows L2 M
open Classical
section
variable {X : Cx} {CX : CXT} {k : Nat} {f C : Addr} {fd : FuncData} {ps : List Str} {sp : Sp} {dvs : List V} {ds : List Value} {E : L2.St → XK} {x m : Str} {p pos apos : Pos} {e o : Expr} {es : List Expr} {ta : TE} {t : TA}
def tMakS (C : Addr) (sp : Sp) (dvs : List V) (E : L2.St → XK) (t : TA) : TE := fun σ H Q => t σ H fun vs H1 => ∀ x dx, H1 x = none → H1 dx = none → dx ≠ x →
  sp (.ref x :: (vs ++ dvs)) (upd (upd H1 dx (.own x)) x (.ins C dx [])) (fun v H2 => v = .non ∧ Q (.ref x) H2) (E σ)
theorem run_makS {pins : List (Addr × Obj)} {σ : L2.St} {H : Hp} {s : Shared} {Q : VK} {us : List Value} {vs : List V} (M : Mk X.K C f) (F : FnOk X.prog X.w X.K X.mg X.base CX k f fd ps sp) (hr : Room (k + 1) X.A) (hb : Binds X.K fd ps ds) (hd : Vals dvs ds)
    (hx : PassesAt CX X σ (E σ)) (I : Inv X pins σ H s) (r : Vals vs us)
    (h : ∀ x dx, H x = none → H dx = none → dx ≠ x → sp (.ref x :: (vs ++ dvs)) (upd (upd H dx (.own x)) x (.ins C dx [])) (fun v H2 => v = .non ∧ Q (.ref x) H2) (E σ)) :
    wpAny (model X.prog X.w) X.A (call (.ref C) us) (EP X pins σ Q) X.xe s := by
  have hq := h (s.heap.objs.size + 1) s.heap.objs.size (I.hok.fresh (Nat.le_succ _)) (I.hok.fresh (Nat.le_refl _)) (Nat.ne_of_lt (Nat.lt_succ_self _))
  have I2 := Inv.made (C := C) I
  have r2 : Vals (V.ref (s.heap.objs.size + 1) :: (vs ++ dvs)) (Value.ref (s.heap.objs.size + 1) :: (us ++ ds)) := .cons rfl (r.append hd)
  have hl : (Value.ref (s.heap.objs.size + 1) :: us ++ ds).length = ps.length := by
    have e := r2.length
    rw [F.len _ _ _ _ hq] at e
    exact e.symm
  refine wpAny_call (make_map (f := f) I.kIn M.makes M.init (beq_iff_eq.mp M.fn) (codeAny_mono (F.run _ X.stack _ _ ⟨Value.ref (s.heap.objs.size + 1) :: us, []⟩ (Value.ref (s.heap.objs.size + 1) :: (us ++ ds)) _ _ (E σ) (hr.make C us [])
    (I2.env0.make C us []) (hb _ (Value.ref (s.heap.objs.size + 1) :: us) I2.kIn hl) r2 hq) fun r s' hq' => ?_))
  cases r with
  | error e => exact hx pins _ _ e s' I2 hq'
  | ok fl =>
    cases fl with
    | ret u =>
      obtain ⟨v, H', I3, rv, ev, q3⟩ := I2.after hq'
      subst ev
      exact ⟨rv, ⟨V.ref (s.heap.objs.size + 1), H', I3, rfl, q3⟩⟩
    | next => exact False.elim hq'
    | brk => exact False.elim hq'
    | cont => exact False.elim hq'
theorem pe_makS (M : Mk X.K C f) (F : FnOk X.prog X.w X.K X.mg X.base CX k f fd ps sp) (hr : Room (k + 1) X.A) (hg : Gl X x) (hm : X.mg x = some (.ref C)) (hb : Binds X.K fd ps ds) (hd : Vals dvs ds) (hx : ∀ σ, PassesAt CX X σ (E σ))
    (ha : PA X (e :: es) t) (hdb : (x == ("__debug__" : Str)) = false := by decide) (he : starEach (e :: es) X.env = (false, eval e X.env) :: starEach es X.env := by rfl) (hpl : (backTo pos (starEach es X.env)).any (·.1) = false := by rfl) :
    PE X (.Call (.Name x p) (e :: es) [] pos) (tMakS C sp dvs E t) := by
  refine ⟨fun pins s σ H Q I h => ?_⟩
  refine wpAny_Call_Name_kw (ld_glob I hg hm ?_ hdb)
  refine PySem.W.callWith_K (h₀ := X.base) I.ok.mod.kin M.kp (thn (ha.run pos pins s σ H _ I h) fun us s1 ⟨vs, H1, I1, r, q⟩ => ⟨I1.kIn, ?_⟩) he hpl
  exact run_makS M F hr hb hd (hx σ) I1 r q
theorem pe_makS0 (M : Mk X.K C f) (F : FnOk X.prog X.w X.K X.mg X.base CX k f fd ps sp) (hr : Room (k + 1) X.A) (hg : Gl X x) (hm : X.mg x = some (.ref C)) (hb : Binds X.K fd ps ds) (hd : Vals dvs ds) (hx : ∀ σ, PassesAt CX X σ (E σ))
    (hdb : (x == ("__debug__" : Str)) = false := by decide) : PE X (.Call (.Name x p) [] [] pos) (tMakS C sp dvs E tNil) := by
  refine ⟨fun pins s σ H Q I h => ?_⟩
  refine wpAny_Call_Name_kw (ld_glob I hg hm ?_ hdb)
  exact PySem.W.callWith_K0 I.kIn M.kp (run_makS (us := []) M F hr hb hd (hx σ) I .nil h)
end
/-- a new instance -/
def zMake (c : Str) (F : FnV) (dds : List D) (fr : SD → R (List D)) : SD → R Vl := fun s => (fr s).bind fun ds s1 => match F (.cell s1.st.nx :: (ds ++ dds)) (s1.st.new (.obj c [])) with
  | .ok (.d .non) s' => .ok (.d (.cell s1.st.nx)) { s1 with st := s'.st }
  | .ex c fs s' => .ex c fs { s1 with st := s'.st }
  | _ => .bad
section
variable {G : Gc} {W : WX} {E : En} {σ : L2.St} {τ : List V} {H : Hp} {s s' : SD} {θ : List Vl} {v u : V} {a b : Vl} {x y : D} {p : Wr} {Q : VK}
theorem RE.make {c : Str} {C : Addr} {F : FnV} {n : Nat} {dvs : List V} {dds : List D} {t : TA} {fr : SD → R (List D)} {k : Nat} (hC : G.mg c = some (.ref C)) (hd : DvOk dvs dds) (hr : RA G W t fr) (hm : Many fr k) (hn : k + dvs.length + 1 = n) :
    RE G W (tMakS C (spF G n F) dvs (WE W) t) (zMake c F dds fr) := by
  intro E σ τ H s θ Q hN hR hw
  unfold zMake at hw
  rw [Wp_bind] at hw
  refine hr E σ τ H s θ _ hN hR (hw.eq.mono (fun ds s1 ⟨e, hw⟩ vs H1 h1 => ?_) fun _ _ _ h => h)
  obtain ⟨p, rfl, hl, h, r⟩ := h1.args hR.tlen
  intro x dx hx hdx hne
  have q1 := h.alloc (o := .own x) hdx
  have hx' : ({ p with H := upd p.H dx (.own x) } : Wr).H x = none := by show upd _ _ _ _ = _; rw [upd_ne (Ne.symm hne)]; exact hx
  have q2 := q1.allocOwn (o := .ins C dx []) (x := .obj c []) hx' ⟨C, dx, [], hC, upd_same, rfl⟩
  have ll : (σ ++ τ.map some).length = (s1.sl ++ θ.map some).length := h.len
  have q3 := q2.celled (k := (s1.sl ++ θ.map some).length) (a := x) snoc_new (by rw [← ll]; exact snoc_new)
  rw [set_last] at q3
  have le1 := (le_alloc (p := p) (o := .own x) hdx).trans (le_allocO (o := .ins C dx []) hx')
  have le2 : ∀ {q : Wr}, q.n = s1.st.nx → q.le { q with γ := fun i => if i = s1.st.nx then x else q.γ i, n := s1.st.nx + 1 } := fun {q} hq => ⟨fun i hi => if_neg (by rw [hq] at hi; omega), by rw [hq]; exact Nat.le_succ _, fun b u n e => ⟨.inl e, n⟩⟩
  have le := le1.trans (le2 q2.pn)
  obtain ⟨v0, e0, r0⟩ := q3.ent _ (.d (.cell s1.st.nx)) snoc_new
  rw [← ll, snoc_new] at e0
  cases e0
  refine ⟨by rw [List.length_cons, List.length_append, r.len, hm _ _ _ e]; exact hn, E, _, _, _, _, _, .cell s1.st.nx :: (ds ++ dds), rfl, q3, ⟨_, _, rfl, r0, (r.mono le).append hd.reps⟩, ?_⟩
  cases e1 : F (.cell s1.st.nx :: (ds ++ dds)) (s1.st.new (.obj c [])) with
  | bad => rw [e1] at hw; exact hw.elim
  | ex c fs s' =>
    rw [e1] at hw
    intro cls d p' h' x
    exact hw cls d σ _ ⟨p', rfl, hl, h'.pop1 (le_app hl), x⟩
  | ok a s' =>
    rw [e1] at hw
    cases a with
    | own y => exact hw.elim
    | loc j => exact hw.elim
    | d y =>
      cases y with
      | non =>
        intro v p' h'
        have l2 := snoc_len h'.len
        obtain ⟨v1, e2, r1⟩ := h'.ent _ _ snoc_new
        rw [← l2, snoc_new] at e2
        cases e2
        have e3 : v = .non := r1
        exact ⟨e3, hw (.ref x) _ (.snoc (h'.pop1 (by simp; omega)) hl rfl)⟩
      | _ => exact hw.elim
/-! ### one argument -/
theorem RE.cb1 {r : List V → Hp → VK → Prop} {f : Vl → SD → R Vl} {ta : TE} {fa : SD → R Vl} (hp : Prim1 G (fun v H Q => r [v] H Q) f) (nx : ∀ a s c fs s', f a s ≠ .ex c fs s') (ha : RE G W ta fa) : RE G W (tCB r (tCons ta tNil)) (z1 f fa) :=
  RE.op1 (r := fun v H Q => r [v] H Q) hp nx ha
theorem RE.cb2 {r : List V → Hp → VK → Prop} {f : Vl → Vl → SD → R Vl} {ta tb : TE} {fa fb : SD → R Vl} (hp : Prim2 G (fun v u H Q => r [v, u] H Q) f) (nx : ∀ a b s c fs s', f a b s ≠ .ex c fs s') (ha : RE G W ta fa) (hb : RE G W tb fb) : RE G W (tCB r (tCons ta (tCons tb tNil))) (z2 f fa fb) :=
  RE.op2 (r := fun v u H Q => r [v, u] H Q) hp nx ha hb
theorem p_len : Prim1 G (fun v H Q => rLenZ G.K [v] H Q) oLen := by
  intro E σ τ s θ p v a Q hl h hw
  obtain ⟨h0, ca, _⟩ := last1 hl h
  unfold oLen at hw
  split at hw
  · rename_i e
    obtain ⟨b, vs, rfl, hb, r⟩ := (ca _ e).lst
    exact .inl ⟨b, vs, rfl, .inl (.of hb), by rw [r.len]; exact fin_d h0 hl hw rfl⟩
  · rename_i e
    obtain ⟨b, vs, rfl, hb, r⟩ := (ca _ e).con
    exact .inl ⟨b, vs, rfl, .inl hb, by rw [r.len]; exact fin_d h0 hl hw rfl⟩
  · rename_i e
    obtain ⟨b, vs, rfl, hb, r⟩ := (ca _ e).tup
    exact .inl ⟨b, vs, rfl, .inr (.of hb), by rw [r.len]; exact fin_d h0 hl hw rfl⟩
  · rename_i e
    obtain rfl := (ca _ e).str
    split at hw
    · rename_i hz
      exact .inr (.inl ⟨_, rfl, hz, fin_d h0 hl hw rfl⟩)
    · exact hw.elim
  · rename_i e
    obtain ⟨b, vs, rfl, hb, r⟩ := (ca _ e).dct
    exact .inr (.inr ⟨b, vs, rfl, hb, by rw [r.len]; exact fin_d h0 hl hw rfl⟩)
  · exact hw.elim
def dkey : Key → D
  | .inl i => .int i
  | .inr z => .str z
theorem dkey_rep {k : Key} : Rep G p (dkey k) (kV k) := by cases k <;> rfl
theorem keys_reps : ∀ {ks : List (Key × D)} {vs : List (Key × V)}, RepK G p ks vs → Reps G p (ks.map fun kv => dkey kv.1) (vs.map fun kv => kV kv.1)
  | [], _, h => by rw [show _ = [] from h]; exact rfl
  | (k, d) :: ks, _, h => by
    obtain ⟨v, r, rfl, h1, h2⟩ := h
    exact ⟨_, _, rfl, dkey_rep, keys_reps h2⟩
/-- list(x) -/
noncomputable def oList (a : Vl) (s : SD) : R Vl := match s.cont a with
  | some (.lst xs) => .ok (.own (.lst xs)) s
  | some (.con xs) => .ok (.own (.lst xs)) s
  | some (.tup xs) => .ok (.own (.lst xs)) s
  | some (.dct ks) => .ok (.own (.lst (ks.map fun kv => dkey kv.1))) s
  | _ => .bad
def rListZ (K : PySem.W.Frag) : List V → Hp → VK → Prop := fun xs H Q => rListOf K xs H Q ∨ rListD xs H Q
theorem cl_listZ {X : Cx} {K : PySem.W.Frag} (hc : X.calm = true) (hK : X.K = K := by rfl) : CallR X (.type "list") (rListZ K) := CallR.or (hK ▸ cl_list_of) (cl_listD hc)
theorem p_list : Prim1 G (fun v H Q => rListZ G.K [v] H Q) oList := by
  intro E σ τ s θ p v a Q hl h hw
  obtain ⟨h0, ca, _⟩ := last1 hl h
  unfold oList at hw
  split at hw
  · rename_i e
    obtain ⟨b, vs, rfl, hb, r⟩ := (ca _ e).lst
    exact .inl ⟨b, vs, rfl, .inl (.of hb), fun l hn => fin_lst h0 hl hw hn r⟩
  · rename_i e
    obtain ⟨b, vs, rfl, hb, r⟩ := (ca _ e).con
    exact .inl ⟨b, vs, rfl, .inl hb, fun l hn => fin_lst h0 hl hw hn r⟩
  · rename_i e
    obtain ⟨b, vs, rfl, hb, r⟩ := (ca _ e).tup
    exact .inl ⟨b, vs, rfl, .inr (.of hb), fun l hn => fin_lst h0 hl hw hn r⟩
  · rename_i e
    obtain ⟨b, vs, rfl, hb, r⟩ := (ca _ e).dct
    exact .inr ⟨b, vs, rfl, hb, fun l hn => fin_lst h0 hl hw hn (keys_reps r)⟩
  · exact hw.elim
/-! dict(x) -/
def dmerge (ks : List (Key × D)) : List (Key × D) := ks.foldl (fun acc kv => dput acc kv.1 kv.2) []
def pairs : List D → Option (List (Key × D))
  | [] => some []
  | .tup [k, d] :: ds => match k.key, pairs ds with
    | some k, some r => some ((k, d) :: r)
    | _, _ => none
  | _ => none
theorem RepK.merge : ∀ {ks : List (Key × D)} {vs : List (Key × V)} {acc : List (Key × D)} {av : List (Key × V)}, RepK G p ks vs → RepK G p acc av → RepK G p (ks.foldl (fun acc kv => dput acc kv.1 kv.2) acc) (mergeK av vs)
  | [], _, _, _, h, h2 => by rw [show _ = [] from h]; exact h2
  | (k, d) :: ks, _, _, _, h, h2 => by
    obtain ⟨v, r, rfl, h1, h3⟩ := h
    have q := RepK.merge h3 (h2.put (k := k) h1)
    exact q
theorem pairs_rep : ∀ {ds : List D} {vs : List V} {ks : List (Key × D)}, Reps G p ds vs → pairs ds = some ks → ∃ (ps : List Addr) (kvs : List (Key × V)), vs = ps.map V.ref ∧ RepK G p ks kvs ∧ Paired (fun q kv => SqT G.K p.H q [kV kv.1, kv.2]) ps kvs
  | [], vs, ks, h, e => by
    cases e
    rw [show vs = [] from h]
    exact ⟨[], [], rfl, rfl, .nil⟩
  | d :: ds, vs, ks, h, e => by
    obtain ⟨v, r, rfl, h1, h2⟩ := h
    unfold pairs at e
    split at e
    · rename_i heq
      cases heq
    · rename_i kd d' ds' heq
      cases heq
      split at e
      · rename_i k r' e1 e2
        cases e
        obtain ⟨ps, kvs, rfl, h3, h4⟩ := pairs_rep h2 e2
        obtain ⟨a, vs, rfl, ⟨_, hh⟩, rr⟩ := h1
        obtain ⟨v1, r1, rfl, q1, v2, r2, rfl, q2, rfl⟩ := rr
        obtain rfl := key_rep q1 e1
        exact ⟨a :: ps, (k, v2) :: kvs, rfl, ⟨v2, kvs, rfl, q2, h3⟩, .cons (.of hh) h4⟩
      · cases e
    · cases e
noncomputable def oDict (a : Vl) (s : SD) : R Vl := match s.cont a with
  | some (.dct ks) => .ok (.own (.dct ks)) s
  | some (.lst ds) => match pairs ds with
    | some ks => .ok (.own (.dct (dmerge ks))) s
    | none => .bad
  | _ => .bad
def rDictZ (K : PySem.W.Frag) : List V → Hp → VK → Prop := fun xs H Q => rDictD xs H Q ∨ ∃ (a : Addr) (ps : List Addr) (kvs : List (Key × V)), xs = [.ref a] ∧ SqL K H a (ps.map V.ref) ∧ Paired (fun p kv => SqT K H p [kV kv.1, kv.2]) ps kvs ∧
    ∀ p, H p = none → Q (.ref p) (upd H p (.dK (mergeK [] kvs)))
theorem cl_dictZ {X : Cx} {K : PySem.W.Frag} (hc : X.calm = true) (hK : X.K = K := by rfl) : CallR X (.type "dict") (rDictZ K) := CallR.or cl_dictD (hK ▸ call_dictP hc)
theorem p_dict : Prim1 G (fun v H Q => rDictZ G.K [v] H Q) oDict := by
  intro E σ τ s θ p v a Q hl h hw
  obtain ⟨h0, ca, _⟩ := last1 hl h
  unfold oDict at hw
  split at hw
  · rename_i e
    obtain ⟨b, vs, rfl, hb, r⟩ := (ca _ e).dct
    exact .inl ⟨b, vs, rfl, hb, fun l hn => fin_dct h0 hl hw hn r⟩
  · rename_i e
    split at hw
    · rename_i e1
      obtain ⟨b, vs, rfl, hb, r⟩ := (ca _ e).lst
      obtain ⟨ps, kvs, rfl, r1, r2⟩ := pairs_rep r e1
      exact .inr ⟨b, ps, kvs, rfl, .of hb, r2, fun l hn => fin_dct h0 hl hw hn (r1.merge rfl)⟩
    · exact hw.elim
  · exact hw.elim
/-! sorted, sum -/
def dints : List D → Option (List Int)
  | [] => some []
  | .int i :: ds => match dints ds with
    | some is => some (i :: is)
    | none => none
  | _ => none
theorem dints_rep : ∀ {ds : List D} {vs : List V} {is : List Int}, Reps G p ds vs → dints ds = some is → vs = is.map V.int
  | [], vs, is, h, e => by cases e; exact h
  | d :: ds, vs, is, h, e => by
    obtain ⟨v, r, rfl, h1, h2⟩ := h
    unfold dints at e
    split at e
    · rename_i heq; cases heq
    · rename_i heq
      cases heq
      split at e
      · rename_i e1
        cases e
        rw [List.map_cons, dints_rep h2 e1, show v = .int _ from h1]
      · cases e
    · cases e
theorem ints_reps {is : List Int} : Reps G p (is.map D.int) (is.map V.int) := by
  induction is with
  | nil => rfl
  | cons i is ih => exact ⟨_, _, rfl, rfl, ih⟩
/-- the keys, whole numbers all of them -/
def ikeys : List (Key × D) → Option (List Int)
  | [] => some []
  | (.inl i, _) :: ks => match ikeys ks with
    | some is => some (i :: is)
    | none => none
  | _ => none
theorem ikeys_keys : ∀ {ks : List (Key × D)} {is : List Int}, ikeys ks = some is → ks.map (·.1) = is.map Sum.inl
  | [], is, e => by cases e; rfl
  | k :: ks, is, e => by
    unfold ikeys at e
    split at e
    · rename_i heq; cases heq
    · rename_i heq
      cases heq
      split at e
      · rename_i e1
        cases e
        rw [List.map_cons, List.map_cons, ikeys_keys e1]
      · cases e
    · cases e
def srt (ns : List Int) : List Int := ns.mergeSort fun a b => decide (a ≤ b)
theorem srt_perm {ns : List Int} : (srt ns).Perm ns := List.mergeSort_perm ns _
theorem srt_up {ns : List Int} : (srt ns).Pairwise (· ≤ ·) := (List.pairwise_mergeSort (le := fun a b : Int => decide (a ≤ b)) (fun a b c h1 h2 => by simp at *; omega) (fun a b => by simp; omega) ns).imp fun h => by simpa using h
theorem srt_is {ns ys : List Int} (hp : ys.Perm ns) (hs : ys.Pairwise (· ≤ ·)) : ys = srt ns :=
  List.Perm.eq_of_pairwise (le := (· ≤ ·)) (fun a b _ _ h1 h2 => Int.le_antisymm h1 h2) hs srt_up (hp.trans srt_perm.symm)
noncomputable def oSorted (a : Vl) (s : SD) : R Vl := match s.cont a with
  | some (.lst ds) => match dints ds with
    | some is => .ok (.own (.lst ((srt is).map D.int))) s
    | none => .bad
  | some (.dct ks) => match ikeys ks with
    | some is => if is.length < 64 then .ok (.own (.lst ((srt is).map D.int))) s else .bad
    | none => .bad
  | _ => .bad
def rSortedZ (K : PySem.W.Frag) : List V → Hp → VK → Prop := fun xs H Q => rSortedI K xs H Q ∨ rSortedDI xs H Q
theorem cl_sortedZ {X : Cx} {K : PySem.W.Frag} (hc : X.calm = true) (hK : X.K = K := by rfl) : CallR X (.builtin "sorted") (rSortedZ K) := CallR.or (hK ▸ cr_sortedI) (cl_sortedDI hc)
theorem p_sorted : Prim1 G (fun v H Q => rSortedZ G.K [v] H Q) oSorted := by
  intro E σ τ s θ p v a Q hl h hw
  obtain ⟨h0, ca, _⟩ := last1 hl h
  unfold oSorted at hw
  split at hw
  · rename_i e
    split at hw
    · rename_i e1
      obtain ⟨b, vs, rfl, hb, r⟩ := (ca _ e).lst
      obtain rfl := dints_rep r e1
      refine .inl ⟨b, _, rfl, .of hb, fun ns' l hp hs hn => ?_⟩
      rw [srt_is hp hs]
      exact fin_lst h0 hl hw hn ints_reps
    · exact hw.elim
  · rename_i e
    split at hw
    · rename_i is e1
      split at hw
      · rename_i hz
        obtain ⟨b, vs, rfl, hb, r⟩ := (ca _ e).dct
        refine .inr ⟨b, vs, is, rfl, hb, r.keys.trans (ikeys_keys e1), hz, fun ns' l hp hs hn => ?_⟩
        rw [srt_is hp hs]
        exact fin_lst h0 hl hw hn ints_reps
      · exact hw.elim
    · exact hw.elim
  · exact hw.elim
noncomputable def oSum (a : Vl) (s : SD) : R Vl := match s.cont a with
  | some (.lst ds) => match dints ds with
    | some is => .ok (.d (.int is.sum)) s
    | none => .bad
  | _ => .bad
theorem p_sum : Prim1 G (fun v H Q => rSum G.K [v] H Q) oSum := by
  intro E σ τ s θ p v a Q hl h hw
  obtain ⟨h0, ca, _⟩ := last1 hl h
  unfold oSum at hw
  split at hw
  · rename_i e
    split at hw
    · rename_i e1
      obtain ⟨b, vs, rfl, hb, r⟩ := (ca _ e).lst
      obtain rfl := dints_rep r e1
      exact ⟨b, _, rfl, .of hb, fin_d h0 hl hw rfl⟩
    · exact hw.elim
  · exact hw.elim
def dbls : List D → Option (List Bool)
  | [] => some []
  | .bl i :: ds => match dbls ds with
    | some is => some (i :: is)
    | none => none
  | _ => none
theorem dbls_rep : ∀ {ds : List D} {vs : List V} {is : List Bool}, Reps G p ds vs → dbls ds = some is → vs = is.map V.bl
  | [], vs, is, h, e => by cases e; exact h
  | d :: ds, vs, is, h, e => by
    obtain ⟨v, r, rfl, h1, h2⟩ := h
    unfold dbls at e
    split at e
    · rename_i heq; cases heq
    · rename_i heq
      cases heq
      split at e
      · rename_i e1
        cases e
        rw [List.map_cons, dbls_rep h2 e1, show v = .bl _ from h1]
      · cases e
    · cases e
noncomputable def oAll (a : Vl) (s : SD) : R Vl := match s.cont a with
  | some (.lst ds) => match dbls ds with
    | some bs => .ok (.d (.bl (bs.all id))) s
    | none => .bad
  | _ => .bad
noncomputable def oAny (a : Vl) (s : SD) : R Vl := match s.cont a with
  | some (.lst ds) => match dbls ds with
    | some bs => .ok (.d (.bl (bs.any id))) s
    | none => .bad
  | _ => .bad
theorem p_all : Prim1 G (fun v H Q => rAll G.K [v] H Q) oAll := by
  intro E σ τ s θ p v a Q hl h hw
  obtain ⟨h0, ca, _⟩ := last1 hl h
  unfold oAll at hw
  split at hw
  · rename_i e
    split at hw
    · rename_i e1
      obtain ⟨b, vs, rfl, hb, r⟩ := (ca _ e).lst
      obtain rfl := dbls_rep r e1
      exact ⟨b, _, rfl, .of hb, fin_d h0 hl hw rfl⟩
    · exact hw.elim
  · exact hw.elim
theorem p_any : Prim1 G (fun v H Q => rAny G.K [v] H Q) oAny := by
  intro E σ τ s θ p v a Q hl h hw
  obtain ⟨h0, ca, _⟩ := last1 hl h
  unfold oAny at hw
  split at hw
  · rename_i e
    split at hw
    · rename_i e1
      obtain ⟨b, vs, rfl, hb, r⟩ := (ca _ e).lst
      obtain rfl := dbls_rep r e1
      exact ⟨b, _, rfl, .of hb, fin_d h0 hl hw rfl⟩
    · exact hw.elim
  · exact hw.elim
/-! numbers, texts -/
def oAbs (a : Vl) (s : SD) : R Vl := match a with
  | .d (.int i) => .ok (.d (.int (if i < 0 then -i else i))) s
  | _ => .bad
theorem p_abs : Prim1 G (fun v H Q => rAbs [v] H Q) oAbs := by
  intro E σ τ s θ p v a Q hl h hw
  obtain ⟨h0, _, r⟩ := last1 hl h
  unfold oAbs at hw
  split at hw
  · obtain rfl : v = .int _ := r
    exact ⟨_, rfl, fin_d h0 hl hw rfl⟩
  · exact hw.elim
def oInt (a : Vl) (s : SD) : R Vl := match a with
  | .d (.int i) => .ok (.d (.int i)) s
  | .d (.bl b) => .ok (.d (.int (if b then 1 else 0))) s
  | .d (.str z) => match PySem.intText? z with
    | some n => if z.length ≤ 640 then .ok (.d (.int n)) s else .bad
    | none => .bad
  | _ => .bad
def rIntZ : List V → Hp → VK → Prop := fun xs H Q => rInt1 xs H Q ∨ rIntS xs H Q
theorem cl_intZ {X : Cx} : CallR X (.type "int") rIntZ := CallR.or cl_int1 cl_int_str
theorem p_int : Prim1 G (fun v H Q => rIntZ [v] H Q) oInt := by
  intro E σ τ s θ p v a Q hl h hw
  obtain ⟨h0, _, r⟩ := last1 hl h
  unfold oInt at hw
  split at hw
  · obtain rfl : v = .int _ := r
    exact .inl (.inl ⟨_, rfl, fin_d h0 hl hw rfl⟩)
  · obtain rfl : v = .bl _ := r
    exact .inl (.inr ⟨_, rfl, fin_d h0 hl hw rfl⟩)
  · obtain rfl : v = .str _ := r
    split at hw
    · rename_i e
      split at hw
      · rename_i hz
        exact .inr ⟨_, _, rfl, e, hz, fin_d h0 hl hw rfl⟩
      · exact hw.elim
    · exact hw.elim
  · exact hw.elim
def oStr (a : Vl) (s : SD) : R Vl := match a with
  | .d (.int i) => if i.natAbs.log2 < 1920 then .ok (.d (.str (toString i))) s else .bad
  | _ => .bad
theorem p_str : Prim1 G (fun v H Q => rStr1 [v] H Q) oStr := by
  intro E σ τ s θ p v a Q hl h hw
  obtain ⟨h0, _, r⟩ := last1 hl h
  unfold oStr at hw
  split at hw
  · obtain rfl : v = .int _ := r
    split at hw
    · rename_i hz
      exact ⟨_, rfl, hz, fin_d h0 hl hw rfl⟩
    · exact hw.elim
  · exact hw.elim
def oMin (a b : Vl) (s : SD) : R Vl := match a, b with
  | .d (.int i), .d (.int j) => .ok (.d (.int (if j < i then j else i))) s
  | _, _ => .bad
def oMax (a b : Vl) (s : SD) : R Vl := match a, b with
  | .d (.int i), .d (.int j) => .ok (.d (.int (if j > i then j else i))) s
  | _, _ => .bad
theorem last2v (hl : σ.length = s.sl.length) (h : Sm G E s.sl.length p (((σ ++ τ.map some) ++ [some v]) ++ [some u]) (((s.sl ++ θ.map some) ++ [some (.d x)]) ++ [some (.d y)]) s.st) : Rep G p x v ∧ Rep G p y u := by
  have l := snoc_len h.len
  obtain ⟨u', e1, r⟩ := h.ent _ _ snoc_new
  rw [← l, snoc_new] at e1; cases e1
  have h1 := h.pop1 (by simp; omega)
  obtain ⟨u', e1, r'⟩ := h1.ent _ _ snoc_new
  rw [← snoc_len h1.len, snoc_new] at e1; cases e1
  exact ⟨r', r⟩
theorem p_min : Prim2 G (fun v u H Q => rMin2 [v, u] H Q) oMin := by
  intro E σ τ s θ p v u a b Q hl h hw
  unfold oMin at hw
  split at hw
  · obtain ⟨r1, r2⟩ := last2v hl h
    obtain ⟨h0, _, _⟩ := last2 hl h
    obtain rfl : v = .int _ := r1
    obtain rfl : u = .int _ := r2
    exact ⟨_, _, rfl, fin_d h0 hl hw rfl⟩
  · exact hw.elim
theorem p_max : Prim2 G (fun v u H Q => rMax2 [v, u] H Q) oMax := by
  intro E σ τ s θ p v u a b Q hl h hw
  unfold oMax at hw
  split at hw
  · obtain ⟨r1, r2⟩ := last2v hl h
    obtain ⟨h0, _, _⟩ := last2 hl h
    obtain rfl : v = .int _ := r1
    obtain rfl : u = .int _ := r2
    exact ⟨_, _, rfl, fin_d h0 hl hw rfl⟩
  · exact hw.elim
end
end Z

/-! the value level: stores, slices, dicts walked, isinstance -/
namespace Z
open PySem PySem.Spec PyProof.Rows L2 M
open Classical
section
variable {G : Gc} {W : WX} {E : En} {σ σ' σ2 : L2.St} {τ τ' τ2 : List V} {H : Hp} {s s' : SD} {θ θ' θ2 : List Vl} {v u : V} {a b : Vl} {x y : D} {p : Wr} {Q : VK} {m : Nat} {w w' : List (Option V)} {ŵ ŵ' : List (Option Vl)} {S : Sto} {k : Nat} {is : List Nat}
/-! ### d[k] = v -/
/-- the dict, list at hand changed, as a statement -/
def stO (f : D → D → Option D) (o i : Vl) (s : SD) : R Unit := match i with
  | .d z => match s.cont o with
    | some c => match f c z with
      | some y => s.mod y o
      | none => .bad
    | none => .bad
  | _ => .bad
theorem stO_nx {f : D → D → Option D} : ∀ (a b : Vl) (s : SD) c fs s', stO f a b s ≠ .ex c fs s' := by
  intro a b s c fs s'
  unfold stO
  split
  · split
    · split
      · exact mod_nx _ _ _ _ _ _
      · intro q; cases q
    · intro q; cases q
  · intro q; cases q
/-- what a store asks: the container at b, the index, the value -/
def StOk (G : Gc) (r : V → V → V → Hp → (Hp → Prop) → Prop) (f : D → D → D → Option D) : Prop := ∀ (p : Wr) (c z x y : D) (b : Addr) (i v : V) (Q : Hp → Prop), f x c z = some y → Ho G p c b → Rep G p z i → Rep G p x v →
  ∃ ho, (p.le { p with H := upd p.H b ho } → Ho G { p with H := upd p.H b ho } y b) ∧ (Q (upd p.H b ho) → r (.ref b) i v p.H Q)
/-- value, container, index at hand: it is stored -/
theorem st_go {r : V → V → V → Hp → (Hp → Prop) → Prop} {f : D → D → D → Option D} (hr : StOk G r f) {v o i : V} {a b : Vl} {x : D} {P : Unit → SD → Prop} {Ex : XQ} {R0 : Hp → Prop} (h : Rel G E σ (τ ++ [v] ++ [o] ++ [i]) H s (θ ++ [.d x] ++ [a] ++ [b]))
    (hw : Wp (stO (f x) a b s) P Ex) (k : ∀ s' H', Rel G E σ τ H' s' θ → P () s' → R0 H') : r o i v H R0 := by
  obtain ⟨p, rfl, hl, h⟩ := h.unsnoc
  unfold stO at hw
  split at hw
  · rename_i z
    obtain ⟨u', e4, r4⟩ := h.ent _ _ snoc_new
    rw [← snoc_len h.len, snoc_new] at e4
    cases e4
    have h1 := h.pop1 (le_app hl)
    rw [show σ ++ (τ ++ [v] ++ [o]).map some = (σ ++ (τ ++ [v]).map some) ++ [some o] from by simp, show s.sl ++ (θ ++ [Vl.d x] ++ [a]).map some = (s.sl ++ (θ ++ [Vl.d x]).map some) ++ [some a] from by simp] at h1
    split at hw
    · rename_i c e1
      split at hw
      · rename_i y e2
        cases e3 : s.mod y a with
        | bad => rw [e3] at hw; exact hw.elim
        | ex _ _ _ => exact (mod_nx _ _ _ _ _ _ e3).elim
        | ok _ s' =>
          rw [e3] at hw
          obtain ⟨b, rfl, ho, go⟩ := mod1 hl h1 e1 e3
          have h2 := h1.pop1 (le_app hl)
          rw [show σ ++ (τ ++ [v]).map some = (σ ++ τ.map some) ++ [some v] from by simp, show s.sl ++ (θ ++ [Vl.d x]).map some = (s.sl ++ θ.map some) ++ [some (.d x)] from by simp] at h2
          obtain ⟨u', e5, r5⟩ := h2.ent _ _ snoc_new
          rw [← snoc_len h2.len, snoc_new] at e5
          cases e5
          obtain ⟨o', hy, k2⟩ := hr p c _ x y b i v R0 e2 ho r4 r5
          obtain ⟨le, hl', hS⟩ := go o' hy
          exact k2 (k s' _ (Rel.pop (v := v) (a := .d x) ⟨_, rfl, hl', hS⟩) hw)
      · exact hw.elim
    · exact hw.elim
  · exact hw.elim
noncomputable def fDput (x c z : D) : Option D := match c, z.key with
  | .dct ks, some k => if ks.length < sizeLine then some (.dct (dput ks k x)) else none
  | _, _ => none
def rDput : V → V → V → Hp → (Hp → Prop) → Prop := fun o i v H Q => ∃ a H4, o = .ref a ∧ DPut H a i v H4 ∧ Q H4
theorem h_dput : StOk G rDput fDput := by
  intro p c z x y b i v Q e ho ri rv
  unfold fDput at e
  split at e
  · split at e
    · rename_i ks k e1 hz
      cases e
      obtain ⟨vs, e2, r⟩ := ho
      have h1 := key_rep ri e1
      subst h1
      exact ⟨_, fun le => ⟨_, upd_same, (r.mono le).put (Rep.mono le rv)⟩, fun q => ⟨b, _, rfl, DPut.k e2 (by rw [r.len]; exact hz), q⟩⟩
    · cases e
  · cases e
noncomputable def zDput (fo fi fv : SD → R Vl) : SD → R Fl := fun s => (fv s).bind fun v s0 => (s0.fix v).bind fun x s1 => ((fo s1).bind fun o s2 => (fi s2).bind fun i s3 => stO (fDput x) o i s3).bind fun _ s4 => .ok .nx s4
theorem RS.dput {td ty tv : TE} {fo fi fv : SD → R Vl} (ho : RE G W td fo) (hi : RE G W ty fi) (hv : RE G W tv fv) : RS G W (sDPut td ty tv) (zDput fo fi fv) := by
  intro E σ τ H s θ D hN hR hw
  unfold zDput at hw
  refine RE.fix hv E σ τ H s θ _ hN hR ?_
  unfold zFix zVia
  rw [Wp_bind] at hw ⊢
  refine hw.mono (fun v0 s0 hw => ?_) fun _ _ _ h => h
  rw [Wp_bind] at hw ⊢
  refine hw.mono (fun x s1 hw => ?_) fun _ _ _ h => h
  intro v H1 h1
  rw [Wp_bind] at hw
  refine RE.two (Q := fun o i H3 => ∃ a H4, o = .ref a ∧ DPut H3 a i v H4 ∧ D.nx σ H4) ho hi hN.d h1 (hw.mono (fun _ _ h => h) fun _ _ _ h => h.up) fun a b s2 o i H2 h2 hw => ?_
  exact st_go h_dput h2 hw fun s' H' h' hw => hw σ H' h'
/-! xs[i] = v -/
def fSetL (x c z : D) : Option D := match c, z with
  | .lst ds, .int k => match ixN ds.length k with
    | some j => some (.lst (ds.set j x))
    | none => none
  | _, _ => none
theorem h_setL : StOk G rSetL fSetL := by
  intro p c z x y b i v Q e ho ri rv
  unfold fSetL at e
  split at e
  · split at e
    · rename_i ds k _ j e1
      cases e
      obtain ⟨vs, e2, r⟩ := ho
      have h1 : i = .int k := ri
      subst h1
      exact ⟨_, fun le => ⟨_, upd_same, (r.mono le).set (Rep.mono le rv) j⟩, fun q => ⟨b, vs, k, j, rfl, rfl, e2, by rw [r.len]; exact e1, q⟩⟩
    · cases e
  · cases e
def zSub (fo fi : SD → R Vl) (a : Vl) (s : SD) : R Unit := (s.fix a).bind fun x s1 => (fo s1).bind fun o s2 => (fi s2).bind fun i s3 => stO (fSetL x) o i s3
theorem RG.sub {to ti : TE} {fo fi : SD → R Vl} (ho : RE G W to fo) (hi : RE G W ti fi) : RG G W [] (gSub to ti rSetL) (zSub fo fi) := by
  intro E σ τ H s θ v a Q hN hR hw
  unfold zSub at hw
  rw [Wp_bind] at hw
  obtain ⟨p, rfl, hl, h⟩ := hR.unsnoc
  cases e : s.fix a with
  | bad => rw [e] at hw; exact hw.elim
  | ex c fs s2 => exact (fix_nx _ _ _ _ _ e).elim
  | ok x s2 =>
    rw [e] at hw
    obtain ⟨p', hp, hs, h'⟩ := fix_ok E s _ x s2 p _ _ v e h (le_app hl)
    have hR2 : Rel G E σ (τ ++ [v]) p.H s2 (θ ++ [.d x]) := hp ▸ .snoc h' (hl.trans hs.symm) rfl
    refine RE.two (Q := fun o i H2 => rSetL o i v H2 fun H3 => Q σ H3) ho hi hN.d hR2 (Wp.mono (show Wp ((fo s2).bind fun o s2 => (fi s2).bind fun i s3 => stO (fSetL x) o i s3) _ _ from hw) (fun _ _ h => h) fun _ _ _ h => h.up) fun a b s2 o i H2 h2 hw => ?_
    exact st_go h_setL h2 hw fun s' H' h' hw => hw σ H' h' ⟨rfl, fun _ _ => rfl⟩
/-! ### x op= n -/
def zAug (i : Nat) (f : Int → Int → Int) (fe : SD → R Vl) : SD → R Fl := fun s => match s.sl[i]? with
  | some (some (.d (.int m))) => (fe s).bind fun b s1 => match b with
    | .d (.int n) => .ok .nx { s1 with sl := s1.sl.set i (some (.d (.int (f m n)))) }
    | _ => .bad
  | _ => .bad
theorem RS.aug {i : Nat} {te : TE} {f : Int → Int → Int} {fe : SD → R Vl} (he : RE G W te fe) : RS G W (tAug i te (ipI f)) (zAug i f fe) := by
  intro E σ τ H s θ D hN hR hw
  unfold zAug at hw
  split at hw
  · rename_i m e
    obtain ⟨p, rfl, hl, h⟩ := hR
    obtain ⟨hs, u, e1, r⟩ := h.slot e
    obtain rfl : u = .int m := r
    rw [List.getElem?_append_left (by rw [hl]; exact lt_of_get e)] at e1
    rw [Wp_bind] at hw
    refine ⟨.int m, e1, he E σ τ p.H s θ _ hN ⟨p, rfl, hl, h⟩ (hw.mono (fun b s1 hw y H1 h1 => ?_) fun _ _ _ h => h)⟩
    split at hw
    · rename_i n
      obtain ⟨p1, rfl, r1⟩ := h1.last
      obtain rfl : y = .int n := r1
      refine ⟨m, n, rfl, rfl, hw _ _ ?_⟩
      exact (h1.pop.push (x := .int (f m n)) (v := .int (f m n)) fun _ => rfl).store hN fun j q => nomatch q
    · exact hw.elim
  · exact hw.elim
/-! d[k] op= n, xs[i] op= n -/
theorem get_listZ {X : Cx} {K : PySem.W.Frag} (hK : X.K = K := by rfl) : PGet X (rIxL K) := by
  subst hK
  intro pins s σ H x y v u Q I rx ry h
  obtain ⟨p, xs, i, z, rfl, rfl, hq, he, q⟩ := h
  cases rx
  obtain ⟨t, rfl⟩ := ry
  obtain ⟨its, r, pl, hz⟩ := I.list hq
  obtain ⟨j, h1, h2, h3, h4, h5⟩ := atI_get he
  obtain ⟨w, ew, rw'⟩ := r.get h2
  have hl := r.length
  have hn := line63
  have fin : EP X pins σ Q w s := ⟨z, H, I, rw', q⟩
  by_cases h0 : 0 ≤ i
  · have hj : i.toNat = j := by
      rw [seqIndex_of h0 h5] at h1
      exact Option.some.inj h1
    exact wpAny_getItem_list pl.isList h0 (by omega) (by rw [hj]; simpa using ew) fin
  · have hj : (i + (its.toArray.size : Int)).toNat = j := by
      rw [seqIndex_neg (by omega) h4] at h1
      rw [List.size_toArray, ← hl]
      exact Option.some.inj h1
    exact wpAny_getItem_list_neg pl.isList (by omega) (by rw [List.size_toArray] <;> omega) (by omega) (by rw [hj]; simpa using ew) fin
noncomputable def gD (c z : D) : Option Int := match c, z.key with
  | .dct ks, some k => match dval ks k with
    | some (.int m) => some m
    | _ => none
  | _, _ => none
def gL (c z : D) : Option Int := match c, z with
  | .lst ds, .int k => match atI ds k with
    | some (.int m) => some m
    | _ => none
  | _, _ => none
noncomputable def zAugS (g : D → D → Option Int) (st : D → D → D → Option D) (f : Int → Int → Int) (fo fi fe : SD → R Vl) : SD → R Fl := fun s => ((fo s).bind fun o s1 => (fi s1).bind fun i s2 => match i, s2.cont o with
  | .d z, some c => match g c z, D.sc z with
    | some m, some _ => (fe s2).bind fun b s3 => match b with
      | .d (.int n) => stO (st (.int (f m n))) o (.d z) s3
      | _ => .bad
    | _, _ => .bad
  | _, _ => .bad).bind fun _ s4 => .ok .nx s4
theorem aug_go {st : D → D → D → Option D} {f : Int → Int → Int} {r : V → V → V → Hp → (Hp → Prop) → Prop} {fe : SD → R Vl} {te : TE} {D0 : Ends} {Q : V → Hp → Prop} {o i : V} {a : Vl} {z : D} {m : Int} {iv : V} (hr : StOk G r st) (he : RE G W te fe) (hN : Nl θ) (h : Rel G E σ (τ ++ [o] ++ [i]) H s (θ ++ [a] ++ [.d z])) (hz : z.sc = some iv)
    (hw : Wp ((fe s).bind fun b s3 => match b with
      | .d (.int n) => stO (st (.int (f m n))) a (.d z) s3
      | _ => .bad) (fun _ s4 => ∀ σ' H', Rel G E σ' τ H' s4 θ → D0.nx σ' H') (XP G W E τ θ))
    (k : ∀ n H4, r o i (.int (f m n)) H4 (fun H6 => D0.nx σ H6) → Q (.int n) H4) : te σ H Q := by
  have hi : i = iv := by
    obtain ⟨p, _, r⟩ := h.last
    exact sc_rep r hz
  subst hi
  refine RE.next (v := o) (a := a) he hN h.pop hw fun b s2 y H2 h2 hw => ?_
  split at hw
  · rename_i n
    obtain ⟨p1, _, r1⟩ := h2.last
    obtain rfl : y = .int n := r1
    refine k n H2 ?_
    have h3 := h2.pop
    have h5 := (h3.push (x := .int (f m n)) (v := .int (f m n)) fun _ => rfl).swap (by have := h3.tlen; simpa using this)
    exact st_go hr (h5.push (x := z) (v := i) fun _ => rep_sc hz) hw fun s' H' h' hw => hw σ H' h'
  · exact hw.elim
theorem sc_cont {z : D} {iv : V} (e : z.sc = some iv) : s.cont (.d z) = some z := by cases z <;> first | rfl | cases e
theorem RS.daug {td ty tv : TE} {fo fi fv : SD → R Vl} {rd : V → V → Hp → VK → Prop} {f : Int → Int → Int} (hd : ∀ (m n : Int) (H : Hp) (Q : VK), Q (.int (f m n)) H → rd (.int m) (.int n) H Q) (ho : RE G W td fo) (hi : RE G W ty fi) (hv : RE G W tv fv) : RS G W (sDAug td ty tv rd) (zAugS gD fDput f fo fi fv) := by
  intro E σ τ H s θ D hN hR hw
  unfold zAugS at hw
  rw [Wp_bind] at hw
  refine RE.two (Q := fun x y H2 => ∃ a v, x = .ref a ∧ DGet H2 a y (some v) ∧ tv σ H2 fun y2 H3 => rd v y2 H3 fun z H4 => ∃ H5, DPut H4 a y z H5 ∧ D.nx σ H5) ho hi hN hR hw fun a b s2 o i H2 h2 hw => ?_
  split at hw
  · rename_i z c e1
    split at hw
    · rename_i m iv e2 e3
      have h2' := h2
      obtain ⟨p, rfl, hl, h⟩ := h2.unsnoc
      rw [List.map_append, List.map_append, ← List.append_assoc, ← List.append_assoc] at h
      obtain ⟨h0, ca, cb⟩ := last2 hl h
      unfold gD at e2
      split at e2
      · rename_i ks k e4
        split at e2
        · rename_i m' e5
          cases e2
          obtain ⟨b, vs, rfl, hb, r⟩ := (ca _ e1).dct
          obtain ⟨w, e6, rw⟩ := r.val.1 _ e5
          obtain rfl : w = .int m := rw
          have h6 := key_rep ((cb _ (sc_cont e3)).sc (key_box e4)) e4
          subst h6
          exact ⟨b, .int m, rfl, .inl ⟨vs, k, hb, rfl, e6.symm⟩, aug_go (D0 := D) (r := rDput) h_dput hv hN h2' e3 hw fun n H4 ⟨a', H5, e7, q1, q2⟩ => by
            cases e7
            exact hd m n H4 _ ⟨H5, q1, q2⟩⟩
        · cases e2
      · cases e2
    · exact hw.elim
  · exact hw.elim
theorem RS.laug {td ty tv : TE} {fo fi fv : SD → R Vl} {f : Int → Int → Int} (ho : RE G W td fo) (hi : RE G W ty fi) (hv : RE G W tv fv) : RS G W (tAugS td ty tv (rIxL G.K) (ipI f) rSetL) (zAugS gL fSetL f fo fi fv) := by
  intro E σ τ H s θ D hN hR hw
  unfold zAugS at hw
  rw [Wp_bind] at hw
  refine RE.two (Q := fun o i H2 => rIxL G.K o i H2 fun x H3 => tv σ H3 fun y H4 => ipI f x y H4 fun z H5 => rSetL o i z H5 fun H6 => D.nx σ H6) ho hi hN hR hw fun a b s2 o i H2 h2 hw => ?_
  split at hw
  · rename_i z c e1
    split at hw
    · rename_i m iv e2 e3
      have h2' := h2
      obtain ⟨p, rfl, hl, h⟩ := h2.unsnoc
      rw [List.map_append, List.map_append, ← List.append_assoc, ← List.append_assoc] at h
      obtain ⟨h0, ca, cb⟩ := last2 hl h
      unfold gL at e2
      split at e2
      · rename_i ds k
        split at e2
        · rename_i m' e5
          cases e2
          obtain ⟨b, vs, rfl, hb, r⟩ := (ca _ e1).lst
          obtain ⟨w, e6, rw⟩ := atI_reps r e5
          obtain rfl : w = .int m := rw
          obtain rfl := (cb _ (sc_cont e3)).int
          exact ⟨b, vs, k, .int m, rfl, rfl, .of hb, e6, aug_go (D0 := D) (r := rSetL) h_setL hv hN h2' e3 hw fun n H4 q => ⟨m, n, rfl, rfl, q⟩⟩
        · cases e2
      · cases e2
    · exact hw.elim
  · exact hw.elim
end
end Z

/-! the value level: slices, displays, dicts walked, isinstance -/
namespace Z
open PySem PySem.Spec PyProof.Rows L2 M
open Classical
section
variable {X : Cx}
def rSlZ (K : PySem.W.Frag) : V → Option Int → Option Int → Hp → VK → Prop := fun x lo hi H Q => rSlL K x lo hi H Q ∨ rSlS x lo hi H Q ∨ rSlT K x lo hi H Q
theorem sl_Z {K : PySem.W.Frag} (hK : X.K = K := by rfl) : SlR X (rSlZ K) := SlR.or (m_slL hK) (SlR.or sl_str (hK ▸ sl_tup))
/-- a dict just looked up is walked from now on -/
def tLk (t : TE) : TE := fun σ H Q => t σ H fun x H1 => ∃ d u, x = .ref d ∧ ((H1 d = some u ∧ Mut (some u) ∧ ∀ od, Q x (upd H1 d (.frz od u))) ∨ ∃ od, H1 d = some (.frz od u) ∧ Q x H1)
theorem pe_lk {e : Expr} {t : TE} (h : PE X e t) : PE X e (tLk t) := by
  refine ⟨fun pins s σ H Q I hw => ?_⟩
  refine thn (h.run pins s σ H _ I hw) fun v s1 ⟨x, H1, I1, r, d, u, e, q⟩ => ?_
  rcases q with ⟨hd, mu, q⟩ | ⟨od, hd, q⟩
  · obtain ⟨od, I2⟩ := I1.lock hd mu
    exact ⟨x, _, I2, r, q od⟩
  · exact ⟨x, H1, I1, r, q⟩
end
section
variable {G : Gc} {W : WX} {E : En} {σ σ' σ2 : L2.St} {τ τ' τ2 : List V} {H : Hp} {s s' : SD} {θ θ' θ2 : List Vl} {v u : V} {a b : Vl} {x y : D} {p : Wr} {Q : VK} {m : Nat} {w w' : List (Option V)} {ŵ ŵ' : List (Option Vl)} {S : Sto} {k : Nat} {is : List Nat}
/-! ### slices -/
def RO (G : Gc) (W : WX) (t : TO) (fe : SD → R (Option Int)) : Prop := ∀ (E : En) (σ : L2.St) (τ : List V) (H : Hp) (s : SD) (θ : List Vl) (Q : Option Int → Hp → Prop), Nl θ → Rel G E σ τ H s θ →
  Wp (fe s) (fun b s' => ∀ H', Rel G E σ τ H' s' θ → Q b H') (XP G W E τ θ) → t σ H Q
def zNo : SD → R (Option Int) := fun s => .ok none s
def zPt (fa : SD → R Vl) : SD → R (Option Int) := fun s => (fa s).bind fun a s1 => match a with
  | .d (.int i) => .ok (some i) s1
  | _ => .bad
theorem RO.no : RO G W tNoPart zNo := fun _ _ _ _ _ _ _ _ hR hw => hw _ hR
theorem RO.part {te : TE} {fa : SD → R Vl} (ha : RE G W te fa) : RO G W (tPart te) (zPt fa) := by
  intro E σ τ H s θ Q hN hR hw
  unfold zPt at hw
  rw [Wp_bind] at hw
  refine ha E σ τ H s θ _ hN hR (hw.mono (fun a s1 hw v H1 h1 => ?_) fun _ _ _ h => h)
  split at hw
  · rename_i i
    obtain ⟨p, _, r⟩ := h1.last
    exact ⟨i, r, hw _ h1.pop⟩
  · exact hw.elim
def cutD (ds : List D) (lo hi : Option Int) : List D := (ds.drop (HT.sIx ds.length 0 lo)).take (HT.sIx ds.length ds.length hi - HT.sIx ds.length 0 lo)
theorem cut_rep {ds : List D} {vs : List V} {lo hi : Option Int} (r : Reps G p ds vs) : Reps G p (cutD ds lo hi) (cutV vs lo hi) := by
  unfold cutD cutV
  rw [r.len]
  exact (r.drop _).take _
noncomputable def oSl (a : Vl) (lo hi : Option Int) (s : SD) : R Vl := match s.cont a with
  | some (.lst ds) => .ok (.own (.lst (cutD ds lo hi))) s
  | some (.con ds) => .ok (.own (.lst (cutD ds lo hi))) s
  | some (.str z) => if z.length ≤ sizeLine then .ok (.d (.str (cutS z lo hi))) s else .bad
  | some (.tup ds) => if ¬ (HT.sIx ds.length 0 lo = 0 ∧ HT.sIx ds.length ds.length hi = ds.length) then .ok (.d (.tup (cutD ds lo hi))) s else .bad
  | _ => .bad
noncomputable def zSl (fa : SD → R Vl) (fl fh : SD → R (Option Int)) : SD → R Vl := fun s => (fa s).bind fun a s1 => (fl s1).bind fun lo s2 => (fh s2).bind fun hi s3 => oSl a lo hi s3
theorem RE.sl {te : TE} {tl th : TO} {fa : SD → R Vl} {fl fh : SD → R (Option Int)} (ha : RE G W te fa) (hl : RO G W tl fl) (hh : RO G W th fh) : RE G W (tSl (rSlZ G.K) te tl th) (zSl fa fl fh) := by
  intro E σ τ H s θ Q hN hR hw
  unfold zSl at hw
  rw [Wp_bind] at hw
  refine ha E σ τ H s θ _ hN hR (hw.mono (fun a s1 hw v H1 h1 => ?_) fun _ _ _ h => h)
  rw [Wp_bind] at hw
  have fin : ∀ {lo hi : Option Int} {s3 : SD} {H3 : Hp}, Rel G E σ (τ ++ [v]) H3 s3 (θ ++ [a]) → Wp (oSl a lo hi s3) (fun a s' => ∀ v H', Rel G E σ (τ ++ [v]) H' s' (θ ++ [a]) → Q v H') (XP G W E τ θ) → rSlZ G.K v lo hi H3 Q := fun {lo hi s3 H3} h3 hw => by
    obtain ⟨p, rfl, hl, h⟩ := h3.unsnoc
    obtain ⟨h0, ca, _⟩ := last1 hl h
    unfold oSl at hw
    split at hw
    · rename_i e
      obtain ⟨b, vs, rfl, hb, r⟩ := (ca _ e).lst
      exact .inl ⟨b, vs, rfl, .of hb, fun l hn => fin_lst h0 hl hw hn (cut_rep r)⟩
    · rename_i e
      obtain ⟨b, vs, rfl, hb, r⟩ := (ca _ e).con
      exact .inl ⟨b, vs, rfl, hb, fun l hn => fin_lst h0 hl hw hn (cut_rep r)⟩
    · rename_i e
      obtain rfl := (ca _ e).str
      split at hw
      · rename_i hz
        exact .inr (.inl ⟨_, rfl, hz, fin_d h0 hl hw rfl⟩)
      · exact hw.elim
    · rename_i e
      obtain ⟨b, vs, rfl, hb, r⟩ := (ca _ e).tup
      split at hw
      · rename_i hz
        exact .inr (.inr ⟨b, vs, rfl, .of hb, by rw [r.len]; exact hz, fun l hn => fin_tup h0 hl hw hn (cut_rep r)⟩)
      · exact hw.elim
    · exact hw.elim
  by_cases c : ∃ j, a = .loc j
  · obtain ⟨j, rfl⟩ := c
    obtain ⟨c1, c2⟩ := h1.unloc
    refine hl E σ τ H1 s1 θ _ hN h1.pop (hw.mono (fun lo s2 hw H2 h2 => ?_) fun _ _ _ h => h)
    rw [Wp_bind] at hw
    exact hh E σ τ H2 s2 θ _ hN h2 (hw.mono (fun hi s3 hw H3 h3 => fin (h3.reloc c2) hw) fun _ _ _ h => h)
  · refine hl E σ _ H1 s1 _ _ (hN.snoc fun j q => c ⟨j, q⟩) h1 (hw.mono (fun lo s2 hw H2 h2 => ?_) fun _ _ _ h => h.up)
    rw [Wp_bind] at hw
    exact hh E σ _ H2 s2 _ _ (hN.snoc fun j q => c ⟨j, q⟩) h2 (hw.mono (fun hi s3 hw H3 h3 => fin h3 hw) fun _ _ _ h => h.up)
/-- xs[::-1] -/
noncomputable def oRevL (a : Vl) (s : SD) : R Vl := match s.cont a with
  | some (.lst ds) => .ok (.own (.lst ds.reverse)) s
  | _ => .bad
theorem RE.revL {te : TE} {fa : SD → R Vl} (ha : RE G W te fa) : RE G W (tRevL G.K te) (z1 oRevL fa) := by
  refine RE.op1 (r := fun x H1 Q => ∃ a xs, x = .ref a ∧ SqL G.K H1 a xs ∧ ∀ p, H1 p = none → Q (.ref p) (upd H1 p (.lst xs.reverse))) ?_ ?_ ha
  · intro E σ τ s θ p v a Q hl h hw
    obtain ⟨h0, ca, _⟩ := last1 hl h
    unfold oRevL at hw
    split at hw
    · rename_i e
      obtain ⟨b, vs, rfl, hb, r⟩ := (ca _ e).lst
      exact ⟨b, vs, rfl, .of hb, fun l hn => fin_lst h0 hl hw hn r.reverse⟩
    · exact hw.elim
  · intro a s c fs s'
    unfold oRevL
    split <;> (intro q; cases q)
/-! ### displays of dicts -/
def RP (G : Gc) (W : WX) (trs : List (TE × TE)) (fp : SD → R (List (Key × D))) : Prop := ∀ (E : En) (σ : L2.St) (τ : List V) (H : Hp) (s : SD) (θ : List Vl) (Q : List (V × V) → Hp → Prop), Nl θ → Rel G E σ τ H s θ →
  Wp (fp s) (fun ks s' => ∀ (vs : List V) H', Rel G E σ (τ ++ vs) H' s' (θ ++ ks.map fun kv => .d kv.2) → vs.length = ks.length → Q ((ks.map fun kv => kV kv.1).zip vs) H') (XP G W E τ θ) → tPairs trs σ H Q
def zP0 : SD → R (List (Key × D)) := fun s => .ok [] s
def zP (k : Key) (fv : SD → R Vl) (fp : SD → R (List (Key × D))) : SD → R (List (Key × D)) := fun s => (fv s).bind fun a s1 => (s1.fix a).bind fun x s2 => (fp s2).bind fun ks s3 => .ok ((k, x) :: ks) s3
theorem RP.nil : RP G W [] zP0 := fun _ _ τ H _ θ Q _ hR hw => hw [] H (by simpa using hR) rfl
theorem RP.cons {k : Key} {tv : TE} {fv : SD → R Vl} {trs : List (TE × TE)} {fp : SD → R (List (Key × D))} (hv : RE G W tv fv) (hp : RP G W trs fp) : RP G W ((tC (kV k), tv) :: trs) (zP k fv fp) := by
  intro E σ τ H s θ Q hN hR hw
  unfold zP at hw
  refine RE.fix hv E σ τ H s θ _ hN hR ?_
  unfold zFix zVia
  rw [Wp_bind] at hw ⊢
  refine hw.mono (fun v0 s0 hw => ?_) fun _ _ _ h => h
  rw [Wp_bind] at hw ⊢
  refine hw.mono (fun x s1 hw => ?_) fun _ _ _ h => h
  intro v H1 h1
  rw [Wp_bind] at hw
  refine hp E σ _ H1 s1 _ _ hN.d h1 (hw.mono (fun ks s3 hw vs H2 h2 hl => ?_) fun _ _ _ h => h.up)
  exact hw (v :: vs) H2 (by simpa using h2) (by simp [hl])
def zDisp (fp : SD → R (List (Key × D))) : SD → R Vl := fun s => (fp s).bind fun ks s1 => if ks.length ≤ 15 then .ok (.own (.dct (dmerge ks))) s1 else .bad
theorem RepK.zip : ∀ {ks : List (Key × D)} {vs : List V}, Reps G p (ks.map (·.2)) vs → RepK G p ks ((ks.map (·.1)).zip vs)
  | [], vs, h => by rw [show vs = [] from h]; exact rfl
  | (k, d) :: ks, vs, h => by
    obtain ⟨v, r, rfl, h1, h2⟩ := h
    exact ⟨v, _, rfl, h1, RepK.zip h2⟩
theorem zip_keys : ∀ (ks : List (Key × D)) (vs : List V), (ks.map fun kv => kV kv.1).zip vs = ((ks.map (·.1)).zip vs).map fun kv => (kV kv.1, kv.2)
  | [], _ => rfl
  | _ :: _, [] => rfl
  | k :: ks, v :: vs => by
    rw [List.map_cons, List.map_cons, List.zip_cons_cons, List.zip_cons_cons, List.map_cons, zip_keys ks vs]
theorem RE.disp {trs : List (TE × TE)} {fp : SD → R (List (Key × D))} (hp : RP G W trs fp) : RE G W (tDisp trs) (zDisp fp) := by
  intro E σ τ H s θ Q hN hR hw D0 hD
  unfold zDisp at hw
  rw [Wp_bind] at hw
  have ht := hR.tlen
  have h1 : Rel G E σ (τ ++ [.ref D0]) (upd H D0 (.dK [])) s (θ ++ [.own (.dct [])]) := by
    obtain ⟨p, rfl, hl, h⟩ := hR
    exact .snoc (h.allocOwn hD ⟨[], upd_same, rfl⟩) hl rfl
  refine hp E σ _ _ s _ _ (hN.snoc (a := .own (.dct [])) fun j q => nomatch q) h1 (hw.mono (fun ks s1 hw vs H2 h2 hl2 => ?_) fun _ _ _ h => h.up)
  split at hw
  · rename_i hz
    have h2' : Rel G E σ ((τ ++ [.ref D0]) ++ vs) H2 s1 ((θ ++ [.own (.dct [])]) ++ (ks.map (·.2)).map .d) := by rw [List.map_map]; exact h2
    obtain ⟨p, rfl, hl, h, r⟩ := h2'.args (by simp [ht])
    rw [List.map_append, List.map_append, ← List.append_assoc, ← List.append_assoc] at h
    have ll := snoc_len h.len
    have q1 : ((s1.sl ++ θ.map some) ++ List.map some [Vl.own (.dct [])])[(s1.sl ++ θ.map some).length]? = some (some (.own (.dct []))) := snoc_new
    have q2 : ((σ ++ τ.map some) ++ List.map some [V.ref D0])[(s1.sl ++ θ.map some).length]? = some (some (.ref D0)) := by rw [← ll]; exact snoc_new
    obtain ⟨u, e2, D1, e3, vs0, e4, r4⟩ := h.ent _ _ q1
    rw [q2] at e2
    cases e2
    cases e3
    obtain rfl : vs0 = [] := r4
    have o1 := (h.own _ _ _ q1 q2).1
    have l' := le_write (p := p) (o := .dK (mergeK [] ((ks.map (·.1)).zip vs))) o1
    have h3 := h.write (y := .dct (dmerge ks)) (o := .dK (mergeK [] ((ks.map (·.1)).zip vs))) q1 q2 ⟨_, upd_same, RepK.merge (RepK.zip (r.mono l')) rfl⟩
    rw [show ((s1.sl ++ θ.map some) ++ List.map some [Vl.own (.dct [])]).set (s1.sl ++ θ.map some).length (some (.own (.dct (dmerge ks)))) = (s1.sl ++ θ.map some) ++ [some (.own (.dct (dmerge ks)))] from set_last] at h3
    refine ⟨e4, (ks.map (·.1)).zip vs, ?_, ?_, hw _ _ (.snoc h3 hl rfl)⟩
    · exact zip_keys ks vs
    · simp; omega
  · exact hw.elim
/-! ### dicts walked -/
/-- the entry of a loop that walks a dict -/
def En.lk (E : En) (d : Addr) (o : HO) : En := { E with W := { E.W with H := upd E.W.H d o }, S := { E.S with get := fun i => if E.W.γ i = d then none else E.S.get i } }
theorem Sm.toLk {d : Addr} {od : Obj} {kvs : List (Key × V)} (h : Sm G E m p w ŵ S) (hd : p.H d = some (.frz od (.dK kvs))) (hn : ¬ p.O d) : Sm G (E.lk d (.frz od (.dK kvs))) m p w ŵ S ∧ EnLe G E (E.lk d (.frz od (.dK kvs))) := by
  have sg : ∀ {i : Nat} {d0 : D}, (E.lk d (.frz od (.dK kvs))).S.get i = some d0 → E.S.get i = some d0 ∧ E.W.γ i ≠ d := fun {i d0} e => by
    have e : (if E.W.γ i = d then none else E.S.get i) = some d0 := e
    split at e
    · cases e
    · rename_i c; exact ⟨e, c⟩
  have gs : ∀ {i : Nat} {d0 : D}, E.S.get i = some d0 → E.W.γ i ≠ d → (E.lk d (.frz od (.dK kvs))).S.get i = some d0 := fun {i d0} e c => by
    show (if E.W.γ i = d then none else E.S.get i) = some d0
    rw [if_neg c]; exact e
  have hH : ∀ {b : Addr}, b ≠ d → (E.lk d (.frz od (.dK kvs))).W.H b = E.W.H b := fun c => upd_ne c
  have hdd : (E.lk d (.frz od (.dK kvs))).W.H d = some (.frz od (.dK kvs)) := upd_same
  constructor
  · refine { h with nx := h.nx, ebd := fun i d0 e => h.ebd i d0 (sg e).1, old := h.old, born := fun i d0 e => ?_, frm := h.frm, kp := fun b o e n => ?_, sub := fun b o e => ?_, grw := fun b o e n => ?_, own := fun k x b q1 q2 => ?_ }
    · have hO : p.γ i ≠ d := fun z => hn (z ▸ (h.cel i d0 e).1)
      rcases h.born i d0 e with ⟨d1, b1⟩ | b1
      · left
        exact ⟨d1, gs b1 (by rw [← h.old i (h.ebd i d1 b1)]; exact hO)⟩
      · right
        rw [hH hO]; exact b1
    · by_cases c : b = d
      · subst c
        rw [hdd] at e
        cases e
        exact ⟨fun f => hd, .inl hd⟩
      · rw [hH c] at e
        exact h.kp b o e fun i d0 q z => n i d0 (gs q (by rw [← z]; exact c)) z
    · by_cases c : b = d
      · subst c; exact ⟨_, hd⟩
      · rw [hH c] at e; exact h.sub b o e
    · by_cases c : b = d
      · subst c; exact hn
      · rw [hH c] at e; exact h.grw b o e n
    · have q := h.own k x b q1 q2
      refine ⟨q.1, ?_, q.2.2.1, q.2.2.2⟩
      rw [hH fun z => hn (z ▸ q.1)]
      exact q.2.1
  · intro m' p' w' ŵ' S' h'
    have f0 : p'.H d = some (.frz od (.dK kvs)) := by
      rcases (h'.kp d _ hdd fun i d0 q z => (sg q).2 z.symm).2 with k | ⟨_, _, k, _⟩
      · exact k
      · cases k
    refine { h' with nx := h'.nx, ebd := h.ebd, old := h'.old, born := fun i d0 e => ?_, frm := h'.frm, kp := fun b o e n => ?_, sub := fun b o e => ?_, grw := fun b o e n => ?_, own := fun k x b q1 q2 => ?_ }
    · rcases h'.born i d0 e with ⟨d1, b1⟩ | b1
      · exact .inl ⟨d1, (sg b1).1⟩
      · have c : p'.γ i ≠ d := fun z => by rw [z, hdd] at b1; cases b1
        right
        rw [hH c] at b1; exact b1
    · by_cases c : b = d
      · subst c
        obtain ⟨k1, k2⟩ := h.kp b o e n
        refine ⟨fun f => by rw [f0, ← hd]; exact k1 f, by rw [f0, ← hd]; exact k2⟩
      · exact h'.kp b o (by rw [hH c]; exact e) fun i d0 q z => n i d0 (sg q).1 z
    · by_cases c : b = d
      · subst c; exact ⟨_, f0⟩
      · exact h'.sub b o (by rw [hH c]; exact e)
    · by_cases c : b = d
      · subst c; exact h'.grw b _ hdd n
      · exact h'.grw b o (by rw [hH c]; exact e) n
    · have q := h'.own k x b q1 q2
      refine ⟨q.1, ?_, q.2.2.1, q.2.2.2⟩
      by_cases c : b = d
      · subst c
        have := q.2.1
        rw [hdd] at this; cases this
      · rw [← hH c]; exact q.2.1
theorem En.lk_at {d : Addr} {od : Obj} {kvs : List (Key × V)} (h : Sm G (E.lk d (.frz od (.dK kvs))) m p w ŵ S) : p.H d = some (.frz od (.dK kvs)) := by
  have hdd : (E.lk d (.frz od (.dK kvs))).W.H d = some (.frz od (.dK kvs)) := upd_same
  have k0 := (h.kp d _ hdd fun i d0 q z => by
    have q : (if E.W.γ i = d then none else E.S.get i) = some d0 := q
    have z : d = E.W.γ i := z
    rw [if_pos z.symm] at q; cases q).2
  rcases k0 with k | ⟨_, _, k, _⟩
  · exact k
  · cases k
/-- what is walked: keys, values, both -/
inductive Wk where
  | keys | vals | items
def Wk.it : Wk → Addr → Obj → List (Key × V) → It
  | .keys => Itk
  | .vals => Itd
  | .items => Iti
def Wk.ds : Wk → List (Key × D) → List D
  | .keys, ks => ks.map fun kv => dkey kv.1
  | .vals, ks => ks.map (·.2)
  | .items, ks => ks.map fun kv => .tup [dkey kv.1, kv.2]
def iWk (wk : Wk) (td : TE) : TI := fun σ H R => tLk td σ H fun x H1 => ∃ d o kvs, x = .ref d ∧ H1 d = some (.frz o (.dK kvs)) ∧ R (wk.it d o kvs) H1
def zWalk (wk : Wk) (fa : SD → R Vl) : SD → R Src := fun s => (zFix fa s).bind fun a s1 => match a with
  | .d (.dct ks) => .ok ⟨[.d (.dct ks)], fun _ => True, wk.ds ks⟩ s1
  | _ => .bad
theorem RepK.at {ks : List (Key × D)} {vs : List (Key × V)} {i : Nat} (r : RepK G p ks vs) {k : Key} {z : V} (e : vs[i]? = some (k, z)) : ∃ d, ks[i]? = some (k, d) ∧ Rep G p d z := by
  have hl : i < ks.length := by rw [← r.len]; exact lt_of_get e
  have e1 : (vs.map (·.1))[i]? = some k := by rw [List.getElem?_map, e]; rfl
  rw [r.keys, List.getElem?_map, List.getElem?_eq_getElem hl] at e1
  have e2 : (vs.map (·.2))[i]? = some z := by rw [List.getElem?_map, e]; rfl
  have e3 : (ks.map (·.2))[i]? = some ks[i].2 := by rw [List.getElem?_map, List.getElem?_eq_getElem hl]; rfl
  refine ⟨ks[i].2, ?_, r.vals.at e3 e2⟩
  rw [List.getElem?_eq_getElem hl]
  congr 1
  exact Prod.ext (Option.some.inj e1) rfl
theorem RI.walk {wk : Wk} {td : TE} {fa : SD → R Vl} (ha : RE G W td fa) : RI G W (iWk wk td) (zWalk wk fa) := by
  intro E σ τ H s θ Q hN hR hw
  unfold zWalk at hw
  rw [Wp_bind] at hw
  refine RE.fix ha E σ τ H s θ _ hN hR (hw.mono (fun a s1 hw v H1 h1 => ?_) fun _ _ _ h => h)
  split at hw
  · rename_i ks
    have h1' := h1
    obtain ⟨p, rfl, hl, h⟩ := h1.unsnoc
    obtain ⟨h0, _, a, vs, rfl, ⟨hn, hd⟩, r⟩ := last1 hl h
    have fin : ∀ {od : Obj} {p' : Wr}, p.le p' → p'.H a = some (.frz od (.dK vs)) → ¬ p'.O a → Sm G E s1.sl.length p' ((σ ++ τ.map some) ++ [some (.ref a)]) ((s1.sl ++ θ.map some) ++ [some (.d (.dct ks))]) s1.st → Q (wk.it a od vs) p'.H := fun {od p'} le hd hn h => by
      obtain ⟨h2, el⟩ := h.toLk hd hn
      refine hw [.ref a] _ _ _ el rfl (.snoc h2 hl rfl) fun i σ τ τ2 θ θ2 H s ht ht2 h ok => ?_
      obtain ⟨p2, rfl, hl2, hS, ca⟩ := h.at1 ht
      have hf := En.lk_at hS
      have r2 : RepK G p2 ks vs := by
        obtain ⟨b, vs', e, hb, r'⟩ := (ca _ rfl).dct
        cases e
        rcases hb with hb | ⟨_, hb⟩
        · rw [hf] at hb; cases hb
        · rw [hf] at hb; cases hb; exact r'
      have len := r2.len
      have dl : (wk.ds ks).length = ks.length := by cases wk <;> simp [Wk.ds]
      refine ⟨fun d e => ?_, fun e => ?_⟩
      · have hi : i < vs.length := by rw [len, ← dl]; exact lt_of_get e
        have hi' : i < ks.length := by omega
        cases wk with
        | keys =>
          refine ⟨⟨hf, hi⟩, fun x H' y => ?_⟩
          obtain ⟨rfl, k, z, e1, rfl⟩ := y
          obtain ⟨d', e2, _⟩ := r2.at e1
          have e : (ks.map fun kv => dkey kv.1)[i]? = some d := e
          rw [List.getElem?_map, e2] at e
          cases e
          exact .snoc (hS.push dkey_rep) hl2 rfl
        | vals =>
          refine ⟨⟨hf, hi⟩, fun x H' y => ?_⟩
          obtain ⟨rfl, k, e1⟩ := y
          obtain ⟨d', e2, r3⟩ := r2.at e1
          have e : (ks.map (·.2))[i]? = some d := e
          rw [List.getElem?_map, e2] at e
          cases e
          exact .snoc (hS.push r3) hl2 rfl
        | items =>
          refine ⟨⟨hf, hi⟩, fun x H' y => ?_⟩
          obtain ⟨T, k, z, e1, rfl, hT, rfl⟩ := y
          obtain ⟨d', e2, r3⟩ := r2.at e1
          have e : (ks.map fun kv => D.tup [dkey kv.1, kv.2])[i]? = some d := e
          rw [List.getElem?_map, e2] at e
          cases e
          exact .snoc ((hS.alloc hT).push (x := .tup [dkey k, d']) ⟨T, _, rfl, ⟨(hS.fresh hT).2, upd_same⟩, _, _, rfl, dkey_rep, _, _, rfl, r3.mono (le_alloc hT), rfl⟩) hl2 rfl
      · have hi : vs.length ≤ i := by rw [len, ← dl]; exact List.getElem?_eq_none_iff.mp e
        cases wk with
        | keys => exact ⟨hf, hi⟩
        | vals => exact ⟨hf, hi⟩
        | items => exact ⟨hf, hi⟩
    rcases hd with hd | ⟨od, hd⟩
    · refine ⟨a, .dK vs, rfl, .inl ⟨hd, True.intro, fun od => ⟨a, od, vs, rfl, upd_same, ?_⟩⟩⟩
      have q := h.lock (od := od) hd hn
      exact fin (p' := { p with H := upd p.H a (.frz od (.dK vs)) }) ⟨fun _ _ => rfl, Nat.le_refl _, fun b o n e => ⟨by
        by_cases c : b = a
        · subst c
          rw [hd] at e; cases e
          exact .inr ⟨vs, od, rfl, upd_same⟩
        · exact .inl (by show upd _ _ _ _ = _; rw [upd_ne c]; exact e), n⟩⟩ upd_same hn q
    · exact ⟨a, .dK vs, rfl, .inr ⟨od, hd, a, od, vs, rfl, hd, fin (.refl p) hd hn h⟩⟩
  · exact hw.elim
theorem iKeys_of {td : TE} {R0 : It → Hp → Prop} (h : iWk .keys td σ H R0) : tLk td σ H (fun x H1 => ∃ d o kvs, x = .ref d ∧ H1 d = some (.frz o (.dK kvs)) ∧ R0 (Itk d o kvs) H1) := h
end
end Z

/-! the value level: isinstance, methods of dicts and texts, zip -/
namespace Z
open PySem PySem.Spec PyProof.Rows L2 M
open Classical
inductive Ty1 where
  | int | bool | str | list | tuple | dict
def Ty1.nm : Ty1 → String
  | .int => "int" | .bool => "bool" | .str => "str" | .list => "list" | .tuple => "tuple" | .dict => "dict"
def D.knd : D → Option String
  | .non => some "NoneType" | .bl _ => some "bool" | .int _ => some "int" | .str _ => some "str" | .lst _ => some "list" | .con _ => some "list" | .tup _ => some "tuple" | .dct _ => some "dict"
  | _ => none
def isT : Ty1 → D → Bool
  | .int, .int _ => true
  | .int, .bl _ => true
  | .bool, .bl _ => true
  | .str, .str _ => true
  | .list, .lst _ => true
  | .list, .con _ => true
  | .tuple, .tup _ => true
  | .dict, .dct _ => true
  | _, _ => false
theorem kit_tab : ∀ t : Ty1, kitB "NoneType" t.nm = some false ∧ kitB "bool" t.nm = some (match t with | .int => true | .bool => true | _ => false) ∧ kitB "int" t.nm = some (match t with | .int => true | _ => false) ∧ kitB "str" t.nm = some (match t with | .str => true | _ => false) ∧
    kitB "list" t.nm = some (match t with | .list => true | _ => false) ∧ kitB "tuple" t.nm = some (match t with | .tuple => true | _ => false) ∧ kitB "dict" t.nm = some (match t with | .dict => true | _ => false) := by
  intro t
  cases t <;> decide +kernel
section
variable {G : Gc} {W : WX} {E : En} {σ σ' σ2 : L2.St} {τ τ' τ2 : List V} {H : Hp} {s s' : SD} {θ θ' θ2 : List Vl} {v u : V} {a b : Vl} {x y : D} {p : Wr} {Q : VK} {m : Nat} {w w' : List (Option V)} {ŵ ŵ' : List (Option Vl)} {S : Sto} {k : Nat} {is : List Nat}
theorem knd_ty {k : String} (h : Cont G p x v) (e : x.knd = some k) : TyX G.K p.H v (.type k) := by
  cases x with
  | non => cases e; obtain rfl : v = .non := h.sc rfl; exact .base .non
  | bl b => cases e; obtain rfl := h.bl; exact .base (.bl b)
  | int i => cases e; obtain rfl := h.int; exact .base (.int i)
  | str z => cases e; obtain rfl := h.str; exact .base (.str z)
  | lst ds => cases e; obtain ⟨b, vs, rfl, hb, r⟩ := h.lst; exact .base (.lst hb)
  | con ds => cases e; obtain ⟨b, vs, rfl, (hb | ⟨o, hb⟩) | ⟨o, its, n, lk, cl, _⟩, r⟩ := h.con; exact .base (.lst hb); exact .base (.frz hb); exact .kList lk cl
  | tup ds => cases e; obtain ⟨b, vs, rfl, hb, r⟩ := h.tup; exact .base (.tup hb)
  | dct ds => cases e; obtain ⟨b, vs, rfl, hb | ⟨o, hb⟩, r⟩ := h.dct; exact .base (.dK hb); exact .fDict hb
  | obj c fs => cases e
  | cell i => cases e
theorem knd_is {k : String} (t : Ty1) (e : x.knd = some k) : kitB k t.nm = some (isT t x) := by
  obtain ⟨h1, h2, h3, h4, h5, h6, h7⟩ := kit_tab t
  cases x <;> cases e <;> cases t <;> first | exact h1 | exact h2 | exact h3 | exact h4 | exact h5 | exact h6 | exact h7
def oIsi (t : Ty1) (a : Vl) (s : SD) : R Vl := match s.cont a with
  | some x => match x.knd with
    | some _ => .ok (.d (.bl (isT t x))) s
    | none => .bad
  | none => .bad
theorem RE.isi {t : Ty1} {ta : TE} {fa : SD → R Vl} (ha : RE G W ta fa) : RE G W (tCB (rIsi G.K) (tCons ta (tCons (tC (.ty t.nm)) tNil))) (z1 (oIsi t) fa) := by
  refine RE.op1 (r := fun v H Q => rIsi G.K [v, .ty t.nm] H Q) ?_ ?_ ha
  · intro E σ τ s θ p v a Q hl h hw
    obtain ⟨h0, ca, _⟩ := last1 hl h
    unfold oIsi at hw
    split at hw
    · rename_i x e
      split at hw
      · rename_i k e1
        exact ⟨v, .ty t.nm, .type k, .type t.nm, isT t x, rfl, .ty _, knd_ty (ca _ e) e1, kit_ty (knd_is t e1), fin_d h0 hl hw rfl⟩
      · exact hw.elim
    · exact hw.elim
  · intro a s c fs s'
    unfold oIsi
    split
    · split <;> (intro q; cases q)
    · intro q; cases q
/-- isinstance(x, C), C a class of the program: by the class of x -/
structure IsOk (G : Gc) (C : Addr) (f : Str → Option Bool) (kd : Bool) : Prop where
  own : ∀ c b C', f c = some b → G.mg c = some (.ref C') → C8.InsC G.K C' ∧ PySem.W.kitOne G.K (.ref C') (.ref C) = some b
  kd : kd = true → ∀ k ∈ ["NoneType", "bool", "int", "str", "list", "tuple", "dict"], PySem.W.kitOne G.K (.type k) (.ref C) = some false
noncomputable def oIsC (f : Str → Option Bool) (kd : Bool) (a : Vl) (s : SD) : R Vl := match s.cont a with
  | some (.obj c _) => match f c with
    | some b => .ok (.d (.bl b)) s
    | none => .bad
  | some x => match x.knd with
    | some _ => if kd = true then .ok (.d (.bl false)) s else .bad
    | none => .bad
  | none => .bad
theorem RE.isC {C : Addr} {f : Str → Option Bool} {kd : Bool} {ta : TE} {fa : SD → R Vl} (hc : IsOk G C f kd) (ha : RE G W ta fa) : RE G W (tCB (rIsi G.K) (tCons ta (tCons (tC (.ref C)) tNil))) (z1 (oIsC f kd) fa) := by
  refine RE.op1 (r := fun v H Q => rIsi G.K [v, .ref C] H Q) ?_ ?_ ha
  · intro E σ τ s θ p v a Q hl h hw
    obtain ⟨h0, ca, _⟩ := last1 hl h
    unfold oIsC at hw
    split at hw
    · rename_i c fs e
      split at hw
      · rename_i b e1
        obtain ⟨a', C', dx, vs, rfl, hm, hb, r⟩ := (ca _ e).obj
        obtain ⟨i, k⟩ := hc.own c b C' e1 hm
        exact ⟨_, _, .ref C', .ref C, b, rfl, .own C, .base (.ins hb i.cl i.ha i.hn i.htk i.hm), k, fin_d h0 hl hw rfl⟩
      · exact hw.elim
    · rename_i x _ e
      split at hw
      · rename_i k e1
        split at hw
        · rename_i hk
          refine ⟨_, _, .type k, .ref C, false, rfl, .own C, knd_ty (ca _ e) e1, hc.kd hk k ?_, fin_d h0 hl hw rfl⟩
          cases x <;> cases e1 <;> simp
        · exact hw.elim
      · exact hw.elim
    · exact hw.elim
  · intro a s c fs s'
    unfold oIsC
    split
    · split <;> (intro q; cases q)
    · split
      · split <;> (intro q; cases q)
      · intro q; cases q
    · intro q; cases q
/-! ### methods of dicts -/
def isDc (s : SD) (a : Vl) : Bool := match s.cont a with
  | some (.dct _) => true
  | _ => false
theorem isDc_ok (h : isDc s a = true) (c : ∀ x, s.cont a = some x → Cont G p x v) : ∃ b, v = .ref b ∧ IsD p.H b := by
  unfold isDc at h
  split at h
  · rename_i e
    obtain ⟨b, vs, rfl, hb, _⟩ := (c _ e).dct
    exact ⟨b, rfl, .inl ⟨vs, hb⟩⟩
  · cases h
def fDpop (c z : D) : Option (D × D) := match c, z.key with
  | .dct ks, some k => match dval ks k with
    | some t => some (.dct (ddrop ks k), t)
    | none => none
  | _, _ => none
theorem RE.dpop {td ty : TE} {fo fi : SD → R Vl} (ho : RE G W td fo) (hi : RE G W ty fi) : RE G W (tDPop1 td ty) (zM2 isDc (oB2 fDpop) fo fi) := by
  intro E σ τ H s θ Q hN hR hw
  unfold zM2 at hw
  rw [Wp_bind] at hw
  refine ho E σ τ H s θ _ hN hR (hw.mono (fun a s1 hw v H1 h1 => ?_) fun _ _ _ h => h)
  split at hw
  · rename_i c
    have h0 := h1
    obtain ⟨p, rfl, hl, h⟩ := h1.unsnoc
    obtain ⟨b, rfl, hD⟩ := isDc_ok c (last1 hl h).2.1
    refine ⟨b, rfl, hD, ?_⟩
    refine RE.next (Q := fun y H2 => ∃ kvs k v, H2 b = some (.dK kvs) ∧ y = kV k ∧ valV kvs k = some v ∧ Q v (upd H2 b (.dK (dropK kvs k)))) hi hN h0 hw fun i s2 u H2 h2 hw => ?_
    obtain ⟨p, rfl, hl, h⟩ := h2.unsnoc
    rw [List.map_append, List.map_append, ← List.append_assoc, ← List.append_assoc] at h
    have pr : Prim2 G (fun x y H Q => ∀ b, x = .ref b → ∃ kvs k v, H b = some (.dK kvs) ∧ y = kV k ∧ valV kvs k = some v ∧ Q v (upd H b (.dK (dropK kvs k)))) (oB2 fDpop) := p_chg2 fun p c z y t b u Q e ho r => by
      unfold fDpop at e
      split at e
      · rename_i ks k e1
        split at e
        · rename_i t' e2
          cases e
          obtain ⟨vs, e3, r3⟩ := ho
          obtain ⟨w, e4, r4⟩ := r3.val.1 _ e2
          have e5 := key_rep r e1
          exact ⟨_, w, r4, fun le => ⟨_, upd_same, r3.drop.mono le⟩, fun q b' e6 => by cases e6; exact ⟨vs, k, w, e3, e5, e4, q⟩⟩
        · cases e
      · cases e
    refine pr E σ τ s2 θ p _ u a i Q hl h ?_ b rfl
    cases e : oB2 fDpop a i s2 with
    | ok b s2 => rw [e] at hw; exact hw
    | ex c fs s2 => exact (oB2_nx _ _ _ _ _ _ e).elim
    | bad => rw [e] at hw; exact hw
  · exact hw.elim
/-- d.get(k, x) -/
noncomputable def zGet2 (fo fi fx : SD → R Vl) : SD → R Vl := fun s => (fo s).bind fun a s1 => if isDc s1 a = true then (fi s1).bind fun i s2 => match i with
  | .d z => match D.sc z with
    | some _ => (fx s2).bind fun b s3 => match b, s3.cont a, z.key with
      | .d x, some (.dct ks), some k => .ok (.d ((dval ks k).getD x)) s3
      | _, _, _ => .bad
    | none => .bad
  | _ => .bad
  else .bad
theorem RE.dget2 {td ty tx : TE} {fo fi fx : SD → R Vl} (ho : RE G W td fo) (hi : RE G W ty fi) (hx : RE G W tx fx) : RE G W (tDGet2 td ty tx) (zGet2 fo fi fx) := by
  intro E σ τ H s θ Q hN hR hw
  unfold zGet2 at hw
  rw [Wp_bind] at hw
  refine ho E σ τ H s θ _ hN hR (hw.mono (fun a s1 hw v H1 h1 => ?_) fun _ _ _ h => h)
  split at hw
  · rename_i c
    have h0 := h1
    obtain ⟨p, rfl, hl, h⟩ := h1.unsnoc
    obtain ⟨b, rfl, hD⟩ := isDc_ok c (last1 hl h).2.1
    refine ⟨b, rfl, hD, ?_⟩
    refine RE.next (Q := fun y H2 => tx σ H2 fun z H3 => ∃ o, DGet H3 b y o ∧ Q (o.getD z) H3) hi hN h0 hw fun i s2 u H2 h2 hw => ?_
    split at hw
    · rename_i z
      split at hw
      · rename_i iv e3
        have hu : u = iv := by
          obtain ⟨p, _, r⟩ := h2.last
          exact sc_rep r e3
        subst hu
        refine RE.next (Q := fun z H3 => ∃ o, DGet H3 b u o ∧ Q (o.getD z) H3) hx hN h2.pop hw fun c s3 y H3 h3 hw => ?_
        split at hw
        · rename_i x ks k e4 e5
          obtain ⟨p, rfl, hl, h⟩ := h3.unsnoc
          rw [List.map_append, List.map_append, ← List.append_assoc, ← List.append_assoc] at h
          obtain ⟨hS, ca, _⟩ := last2 hl h
          obtain ⟨u', e6, r6⟩ := h.ent _ _ snoc_new
          rw [← snoc_len h.len, snoc_new] at e6
          cases e6
          obtain ⟨b', vs, e7, hb, r⟩ := (ca _ e4).dct
          cases e7
          have e8 : u = kV k := key_rep (rep_sc (G := G) (p := p) e3) e5
          refine ⟨valV vs k, .inl ⟨vs, k, hb, e8, rfl⟩, ?_⟩
          cases e9 : dval ks k with
          | none =>
            rw [e9] at hw
            rw [r.val.2 e9]
            exact fin_d hS hl hw r6
          | some d =>
            rw [e9] at hw
            obtain ⟨w, e10, r10⟩ := r.val.1 d e9
            rw [e10]
            exact fin_d hS hl hw r10
        · exact hw.elim
      · exact hw.elim
    · exact hw.elim
  · exact hw.elim
/-! ### texts -/
def dstrs : List D → Option (List Str)
  | [] => some []
  | .str z :: ds => match dstrs ds with
    | some zs => some (z :: zs)
    | none => none
  | _ => none
theorem dstrs_rep : ∀ {ds : List D} {vs : List V} {is : List Str}, Reps G p ds vs → dstrs ds = some is → vs = is.map V.str
  | [], vs, is, h, e => by cases e; exact h
  | d :: ds, vs, is, h, e => by
    obtain ⟨v, r, rfl, h1, h2⟩ := h
    unfold dstrs at e
    split at e
    · rename_i heq; cases heq
    · rename_i heq
      cases heq
      split at e
      · rename_i e1
        cases e
        rw [List.map_cons, dstrs_rep h2 e1, show v = .str _ from h1]
      · cases e
    · cases e
theorem strs_reps {is : List Str} : Reps G p (is.map D.str) (is.map V.str) := by
  induction is with
  | nil => rfl
  | cons i is ih => exact ⟨_, _, rfl, rfl, ih⟩
def isS (a : Vl) : Bool := match a with
  | .d (.str _) => true
  | _ => false
def zM1s (f : Vl → Vl → SD → R Vl) (fa fb : SD → R Vl) : SD → R Vl := fun s => (fa s).bind fun a s1 => if isS a = true then (fb s1).bind fun b s2 => f a b s2 else .bad
theorem RE.m1 {r : V → List V → Hp → VK → Prop} {f : Vl → Vl → SD → R Vl} {ta tb : TE} {fa fb : SD → R Vl} (hp : Prim2 G (fun x y H Q => r x [y] H Q) f) (nx : ∀ a b s c fs s', f a b s ≠ .ex c fs s') (ha : RE G W ta fa) (hb : RE G W tb fb) : RE G W (tM1 r ta tb) (zM1s f fa fb) := by
  intro E σ τ H s θ Q hN hR hw
  unfold zM1s at hw
  rw [Wp_bind] at hw
  refine ha E σ τ H s θ _ hN hR (hw.mono (fun a s1 hw v H1 h1 => ?_) fun _ _ _ h => h)
  split at hw
  · rename_i c
    have hv : ∃ z, v = .str z := by
      unfold isS at c
      split at c
      · rename_i z
        obtain ⟨p, _, r⟩ := h1.last
        exact ⟨z, r⟩
      · cases c
    refine ⟨hv, ?_⟩
    refine RE.next (Q := fun u H2 => r v [u] H2 Q) hb hN h1 hw fun b s2 u H2 h2 hw => ?_
    obtain ⟨p, rfl, hl, h⟩ := h2.unsnoc
    rw [List.map_append, List.map_append, ← List.append_assoc, ← List.append_assoc] at h
    refine hp E σ τ s2 θ p v u a b Q hl h ?_
    cases e : f a b s2 with
    | ok b s2 => rw [e] at hw; exact hw
    | ex c fs s2 => exact (nx _ _ _ _ _ _ e).elim
    | bad => rw [e] at hw; exact hw
  · exact hw.elim
noncomputable def oJoin (a b : Vl) (s : SD) : R Vl := match s.cont a, s.cont b with
  | some (.str z), some (.lst ds) => match dstrs ds with
    | some ys => if (ys.map (·.length)).sum + ys.length * z.length ≤ 16777216 then .ok (.d (.str (Txt.join z ys))) s else .bad
    | none => .bad
  | _, _ => .bad
theorem p_join : Prim2 G (fun x y H Q => ∃ a p, ∃ ys : List Str, x = .str a ∧ [y] = [.ref p] ∧ (SqL G.K H p (ys.map V.str) ∨ SqT G.K H p (ys.map V.str)) ∧ (ys.map (·.length)).sum + ys.length * a.length ≤ 16777216 ∧ Q (.str (Txt.join a ys)) H) oJoin := by
  intro E σ τ s θ p v u a b Q hl h hw
  obtain ⟨h0, ca, cb⟩ := last2 hl h
  unfold oJoin at hw
  split at hw
  · rename_i e1 e2
    split at hw
    · rename_i ys e3
      split at hw
      · rename_i hz
        obtain rfl := (ca _ e1).str
        obtain ⟨b, vs, rfl, hb, r⟩ := (cb _ e2).lst
        obtain rfl := dstrs_rep r e3
        exact ⟨_, b, ys, rfl, rfl, .inl (.of hb), hz, fin_d h0 hl hw rfl⟩
      · exact hw.elim
    · exact hw.elim
  · exact hw.elim
theorem oJoin_nx : ∀ (a b : Vl) (s : SD) c fs s', oJoin a b s ≠ .ex c fs s' := by
  intro a b s c fs s'
  unfold oJoin
  split
  · split
    · split <;> (intro q; cases q)
    · intro q; cases q
  · intro q; cases q
/-! ### zip -/
def zips : List D → List D → List D
  | x :: xs, y :: ys => .tup [x, y] :: zips xs ys
  | _, _ => []
theorem zips_get : ∀ {xs ys : List D} {i : Nat}, (zips xs ys)[i]? = match xs[i]?, ys[i]? with
    | some x, some y => some (.tup [x, y])
    | _, _ => none
  | [], ys, i => by simp [zips]
  | x :: xs, [], i => by simp [zips]
  | x :: xs, y :: ys, 0 => rfl
  | x :: xs, y :: ys, i + 1 => by
    simp only [zips, List.getElem?_cons_succ]
    exact zips_get
noncomputable def zZip (fa fb : SD → R Vl) : SD → R Src := fun s => (zFix fa s).bind fun a s1 => (zFix fb s1).bind fun b s2 => match s2.cont a, s2.cont b with
  | some (.lst xs), some (.lst ys) => .ok ⟨[a, b], fun s => s.cont a = some (.lst xs) ∧ s.cont b = some (.lst ys), zips xs ys⟩ s2
  | _, _ => .bad
theorem RI.zip {ta tb : TE} {fa fb : SD → R Vl} (ha : RE G W ta fa) (hb : RE G W tb fb) : RI G W (iZip G.K (tCons ta (tCons tb tNil))) (zZip fa fb) := by
  intro E σ τ H s θ Q hN hR hw
  unfold zZip at hw
  refine RE.two (f := fun a b s2 => match s2.cont a, s2.cont b with
    | some (.lst xs), some (.lst ys) => .ok (⟨[a, b], fun s => s.cont a = some (.lst xs) ∧ s.cont b = some (.lst ys), zips xs ys⟩ : Src) s2
    | _, _ => .bad) (Q := fun x y H2 => ∃ a b xs ys, [x, y] = [.ref a, .ref b] ∧ SqL G.K H2 a xs ∧ SqL G.K H2 b ys ∧ Q (Itz G.K a b) H2) (RE.fix ha) (RE.fix hb) hN hR hw fun a b s2 v u H2 h2 hw => ?_
  have h3 := h2
  obtain ⟨p, rfl, hl, h⟩ := h2.unsnoc
  rw [List.map_append, List.map_append, ← List.append_assoc, ← List.append_assoc] at h
  obtain ⟨h0, ca, cb⟩ := last2 hl h
  split at hw
  · rename_i xs ys e1 e2
    obtain ⟨a1, vs, rfl, ha1, r1⟩ := (ca _ e1).lst
    obtain ⟨b1, us, rfl, hb1, r2⟩ := (cb _ e2).lst
    refine ⟨a1, b1, vs, us, rfl, .of ha1, .of hb1, hw [.ref a1, .ref b1] _ _ E (fun _ _ _ _ _ h => h) rfl (by simpa using h3) fun i σ τ τ2 θ θ2 H s ht ht2 h ok => ?_⟩
    have e3 : τ ++ [V.ref a1, .ref b1] ++ τ2 = τ ++ [V.ref a1] ++ ([V.ref b1] ++ τ2) := by simp
    have e4 : θ ++ [a, b] ++ θ2 = θ ++ [a] ++ ([b] ++ θ2) := by simp
    have e5 : τ ++ [V.ref a1, .ref b1] ++ τ2 = (τ ++ [.ref a1]) ++ [.ref b1] ++ τ2 := by simp
    have e6 : θ ++ [a, b] ++ θ2 = (θ ++ [a]) ++ [b] ++ θ2 := by simp
    have hA := h
    obtain ⟨p', rfl, hl', hS⟩ := h
    have c1 : ∀ x, s.cont a = some x → Cont G p' x (.ref a1) := fun x c => by
      have q1 : σ ++ (τ ++ [V.ref a1, .ref b1] ++ τ2).map some = (σ ++ τ.map some) ++ some (.ref a1) :: some (.ref b1) :: τ2.map some := by simp
      have q2 : s.sl ++ (θ ++ [a, b] ++ θ2).map some = (s.sl ++ θ.map some) ++ some a :: some b :: θ2.map some := by simp
      have hL : (σ ++ τ.map some).length = (s.sl ++ θ.map some).length := by simp [hl', ht]
      refine hS.cont rfl (k := (s.sl ++ θ.map some).length) ?_ ?_ c
      · rw [q2, List.getElem?_append_right (Nat.le_refl _)]; simp
      · rw [q1, ← hL, List.getElem?_append_right (Nat.le_refl _)]; simp
    have c2 : ∀ x, s.cont b = some x → Cont G p' x (.ref b1) := fun x c => by
      have q1 : σ ++ (τ ++ [V.ref a1, .ref b1] ++ τ2).map some = (σ ++ (τ ++ [V.ref a1]).map some) ++ some (.ref b1) :: τ2.map some := by simp
      have q2 : s.sl ++ (θ ++ [a, b] ++ θ2).map some = (s.sl ++ (θ ++ [a]).map some) ++ some b :: θ2.map some := by simp
      have hL : (σ ++ (τ ++ [V.ref a1]).map some).length = (s.sl ++ (θ ++ [a]).map some).length := by simp [hl', ht]
      refine hS.cont rfl (k := (s.sl ++ (θ ++ [a]).map some).length) ?_ ?_ c
      · rw [q2, List.getElem?_append_right (Nat.le_refl _)]; simp
      · rw [q1, ← hL, List.getElem?_append_right (Nat.le_refl _)]; simp
    obtain ⟨_, vs', e7, ha2, r3⟩ := (c1 _ ok.1).lst
    cases e7
    obtain ⟨_, us', e8, hb2, r4⟩ := (c2 _ ok.2).lst
    cases e8
    refine ⟨fun d e => ?_, fun e => ?_⟩
    · have e : (zips xs ys)[i]? = some d := e
      rw [zips_get] at e
      split at e
      · rename_i x y ex ey
        cases e
        obtain ⟨v1, f1, g1⟩ := r3.get ex
        obtain ⟨v2, f2, g2⟩ := r4.get ey
        refine ⟨⟨vs', us', v1, v2, .of ha2, .of hb2, f1, f2⟩, fun q H' yl => ?_⟩
        obtain ⟨T, z1, z2, rfl, hT, rfl, y1, y2⟩ := yl
        have e9 := y1 vs' (.of ha2)
        rw [f1] at e9; cases e9
        have e10 := y2 us' (.of hb2)
        rw [f2] at e10; cases e10
        exact .snoc ((hS.alloc hT).push (x := .tup [x, y]) ⟨T, _, rfl, ⟨(hS.fresh hT).2, upd_same⟩, _, _, rfl, g1.mono (le_alloc hT), _, _, rfl, g2.mono (le_alloc hT), rfl⟩) hl' rfl
      · cases e
    · have e : (zips xs ys)[i]? = none := e
      rw [zips_get] at e
      refine ⟨vs', us', .of ha2, .of hb2, ?_⟩
      cases ex : xs[i]? with
      | none => exact .inl (List.getElem?_eq_none_iff.mp (r3.none ex))
      | some x =>
        cases ey : ys[i]? with
        | none => exact .inr (List.getElem?_eq_none_iff.mp (r4.none ey))
        | some y => rw [ex, ey] at e; cases e
  · exact hw.elim
/-! ### three names at once -/
def zPar3 (i j l : Nat) (fr : SD → R (List D)) : SD → R Fl := fun s => (fr s).bind fun ds s1 => match ds with
  | [x, y, z] => .ok .nx { s1 with sl := setAll [i, j, l] [x, y, z] s1.sl }
  | _ => .bad
theorem RS.par3 {i j l : Nat} {t : TA} {fr : SD → R (List D)} (ha : RA G W t fr) : RS G W (tPar3 i j l t) (zPar3 i j l fr) := by
  intro E σ τ H s θ D hN hR hw
  unfold zPar3 at hw
  rw [Wp_bind] at hw
  refine ha E σ τ H s θ _ hN hR (hw.mono (fun ds s1 hw vs H1 h1 => ?_) fun _ _ _ h => h)
  split at hw
  · obtain ⟨p, rfl, hl, h, r⟩ := h1.args hR.tlen
    have := names_ok (is := [i, j, l]) (Q := fun σ' H' => D.nx σ' H') rfl hN hl h r fun σ' h' _ => hw σ' _ h'
    obtain ⟨v, r1, rfl, w, r2, rfl, z, r3, rfl, rfl, q⟩ := this
    exact ⟨v, w, z, rfl, q⟩
  · exact hw.elim
end
end Z

/-! the value level: what a printed proof leans on -/
namespace Z
open PySem PySem.Spec PyProof.Rows L2 M
open Classical
structure Op2 (G : Gc) (r : R2) (f : Vl → Vl → SD → R Vl) : Prop where
  p : Prim2 G r f
  nx : ∀ a b s c fs s', f a b s ≠ .ex c fs s'
structure Op1 (G : Gc) (r : V → Hp → VK → Prop) (f : Vl → SD → R Vl) : Prop where
  p : Prim1 G r f
  nx : ∀ a s c fs s', f a s ≠ .ex c fs s'
section
variable {G : Gc} {W : WX}
theorem q_add : Op2 G (rAddZ G.K) oAdd := ⟨p_add, by intros; unfold oAdd; (repeat' split) <;> (intro q; cases q)⟩
theorem q_sub : Op2 G (rI0 fun i j => .int (i - j)) oSub := ⟨p_sub, by intros; unfold oSub; (repeat' split) <;> (intro q; cases q)⟩
theorem q_mul : Op2 G rMulZ oMul := ⟨p_mul, by intros; unfold oMul; (repeat' split) <;> (intro q; cases q)⟩
theorem q_mod : Op2 G (rI (fun _ j => 0 < j) fun i j => .int (i % j)) oMod := ⟨p_mod, by intros; unfold oMod; (repeat' split) <;> (intro q; cases q)⟩
theorem q_div : Op2 G (rI CDivW fun i j => .int (i / j)) oDiv := ⟨p_div, by intros; unfold oDiv; (repeat' split) <;> (intro q; cases q)⟩
theorem q_pow : Op2 G (rI CPowW fun i j => .int (i ^ j.toNat)) oPow := ⟨p_pow, by intros; unfold oPow; (repeat' split) <;> (intro q; cases q)⟩
theorem q_xor : Op2 G (rI0 fun i j => .int (Builtin.bitXor i j)) oXor := ⟨p_xor, by intros; unfold oXor; (repeat' split) <;> (intro q; cases q)⟩
theorem nx_cmp {f : Int → Int → Bool} : ∀ a b s c fs s', oCmp f a b s ≠ .ex c fs s' := by intros; unfold oCmp; (repeat' split) <;> (intro q; cases q)
theorem q_lt : Op2 G (rI0 fun i j => .bl (decide (i < j))) oLt := ⟨p_cmp, nx_cmp⟩
theorem q_le : Op2 G (rI0 fun i j => .bl (decide (i ≤ j))) oLe := ⟨p_cmp, nx_cmp⟩
theorem q_gt : Op2 G (rI0 fun i j => .bl (decide (i > j))) oGt := ⟨p_cmp, nx_cmp⟩
theorem q_ge : Op2 G (rI0 fun i j => .bl (decide (i ≥ j))) oGe := ⟨p_cmp, nx_cmp⟩
theorem q_eq : Op2 G (rEqZ G.K) oEq := ⟨p_eq, by intros; unfold oEq; (repeat' split) <;> (intro q; cases q)⟩
theorem q_ne : Op2 G (rNeZ G.K) oNe := ⟨p_ne, by intros; unfold oNe; (repeat' split) <;> (intro q; cases q)⟩
theorem q_in {neg : Bool} : Op2 G (rInZ G.K neg) (oIn neg) := ⟨p_in, by intros; unfold oIn; (repeat' split) <;> (intro q; cases q)⟩
theorem q_ix : Op2 G (rIxZ G.K) oIx := ⟨p_ix, by intros; unfold oIx; (repeat' split) <;> (intro q; cases q)⟩
theorem q_isN {neg : Bool} : Op2 G (rIsZ neg) (oIsN neg) := ⟨p_isN, by intros; unfold oIsN; (repeat' split) <;> (intro q; cases q)⟩
theorem q_len : Op1 G (fun v H Q => rLenZ G.K [v] H Q) oLen := ⟨p_len, by intros; unfold oLen; (repeat' split) <;> (intro q; cases q)⟩
theorem q_list : Op1 G (fun v H Q => rListZ G.K [v] H Q) oList := ⟨p_list, by intros; unfold oList; (repeat' split) <;> (intro q; cases q)⟩
theorem q_dict : Op1 G (fun v H Q => rDictZ G.K [v] H Q) oDict := ⟨p_dict, by intros; unfold oDict; (repeat' split) <;> (intro q; cases q)⟩
theorem q_sorted : Op1 G (fun v H Q => rSortedZ G.K [v] H Q) oSorted := ⟨p_sorted, by intros; unfold oSorted; (repeat' split) <;> (intro q; cases q)⟩
theorem q_sum : Op1 G (fun v H Q => rSum G.K [v] H Q) oSum := ⟨p_sum, by intros; unfold oSum; (repeat' split) <;> (intro q; cases q)⟩
theorem q_all : Op1 G (fun v H Q => rAll G.K [v] H Q) oAll := ⟨p_all, by intros; unfold oAll; (repeat' split) <;> (intro q; cases q)⟩
theorem q_any : Op1 G (fun v H Q => rAny G.K [v] H Q) oAny := ⟨p_any, by intros; unfold oAny; (repeat' split) <;> (intro q; cases q)⟩
theorem q_abs : Op1 G (fun v H Q => rAbs [v] H Q) oAbs := ⟨p_abs, by intros; unfold oAbs; (repeat' split) <;> (intro q; cases q)⟩
theorem q_int : Op1 G (fun v H Q => rIntZ [v] H Q) oInt := ⟨p_int, by intros; unfold oInt; (repeat' split) <;> (intro q; cases q)⟩
theorem q_str : Op1 G (fun v H Q => rStr1 [v] H Q) oStr := ⟨p_str, by intros; unfold oStr; (repeat' split) <;> (intro q; cases q)⟩
theorem q_min : Op2 G (fun v u H Q => rMin2 [v, u] H Q) oMin := ⟨p_min, by intros; unfold oMin; (repeat' split) <;> (intro q; cases q)⟩
theorem q_max : Op2 G (fun v u H Q => rMax2 [v, u] H Q) oMax := ⟨p_max, by intros; unfold oMax; (repeat' split) <;> (intro q; cases q)⟩
theorem RE.o2 {r : R2} {f : Vl → Vl → SD → R Vl} {ta tb : TE} {fa fb : SD → R Vl} (h : Op2 G r f) (ha : RE G W ta fa) (hb : RE G W tb fb) : RE G W (tOp r ta tb) (z2 f fa fb) := RE.op2 h.p h.nx ha hb
theorem RE.c1 {r : List V → Hp → VK → Prop} {f : Vl → SD → R Vl} {ta : TE} {fa : SD → R Vl} (h : Op1 G (fun v H Q => r [v] H Q) f) (ha : RE G W ta fa) : RE G W (tCB r (tCons ta tNil)) (z1 f fa) := RE.cb1 h.p h.nx ha
theorem RE.c2 {r : List V → Hp → VK → Prop} {f : Vl → Vl → SD → R Vl} {ta tb : TE} {fa fb : SD → R Vl} (h : Op2 G (fun v u H Q => r [v, u] H Q) f) (ha : RE G W ta fa) (hb : RE G W tb fb) : RE G W (tCB r (tCons ta (tCons tb tNil))) (z2 f fa fb) := RE.cb2 h.p h.nx ha hb
/-! methods of lists -/
def neg1 (f : Vl → SD → R Vl) : SD → Vl → R Vl := fun s a => f a s
theorem RE.append {ta tb : TE} {fa fb : SD → R Vl} (ha : RE G W ta fa) (hb : RE G W tb fb) : RE G W (tBM G.K "list" rAppend ta (tCons tb tNil)) (zM2 isL (oB2 fAppend) fa (zFix fb)) := RE.bm isL_ty (p_chg2 h_append) oB2_nx ha (RE.fix hb)
theorem RE.extend {ta tb : TE} {fa fb : SD → R Vl} (ha : RE G W ta fa) (hb : RE G W tb fb) : RE G W (tBM G.K "list" rExtend ta (tCons tb tNil)) (zM2 isL (oB2 fExtend) fa (zFix fb)) := RE.bm isL_ty (p_chg2 h_extend) oB2_nx ha (RE.fix hb)
theorem RE.pop {ta : TE} {fa : SD → R Vl} (ha : RE G W ta fa) : RE G W (tBM0 G.K "list" rPop ta) (z1 (oB1 fPop) fa) := RE.bm0 (p_lm0 h_pop fun c y h => by unfold fPop at h; split at h; exact ⟨_, rfl⟩; cases h) oB1_nx ha
theorem RE.reverse {ta : TE} {fa : SD → R Vl} (ha : RE G W ta fa) : RE G W (tBM0 G.K "list" rReverse ta) (z1 (oB1 fReverse) fa) := RE.bm0 (p_lm0 h_reverse fun c y h => by unfold fReverse at h; split at h; exact ⟨_, rfl⟩; cases h) oB1_nx ha
theorem RE.clear {ta : TE} {fa : SD → R Vl} (ha : RE G W ta fa) : RE G W (tBM0 G.K "list" rClear ta) (z1 (oB1 fClear) fa) := RE.bm0 (p_lm0 h_clear fun c y h => by unfold fClear at h; split at h; exact ⟨_, rfl⟩; cases h) oB1_nx ha
theorem RE.join {ta tb : TE} {fa fb : SD → R Vl} (ha : RE G W ta fa) (hb : RE G W tb fb) : RE G W (tM1 (fun x xs H Q => ∃ a p, ∃ ys : List Str, x = .str a ∧ xs = [.ref p] ∧ (SqL G.K H p (ys.map V.str) ∨ SqT G.K H p (ys.map V.str)) ∧ (ys.map (·.length)).sum + ys.length * a.length ≤ 16777216 ∧ Q (.str (Txt.join a ys)) H) ta tb) (zM1s oJoin fa fb) :=
  RE.m1 p_join oJoin_nx ha hb
theorem RE.cint {i : Int} : RE G W (tC (.int i)) (zC (.int i)) := RE.c fun _ => rfl
theorem RE.cstr {i : Str} : RE G W (tC (.str i)) (zC (.str i)) := RE.c fun _ => rfl
theorem RE.cbl {i : Bool} : RE G W (tC (.bl i)) (zC (.bl i)) := RE.c fun _ => rfl
theorem RE.cnon : RE G W (tC .non) (zC .non) := RE.c fun _ => rfl
/-- a chain of two comparisons -/
def zChain (f g : Vl → Vl → SD → R Vl) (fa fb fc : SD → R Vl) : SD → R Vl := fun s => (fa s).bind fun a s1 => (fb s1).bind fun b s2 => match b with
  | .d z => match D.sc z with
    | some _ => (f a b s2).bind fun r s3 => match r with
      | .d (.bl true) => (fc s3).bind fun c s4 => g (.d z) c s4
      | .d (.bl false) => .ok (.d (.bl false)) s3
      | _ => .bad
    | none => .bad
  | _ => .bad
theorem RE.chain {r r' : R2} {f g : Vl → Vl → SD → R Vl} {ta tb tc : TE} {fa fb fc : SD → R Vl} (hf : Op2 G r f) (hg : Op2 G r' g) (ha : RE G W ta fa) (hb : RE G W tb fb) (hc : RE G W tc fc) : RE G W (tChain r r' ta tb tc) (zChain f g fa fb fc) := by
  intro E σ τ H s θ Q hN hR hw
  unfold zChain at hw
  refine RE.two (f := fun a b s2 => match b with
    | .d z => match D.sc z with
      | some _ => (f a b s2).bind fun r s3 => match r with
        | .d (.bl true) => (fc s3).bind fun c s4 => g (.d z) c s4
        | .d (.bl false) => .ok (.d (.bl false)) s3
        | _ => .bad
      | none => .bad
    | _ => .bad) (Q := fun x y H2 => r x y H2 fun z H3 => ∃ k, z = .bl k ∧ (if k = true then tc σ H3 fun w' H4 => r' y w' H4 Q else Q (.bl false) H3)) ha hb hN hR hw fun a b s2 v u H2 h2 hw => ?_
  split at hw
  · rename_i z
    split at hw
    · rename_i uv e1
      have hu : u = uv := by
        obtain ⟨p, _, rr⟩ := h2.last
        exact sc_rep rr e1
      subst hu
      obtain ⟨p, rfl, hl, h⟩ := h2.unsnoc
      rw [List.map_append, List.map_append, ← List.append_assoc, ← List.append_assoc] at h
      refine hf.p E σ τ s2 θ p v u a _ _ hl h ?_
      rw [Wp_bind] at hw
      cases e : f a (.d z) s2 with
      | bad => rw [e] at hw; exact hw.elim
      | ex _ _ _ => exact (hf.nx _ _ _ _ _ _ e).elim
      | ok rv s3 =>
        rw [e] at hw
        intro q H3 h3
        have hw : Wp (match rv with
          | .d (.bl true) => (fc s3).bind fun c s4 => g (.d z) c s4
          | .d (.bl false) => .ok (.d (.bl false)) s3
          | _ => .bad) (fun a s => _) (fun c fs s => _) := hw
        split at hw
        · obtain ⟨p3, _, r3⟩ := h3.last
          obtain rfl : q = .bl true := r3
          refine ⟨true, rfl, ?_⟩
          rw [if_pos rfl]
          have h4 := h3.pop.push (x := z) (v := u) fun _ => rep_sc e1
          rw [Wp_bind] at hw
          refine hc E σ _ H3 s3 _ _ hN.d h4 (hw.mono (fun c s4 hw w' H4 h5 => ?_) fun _ _ _ h => h.up)
          obtain ⟨p, rfl, hl, h⟩ := h5.unsnoc
          rw [List.map_append, List.map_append, ← List.append_assoc, ← List.append_assoc] at h
          refine hg.p E σ τ s4 θ p u w' _ c Q hl h ?_
          cases e : g (.d z) c s4 with
          | ok b s2 => rw [e] at hw; exact hw
          | ex c fs s2 => exact (hg.nx _ _ _ _ _ _ e).elim
          | bad => rw [e] at hw; exact hw
        · obtain ⟨p3, _, r3⟩ := h3.last
          obtain rfl : q = .bl false := r3
          refine ⟨false, rfl, ?_⟩
          rw [if_neg (by decide)]
          exact hw _ _ h3
        · exact hw.elim
    · exact hw.elim
  · exact hw.elim
/-- never reached -/
def zNever : SD → R Fl := fun _ => .bad
theorem RS.never : RS G W tNever zNever := fun _ _ _ _ _ _ _ _ _ hw => hw.elim
def zPass : SD → R Fl := zNext
/-! a class's field -/
theorem fld1 {f c : Str} {C : Addr} (hm : G.mg c = some (.ref C)) (hc : Cls G.K C) (hn : NoAttr G.K C f) : FldOk G f [c] := by
  intro c' h C' hm'
  obtain rfl := List.mem_singleton.mp h
  rw [hm] at hm'; cases hm'
  exact ⟨hc, hn⟩
theorem fldc {f c : Str} {cs : List Str} {C : Addr} (hm : G.mg c = some (.ref C)) (hc : Cls G.K C) (hn : NoAttr G.K C f) (h : FldOk G f cs) : FldOk G f (c :: cs) := by
  intro c' hm2 C' hm'
  rcases List.mem_cons.mp hm2 with rfl | h2
  · rw [hm] at hm'; cases hm'
    exact ⟨hc, hn⟩
  · exact h c' h2 C' hm'
end
/-! ### defs that may be called -/
section
variable (P : Program) (w : World) (K : PySem.W.Frag) (mg : Str → Option Value) (base : Heap)
structure CalZ (k : Nat) (x : Str) (n : Nat) (F : FnV) (dvs : List V) : Prop where
  ex : ∃ (f : Addr) (fd : FuncData) (ps : List Str) (ds : List Value), FnOk P w K mg base (L2.CX P w) k f fd ps (spF ⟨K, mg⟩ n F) ∧ mg x = some (.ref f) ∧ PySem.W.keepIn K (.ref f) = true ∧ Binds K fd ps ds ∧ Vals dvs ds
structure MetZ (k : Nat) (C : Addr) (m : Str) (n : Nat) (F : FnV) (dvs : List V) : Prop where
  ex : ∃ (f : Addr) (fd : FuncData) (ps : List Str) (ds : List Value), Cls K C ∧ Meth K C m f ∧ FnOk P w K mg base (L2.CX P w) k f fd ps (spF ⟨K, mg⟩ n F) ∧ Binds K fd ps ds ∧ Vals dvs ds
structure MakZ (k : Nat) (x : Str) (C : Addr) (n : Nat) (F : FnV) (dvs : List V) : Prop where
  ex : ∃ (f : Addr) (fd : FuncData) (ps : List Str) (ds : List Value), Mk K C f ∧ FnOk P w K mg base (L2.CX P w) k f fd ps (spF ⟨K, mg⟩ n F) ∧ mg x = some (.ref C) ∧ Binds K fd ps ds ∧ Vals dvs ds
end
section
variable {P : Program} {w : World} {K : PySem.W.Frag} {mg : Str → Option Value} {base : Heap}
/-- a def of the text, some values at its end left out -/
structure DfZ (K : PySem.W.Frag) (mg : Str → Option Value) (x : Str) (st : Stmt) (ps : List Str) (dvs : List V) : Prop where
  ex : ∃ (f : Addr) (fd : FuncData), L2.FunD K x x (defArgs st) (defBody st) (defScope st) dvs [] f fd ∧ mg x = some (.ref f) ∧ PySem.W.keepIn K (.ref f) = true ∧ ∀ j, j ≤ dvs.length → ∃ ds, Vals (dvs.drop j) ds ∧ L2.Binds K fd ps ds
theorem calZ_of {x : Str} {st : Stmt} {N ps : List Str} {k n : Nat} {fz : SD → R Fl} (D : M.Df K mg x st ps) (S : FnScope N ps (L2.defScope st)) (hn : ps.length ≤ N.length) (hn2 : n = ps.length)
    (hbody : ∀ (f : Addr) (cdv : Value) (A : Around) (outer : List Env) (s : Shared) (H : Hp) (E : XK), Room k (A.deeper (envOfC x (L2.defScope st) s.heap.objs.size f cdv)) →
      ∃ t, PSs (cxOf (L2.CX P w) P w K mg base N x (L2.defScope st) f cdv A outer s H E) (L2.defBody st) t ∧ RS ⟨K, mg⟩ (fun cls d _ H => E cls d H) t fz) : CalZ P w K mg base (k + 1) x n (zFn N.length fz) [] := by
  obtain ⟨f, fd, F, hm, hb⟩ := D.ex
  subst hn2
  exact ⟨f, fd, ps, [], fnZ F S hn (fun cdv A outer s H E hr => hbody f cdv A outer s H E hr), hm, F.kp, hb, .nil⟩
theorem metZ_of {C : Addr} {m qual : Str} {st : Stmt} {N ps : List Str} {k n : Nat} {fz : SD → R Fl} (D : M.Dm K C m qual st ps) (S : FnScope N ps (L2.defScope st)) (hn : ps.length ≤ N.length) (hn2 : n = ps.length)
    (hbody : ∀ (f : Addr) (cdv : Value) (A : Around) (outer : List Env) (s : Shared) (H : Hp) (E : XK), Room k (A.deeper (envOfC qual (L2.defScope st) s.heap.objs.size f cdv)) →
      ∃ t, PSs (cxOf (L2.CX P w) P w K mg base N qual (L2.defScope st) f cdv A outer s H E) (L2.defBody st) t ∧ RS ⟨K, mg⟩ (fun cls d _ H => E cls d H) t fz) : MetZ P w K mg base (k + 1) C m n (zFn N.length fz) [] := by
  obtain ⟨f, fd, F, c, me, b⟩ := D.ex
  subst hn2
  exact ⟨f, fd, ps, [], c, me, fnZ F S hn (fun cdv A outer s H E hr => hbody f cdv A outer s H E hr), b, .nil⟩
theorem makZ_of {x qual : Str} {C : Addr} {st : Stmt} {N ps : List Str} {k n : Nat} {fz : SD → R Fl} (D : M.Dk K mg x C qual st ps) (S : FnScope N ps (L2.defScope st)) (hn : ps.length ≤ N.length) (hn2 : n = ps.length)
    (hbody : ∀ (f : Addr) (cdv : Value) (A : Around) (outer : List Env) (s : Shared) (H : Hp) (E : XK), Room k (A.deeper (envOfC qual (L2.defScope st) s.heap.objs.size f cdv)) →
      ∃ t, PSs (cxOf (L2.CX P w) P w K mg base N qual (L2.defScope st) f cdv A outer s H E) (L2.defBody st) t ∧ RS ⟨K, mg⟩ (fun cls d _ H => E cls d H) t fz) : MakZ P w K mg base (k + 1) x C n (zFn N.length fz) [] := by
  obtain ⟨f, fd, F, M, hm, b⟩ := D.ex
  subst hn2
  exact ⟨f, fd, ps, [], M, fnZ F S hn (fun cdv A outer s H E hr => hbody f cdv A outer s H E hr), hm, b, .nil⟩
theorem metZd_of {C : Addr} {m qual : Str} {st : Stmt} {N ps : List Str} {dvs : List V} {k n : Nat} {fz : SD → R Fl} (D : M.Dmd K C m qual st ps dvs) (S : FnScope N ps (L2.defScope st)) (hn : ps.length ≤ N.length) (hn2 : n = ps.length)
    (hbody : ∀ (f : Addr) (cdv : Value) (A : Around) (outer : List Env) (s : Shared) (H : Hp) (E : XK), Room k (A.deeper (envOfC qual (L2.defScope st) s.heap.objs.size f cdv)) →
      ∃ t, PSs (cxOf (L2.CX P w) P w K mg base N qual (L2.defScope st) f cdv A outer s H E) (L2.defBody st) t ∧ RS ⟨K, mg⟩ (fun cls d _ H => E cls d H) t fz) (j : Nat) (hj : j ≤ dvs.length) : MetZ P w K mg base (k + 1) C m n (zFn N.length fz) (dvs.drop j) := by
  obtain ⟨f, fd, F, c, me, b⟩ := D.ex
  subst hn2
  obtain ⟨ds, hd, hb⟩ := b j hj
  refine ⟨f, fd, ps, ds, c, me, ?_, hb, hd⟩
  exact F.ok S spF_len fun cdv A outer s H vs Q E hr h => by
    obtain ⟨t, h1, h2⟩ := hbody f cdv A outer s H E hr
    exact ⟨t, h1, spF_body h2 h hn⟩
end
section
variable {X : Cx} {W : WX} {k j n : Nat} {C : Addr} {x m : Str} {F : FnV} {dvs : List V} {p pos apos : Pos} {e o : Expr} {es : List Expr} {ta : TE} {t : TA}
theorem m_cZ (c : CalZ X.prog X.w X.K X.mg X.base k x n F dvs) (hr : Room j X.A) (hk : k ≤ j) (tk : Takes X W) (hg : Gl X x) (ha : PA X (e :: es) t)
    (hdb : (x == ("__debug__" : Str)) = false := by decide) (he : starEach (e :: es) X.env = (false, eval e X.env) :: starEach es X.env := by rfl) (hpl : (backTo pos (starEach es X.env)).any (·.1) = false := by rfl) :
    PE X (.Call (.Name x p) (e :: es) [] pos) (tCallSD (spF ⟨X.K, X.mg⟩ n F) dvs (WE W) t) := by
  obtain ⟨f, fd, ps, ds, h, hm, kp, b, d⟩ := c.ex
  exact pe_callSD h (hr.mono hk) hg hm kp b d (fun σ => passAt tk σ) ha hdb he hpl
theorem m_cZ0 (c : CalZ X.prog X.w X.K X.mg X.base k x n F dvs) (hr : Room j X.A) (hk : k ≤ j) (tk : Takes X W) (hg : Gl X x)
    (hdb : (x == ("__debug__" : Str)) = false := by decide) : PE X (.Call (.Name x p) [] [] pos) (tCallSD (spF ⟨X.K, X.mg⟩ n F) dvs (WE W) tNil) := by
  obtain ⟨f, fd, ps, ds, h, hm, kp, b, d⟩ := c.ex
  exact pe_callSD0 h (hr.mono hk) hg hm kp b d (fun σ => passAt tk σ) hdb
theorem m_mkZ (c : MakZ X.prog X.w X.K X.mg X.base k x C n F dvs) (hr : Room j X.A) (hk : k + 1 ≤ j) (tk : Takes X W) (hg : Gl X x) (ha : PA X (e :: es) t)
    (hdb : (x == ("__debug__" : Str)) = false := by decide) (he : starEach (e :: es) X.env = (false, eval e X.env) :: starEach es X.env := by rfl) (hpl : (backTo pos (starEach es X.env)).any (·.1) = false := by rfl) :
    PE X (.Call (.Name x p) (e :: es) [] pos) (tMakS C (spF ⟨X.K, X.mg⟩ n F) dvs (WE W) t) := by
  obtain ⟨f, fd, ps, ds, M, h, hm, b, d⟩ := c.ex
  exact pe_makS M h (hr.mono hk) hg hm b d (fun σ => passAt tk σ) ha hdb he hpl
theorem m_mkZ0 (c : MakZ X.prog X.w X.K X.mg X.base k x C n F dvs) (hr : Room j X.A) (hk : k + 1 ≤ j) (tk : Takes X W) (hg : Gl X x)
    (hdb : (x == ("__debug__" : Str)) = false := by decide) : PE X (.Call (.Name x p) [] [] pos) (tMakS C (spF ⟨X.K, X.mg⟩ n F) dvs (WE W) tNil) := by
  obtain ⟨f, fd, ps, ds, M, h, hm, b, d⟩ := c.ex
  exact pe_makS0 M h (hr.mono hk) hg hm b d (fun σ => passAt tk σ) hdb
theorem m_mtZ {pl : Sem Bool} (c : MetZ X.prog X.w X.K X.mg X.base k C m n F dvs) (hr : Room j X.A) (hk : k ≤ j) (tk : Takes X W) (he : PE X o ta) (ha : PA X (e :: es) t)
    (hst : starEach (e :: es) X.env = (false, eval e X.env) :: starEach es X.env := by rfl) (hpl : (backTo pos (starEach es X.env)).any (·.1) = false := by rfl)
    (ht : eval (.Call (.Attribute o m apos) (e :: es) [] pos) X.env = (do
      let ov ← eval o X.env
      standAt apos.atName
      let (f, first) ← holding [ov] (getMethod ov m pl)
      callWith pos f first (backTo pos (starEach (e :: es) X.env)) (backToKw pos (keywordEach [] X.env))) := by rfl) :
    PE X (.Call (.Attribute o m apos) (e :: es) [] pos) (tMethS C m (spF ⟨X.K, X.mg⟩ n F) dvs (WE W) ta t) := by
  obtain ⟨f, fd, ps, ds, cl, me, h, b, d⟩ := c.ex
  exact pe_methSD (pl := pl) he cl me h (hr.mono hk) b d (fun σ => passAt tk σ) ha hst hpl ht
theorem m_mtZ0 {pl : Sem Bool} (c : MetZ X.prog X.w X.K X.mg X.base k C m n F dvs) (hr : Room j X.A) (hk : k ≤ j) (tk : Takes X W) (he : PE X o ta)
    (ht : eval (.Call (.Attribute o m apos) [] [] pos) X.env = (do
      let ov ← eval o X.env
      standAt apos.atName
      let (f, first) ← holding [ov] (getMethod ov m pl)
      callWith pos f first (backTo pos (starEach [] X.env)) (backToKw pos (keywordEach [] X.env))) := by rfl) :
    PE X (.Call (.Attribute o m apos) [] [] pos) (tMethS C m (spF ⟨X.K, X.mg⟩ n F) dvs (WE W) ta tNil) := by
  obtain ⟨f, fd, ps, ds, cl, me, h, b, d⟩ := c.ex
  exact pe_methSD0 (pl := pl) he cl me h (hr.mono hk) b d (fun σ => passAt tk σ) ht
theorem takes0Z : Takes X WF := fun _ _ ⟨_, _, _, _, _, _, _, _, _, _, _, _, _, _, _, _, w⟩ => w.elim
/-! the rules that a block's own context tells otherwise -/
theorem m_fldZ {K : PySem.W.Frag} {f : Str} {ta : TE} (he : PE X e ta) (hb : attributeBase e f X.env (eval e X.env) = eval e X.env := by rfl) (hK : X.K = K := by rfl) : PE X (.Attribute e f pos) (tFld K ta f) := hK ▸ pe_fld he hb
end
end Z

/-! -i; what a printed proof leans on besides -/
namespace Z
open PySem PySem.Spec PyProof.Rows L2 M
open Classical
section
variable {G : Gc} {W : WX}
def oNeg (a : Vl) (s : SD) : R Vl := match s.cont a with
  | some (.int i) => .ok (.d (.int (-i))) s
  | _ => .bad
theorem RE.neg {ta : TE} {fa : SD → R Vl} (ha : RE G W ta fa) : RE G W (tUn (rU fun i => .int (-i)) ta) (z1 oNeg fa) := by
  refine RE.op1 (r := rU fun i => .int (-i)) ?_ ?_ ha
  · intro E σ τ s θ p v a Q hl h hw
    obtain ⟨h0, ca, _⟩ := last1 hl h
    unfold oNeg at hw
    split at hw
    · rename_i i e
      obtain rfl := (ca _ e).int
      exact ⟨i, rfl, fin_d h0 hl hw rfl⟩
    · exact hw.elim
  · intro a s c fs s'
    unfold oNeg
    split <;> (intro q; cases q)
theorem hd_Add : ∀ (m n : Int) (H : Hp) (Q : VK), Q (.int (m + n)) H → rAdd (.int m) (.int n) H Q := fun m n H Q q => ⟨m, n, rfl, rfl, q⟩
theorem hd_Sub : ∀ (m n : Int) (H : Hp) (Q : VK), Q (.int (m - n)) H → rSub (.int m) (.int n) H Q := fun m n H Q q => ⟨m, n, rfl, rfl, q⟩
end
/-! calls inside a comprehension: K told -/
section
variable {X : Cx} {W : WX} {k j n : Nat} {C : Addr} {x m : Str} {F : FnV} {dvs : List V} {p pos apos : Pos} {e o : Expr} {es : List Expr} {ta : TE} {t : TA}
theorem m_cK {K : PySem.W.Frag} {mg : Str → Option Value} (c : CalZ X.prog X.w K mg X.base k x n F dvs) (hr : Room j X.A) (hk : k ≤ j) (tk : Takes X W) (hg : Gl X x) (ha : PA X (e :: es) t)
    (hdb : (x == ("__debug__" : Str)) = false := by decide) (he : starEach (e :: es) X.env = (false, eval e X.env) :: starEach es X.env := by rfl) (hpl : (backTo pos (starEach es X.env)).any (·.1) = false := by rfl) (hK : X.K = K := by rfl) (hM : X.mg = mg := by rfl) :
    PE X (.Call (.Name x p) (e :: es) [] pos) (tCallSD (spF ⟨K, mg⟩ n F) dvs (WE W) t) := by
  subst hK
  subst hM
  exact m_cZ c hr hk tk hg ha hdb he hpl
theorem m_cK0 {K : PySem.W.Frag} {mg : Str → Option Value} (c : CalZ X.prog X.w K mg X.base k x n F dvs) (hr : Room j X.A) (hk : k ≤ j) (tk : Takes X W) (hg : Gl X x)
    (hdb : (x == ("__debug__" : Str)) = false := by decide) (hK : X.K = K := by rfl) (hM : X.mg = mg := by rfl) : PE X (.Call (.Name x p) [] [] pos) (tCallSD (spF ⟨K, mg⟩ n F) dvs (WE W) tNil) := by
  subst hK
  subst hM
  exact m_cZ0 c hr hk tk hg hdb
theorem m_mkK {K : PySem.W.Frag} {mg : Str → Option Value} (c : MakZ X.prog X.w K mg X.base k x C n F dvs) (hr : Room j X.A) (hk : k + 1 ≤ j) (tk : Takes X W) (hg : Gl X x) (ha : PA X (e :: es) t)
    (hdb : (x == ("__debug__" : Str)) = false := by decide) (he : starEach (e :: es) X.env = (false, eval e X.env) :: starEach es X.env := by rfl) (hpl : (backTo pos (starEach es X.env)).any (·.1) = false := by rfl) (hK : X.K = K := by rfl) (hM : X.mg = mg := by rfl) :
    PE X (.Call (.Name x p) (e :: es) [] pos) (tMakS C (spF ⟨K, mg⟩ n F) dvs (WE W) t) := by
  subst hK
  subst hM
  exact m_mkZ c hr hk tk hg ha hdb he hpl
theorem m_mkK0 {K : PySem.W.Frag} {mg : Str → Option Value} (c : MakZ X.prog X.w K mg X.base k x C n F dvs) (hr : Room j X.A) (hk : k + 1 ≤ j) (tk : Takes X W) (hg : Gl X x)
    (hdb : (x == ("__debug__" : Str)) = false := by decide) (hK : X.K = K := by rfl) (hM : X.mg = mg := by rfl) : PE X (.Call (.Name x p) [] [] pos) (tMakS C (spF ⟨K, mg⟩ n F) dvs (WE W) tNil) := by
  subst hK
  subst hM
  exact m_mkZ0 c hr hk tk hg hdb
theorem m_mtK {K : PySem.W.Frag} {mg : Str → Option Value} {pl : Sem Bool} (c : MetZ X.prog X.w K mg X.base k C m n F dvs) (hr : Room j X.A) (hk : k ≤ j) (tk : Takes X W) (he : PE X o ta) (ha : PA X (e :: es) t)
    (hst : starEach (e :: es) X.env = (false, eval e X.env) :: starEach es X.env := by rfl) (hpl : (backTo pos (starEach es X.env)).any (·.1) = false := by rfl)
    (ht : eval (.Call (.Attribute o m apos) (e :: es) [] pos) X.env = (do
      let ov ← eval o X.env
      standAt apos.atName
      let (f, first) ← holding [ov] (getMethod ov m pl)
      callWith pos f first (backTo pos (starEach (e :: es) X.env)) (backToKw pos (keywordEach [] X.env))) := by rfl) (hK : X.K = K := by rfl) (hM : X.mg = mg := by rfl) :
    PE X (.Call (.Attribute o m apos) (e :: es) [] pos) (tMethS C m (spF ⟨K, mg⟩ n F) dvs (WE W) ta t) := by
  subst hK
  subst hM
  exact m_mtZ c hr hk tk he ha hst hpl ht
theorem m_mtK0 {K : PySem.W.Frag} {mg : Str → Option Value} {pl : Sem Bool} (c : MetZ X.prog X.w K mg X.base k C m n F dvs) (hr : Room j X.A) (hk : k ≤ j) (tk : Takes X W) (he : PE X o ta)
    (ht : eval (.Call (.Attribute o m apos) [] [] pos) X.env = (do
      let ov ← eval o X.env
      standAt apos.atName
      let (f, first) ← holding [ov] (getMethod ov m pl)
      callWith pos f first (backTo pos (starEach [] X.env)) (backToKw pos (keywordEach [] X.env))) := by rfl) (hK : X.K = K := by rfl) (hM : X.mg = mg := by rfl) :
    PE X (.Call (.Attribute o m apos) [] [] pos) (tMethS C m (spF ⟨K, mg⟩ n F) dvs (WE W) ta tNil) := by
  subst hK
  subst hM
  exact m_mtZ0 c hr hk tk he ht
end
end Z

/-! the value level: to work a function out -/
namespace Z
open PySem PySem.Spec PyProof.Rows L2 M
open Classical
section
variable {α β : Type} {a b : Vl} {x y : D} {s s' : SD} {S : Sto} {sl : List (Option Vl)} {f g : SD → R Fl} {fa fb fc : SD → R Vl} {fr : SD → R (List D)} {i j k : Nat}
theorem bind_ok {a : α} {k : α → SD → R β} : R.bind (.ok a s) k = k a s := rfl
theorem bind_bad {k : α → SD → R β} : R.bind .bad k = .bad := rfl
theorem bind_ite {c : Prop} [Decidable c] {m n : R α} {k : α → SD → R β} : R.bind (if c then m else n) k = if c then m.bind k else n.bind k := by split <;> rfl
theorem iteW {c : Prop} [Decidable c] {P Q : Prop} (h : c) (p : P) : if c then P else Q := by rw [if_pos h]; exact p
theorem iteN {c : Prop} [Decidable c] {P Q : Prop} (h : ¬ c) (p : Q) : if c then P else Q := by rw [if_neg h]; exact p
theorem iteB {c : Prop} [Decidable c] {P Q : Prop} (h : c → P) (p : ¬ c → Q) : if c then P else Q := by split <;> simp_all
def compK {γ : Type} (k : α → SD → R β) (l : β → SD → R γ) : α → SD → R γ := fun a s => (k a s).bind l
theorem x_comp {γ : Type} {k : α → SD → R β} {l : β → SD → R γ} {a : α} : compK k l a s = (k a s).bind l := rfl
theorem bind_bind {γ : Type} {m : R α} {k : α → SD → R β} {l : β → SD → R γ} : R.bind (R.bind m k) l = R.bind m (compK k l) := by cases m <;> rfl
theorem Wp_ite {c : Prop} [Decidable c] {m n : R α} {Q : α → SD → Prop} {E : XQ} : Wp (if c then m else n) Q E = if c then Wp m Q E else Wp n Q E := by split <;> rfl
theorem kit_self {K : PySem.W.Frag} {a : Addr} : PySem.W.kitOne K (.ref a) (.ref a) = some true := by
  unfold PySem.W.kitOne
  rw [if_pos]
  exact beq_self_eq_true _
/-! statements -/
def seqK (g : SD → R Fl) : Fl → SD → R Fl
  | .nx, s => g s
  | .bk, s => .ok .bk s
  | .ct, s => .ok .ct s
  | .rt a, s => .ok (.rt a) s
theorem e_seq : zSeq f g s = (f s).bind (seqK g) := by
  unfold zSeq
  congr
  funext fl s1
  cases fl <;> rfl
theorem seqK_nx : seqK g .nx s = g s := rfl
theorem seqK_rt : seqK g (.rt a) s = .ok (.rt a) s := rfl
theorem seqK_bk : seqK g .bk s = .ok .bk s := rfl
theorem seqK_ct : seqK g .ct s = .ok .ct s := rfl
def nxK {α : Type} : α → SD → R Fl := fun _ s => .ok .nx s
theorem x_nx {α : Type} {a : α} : nxK a s = .ok .nx s := rfl
def asgK (fz : Vl → SD → R Unit) : Vl → SD → R Fl := fun a s => (fz a s).bind nxK
theorem x_asg {fz : Vl → SD → R Unit} : asgK fz a s = (fz a s).bind nxK := rfl
theorem e_asg {fz : Vl → SD → R Unit} : zAsg fa fz s = (fa s).bind (asgK fz) := rfl
theorem e_st_d : zSt i (.d x) ⟨sl, S⟩ = .ok () ⟨sl.set i (some (.d x)), S⟩ := rfl
theorem e_st_own : zSt i (.own x) ⟨sl, S⟩ = .ok () ⟨sl.set i (some (.own x)), S⟩ := rfl
def stK (i : Nat) : D → SD → R Unit := fun x s => .ok () { s with sl := s.sl.set i (some (.d x)) }
theorem x_st : stK i x ⟨sl, S⟩ = .ok () ⟨sl.set i (some (.d x)), S⟩ := rfl
theorem e_st_loc : zSt i (.loc k) s = (s.fix (.loc k)).bind (stK i) := rfl
theorem e_next : zNext s = .ok .nx s := rfl
theorem e_break : zBreak s = .ok .bk s := rfl
theorem e_cont : zCont s = .ok .ct s := rfl
def ifK {α : Type} (f g : SD → R α) : Bool → SD → R α := fun b s => if b = true then f s else g s
theorem x_if {α : Type} {f g : SD → R α} {b : Bool} : ifK f g b s = if b = true then f s else g s := rfl
theorem e_ifS {c : SD → R Bool} : zIfS c f g s = (c s).bind (ifK f g) := rfl
def rtK : Vl → SD → R Fl := fun b s => .ok (.rt b) s
theorem x_rt : rtK a s = .ok (.rt a) s := rfl
def retK : Vl → SD → R Fl := fun a s => (s.told a).bind rtK
theorem x_ret : retK a s = (s.told a).bind rtK := rfl
theorem e_ret : zRet fa s = (fa s).bind retK := rfl
theorem e_retN : zRetN s = .ok (.rt (.d .non)) s := rfl
theorem e_drop : zDrop fa s = (fa s).bind nxK := rfl
theorem e_never : zNever s = .bad := rfl
theorem told_d : s.told (.d x) = .ok (.d x) s := rfl
theorem told_own : s.told (.own x) = .ok (.own x) s := rfl
def toldK (s : SD) (k : Nat) : Option (Option Vl) → R Vl
  | some (some (.own x)) => .ok (.own x) { s with sl := s.sl.set k none }
  | some (some (.d x)) => .ok (.d x) s
  | _ => .bad
theorem told_loc : s.told (.loc k) = toldK s k s.sl[k]? := by
  unfold SD.told toldK
  rfl
theorem toldK_own : toldK ⟨sl, S⟩ k (some (some (.own x))) = .ok (.own x) ⟨sl.set k none, S⟩ := rfl
/-! expressions -/
theorem e_c : zC x s = .ok (.d x) s := rfl
def varK (s : SD) (i : Nat) : Option (Option Vl) → R Vl
  | some (some (.own _)) => .ok (.loc i) s
  | some (some (.d x)) => .ok (.d x) s
  | _ => .bad
theorem e_var : zVar i s = varK s i s.sl[i]? := by
  unfold zVar varK
  rfl
theorem varK_own : varK s i (some (some (.own x))) = .ok (.loc i) s := rfl
theorem varK_d : varK s i (some (some (.d x))) = .ok (.d x) s := rfl
theorem e_z1 {h : Vl → SD → R Vl} : z1 h fa s = (fa s).bind h := rfl
def z2K (h : Vl → Vl → SD → R Vl) (fb : SD → R Vl) : Vl → SD → R Vl := fun a s => (fb s).bind (h a)
theorem x_z2 {h : Vl → Vl → SD → R Vl} : z2K h fb a s = (fb s).bind (h a) := rfl
theorem e_z2 {h : Vl → Vl → SD → R Vl} : z2 h fa fb s = (fa s).bind (z2K h fb) := rfl
theorem fix_d : s.fix (.d x) = .ok x s := rfl
theorem fix_own : s.fix (.own x) = .ok x s := rfl
def fixK (s : SD) (k : Nat) : Option (Option Vl) → R D
  | some (some (.own x)) => .ok x { s with sl := s.sl.set k (some (.d x)) }
  | some (some (.d x)) => .ok x s
  | _ => .bad
theorem fix_loc : s.fix (.loc k) = fixK s k s.sl[k]? := by
  unfold SD.fix fixK
  rfl
theorem fixK_own : fixK ⟨sl, S⟩ k (some (some (.own x))) = .ok x ⟨sl.set k (some (.d x)), S⟩ := rfl
theorem fixK_d : fixK s k (some (some (.d x))) = .ok x s := rfl
def dK' : D → SD → R Vl := fun x s => .ok (.d x) s
theorem x_d : dK' x s = .ok (.d x) s := rfl
def viaK (h : SD → Vl → R D) : Vl → SD → R Vl := fun a s => (h s a).bind dK'
theorem x_via {h : SD → Vl → R D} : viaK h a s = (h s a).bind dK' := rfl
theorem e_via {h : SD → Vl → R D} : zVia h fa s = (fa s).bind (viaK h) := rfl
theorem celled_own : SD.celled ⟨sl, S⟩ (.own x) = .ok (.cell S.nx) ⟨sl, S.new x⟩ := rfl
theorem celled_cell : SD.celled s (.d (.cell i)) = .ok (.cell i) s := rfl
theorem frz_cell (h : S.get i = some x) : SD.frz ⟨sl, S⟩ (.d (.cell i)) = .ok x ⟨sl, S.del i⟩ := by
  unfold SD.frz
  simp only [h]
theorem e_a0 : zA0 s = .ok [] s := rfl
def consK (x : D) : List D → SD → R (List D) := fun xs s => .ok (x :: xs) s
theorem x_cons {xs : List D} : consK x xs s = .ok (x :: xs) s := rfl
def fixK' (fr : SD → R (List D)) : D → SD → R (List D) := fun x s => (fr s).bind (consK x)
theorem x_fix : fixK' fr x s = (fr s).bind (consK x) := rfl
def aK (fr : SD → R (List D)) : Vl → SD → R (List D) := fun a s => (s.fix a).bind (fixK' fr)
theorem x_a : aK fr a s = (s.fix a).bind (fixK' fr) := rfl
theorem e_a : zA fa fr s = (fa s).bind (aK fr) := rfl
def tupK : List D → SD → R Vl := fun xs s => .ok (.d (.tup xs)) s
theorem x_tup {xs : List D} : tupK xs s = .ok (.d (.tup xs)) s := rfl
def lstK : List D → SD → R Vl := fun xs s => .ok (.own (.lst xs)) s
theorem x_lst {xs : List D} : lstK xs s = .ok (.own (.lst xs)) s := rfl
theorem e_tup : zTup fr s = (fr s).bind tupK := rfl
theorem e_lst : zLst fr s = (fr s).bind lstK := rfl
theorem e_dnew : zDnew s = .ok (.own (.dct [])) s := rfl
theorem e_b : zB fa s = (fa s).bind oB := rfl
theorem oB_bl {b : Bool} : oB (.d (.bl b)) s = .ok b s := rfl
def okK {α : Type} (b : α) : SD → R α := fun s => .ok b s
theorem x_ok {α : Type} {b : α} : okK b s = .ok b s := rfl
def notK : Bool → SD → R Bool := fun b s => .ok (!b) s
theorem x_not {b : Bool} : notK b s = .ok (!b) s := rfl
def notVK : Bool → SD → R Vl := fun b s => .ok (.d (.bl (!b))) s
theorem x_notV {b : Bool} : notVK b s = .ok (.d (.bl (!b))) s := rfl
theorem e_and {c d : SD → R Bool} : zAnd c d s = (c s).bind (ifK d (okK false)) := rfl
theorem e_or {c d : SD → R Bool} : zOr c d s = (c s).bind (ifK (okK true) d) := rfl
theorem e_not {c : SD → R Bool} : zNot c s = (c s).bind notK := rfl
theorem e_andV : zAndV fa fb s = (zB fa s).bind (ifK fb (okK (.d (.bl false)))) := rfl
theorem e_orV : zOrV fa fb s = (zB fa s).bind (ifK (okK (.d (.bl true))) fb) := rfl
theorem e_notV : zNotV fa s = (zB fa s).bind notVK := rfl
theorem e_if {c : SD → R Bool} : zIf c fa fb s = (c s).bind (ifK fa fb) := rfl
def callK (F : FnV) (dds : List D) : List D → SD → R Vl := fun ds s => goF F (ds ++ dds) s
theorem x_call {F : FnV} {dds ds : List D} : callK F dds ds s = goF F (ds ++ dds) s := rfl
theorem e_call {F : FnV} {dds : List D} : zCall F dds fr s = (fr s).bind (callK F dds) := rfl
def methK (c m : Str) (F : FnV) (dds : List D) (fr : SD → R (List D)) (x : D) (s : SD) : Option D → R Vl
  | some (.obj c' fs) => if c' = c ∧ fval fs m = none then (fr s).bind fun ds s3 => goF F (x :: (ds ++ dds)) s3 else .bad
  | _ => .bad
def selfK (F : FnV) (dds : List D) (x : D) : List D → SD → R Vl := fun ds s => goF F (x :: (ds ++ dds)) s
theorem x_self {F : FnV} {dds ds : List D} : selfK F dds x ds s = goF F (x :: (ds ++ dds)) s := rfl
def methK2 (c m : Str) (F : FnV) (dds : List D) (fr : SD → R (List D)) : D → SD → R Vl := fun x s => methK c m F dds fr x s (s.cont (.d x))
theorem x_meth2 {c m : Str} {F : FnV} {dds : List D} : methK2 c m F dds fr x s = methK c m F dds fr x s (s.cont (.d x)) := rfl
def methK1 (c m : Str) (F : FnV) (dds : List D) (fr : SD → R (List D)) : Vl → SD → R Vl := fun a s => (s.fix a).bind (methK2 c m F dds fr)
theorem x_meth1 {c m : Str} {F : FnV} {dds : List D} : methK1 c m F dds fr a s = (s.fix a).bind (methK2 c m F dds fr) := rfl
theorem e_meth {c m : Str} {F : FnV} {dds : List D} {fo : SD → R Vl} : zMeth c m F dds fo fr s = (fo s).bind (methK1 c m F dds fr) := by
  unfold zMeth methK1 methK2 methK
  rfl
theorem methK_obj {c m : Str} {F : FnV} {dds : List D} {fs : List (Str × D)} (h : fval fs m = none) : methK c m F dds fr x s (some (.obj c fs)) = (fr s).bind (selfK F dds x) := by
  unfold methK
  simp only [h, and_self, if_true]
  rfl
def chainK (f g : Vl → Vl → SD → R Vl) (fc : SD → R Vl) (a b : Vl) (s2 : SD) : R Vl := match b with
  | .d z => match D.sc z with
    | some _ => (f a b s2).bind fun r s3 => match r with
      | .d (.bl true) => (fc s3).bind fun c s4 => g (.d z) c s4
      | .d (.bl false) => .ok (.d (.bl false)) s3
      | _ => .bad
    | none => .bad
  | _ => .bad
def chain2K (h l : Vl → Vl → SD → R Vl) (fc : SD → R Vl) (a : Vl) : Vl → SD → R Vl := fun b s => chainK h l fc a b s
theorem x_chain2 {h l : Vl → Vl → SD → R Vl} : chain2K h l fc a b s = chainK h l fc a b s := rfl
def chain1K (h l : Vl → Vl → SD → R Vl) (fb fc : SD → R Vl) : Vl → SD → R Vl := fun a s => (fb s).bind (chain2K h l fc a)
theorem x_chain1 {h l : Vl → Vl → SD → R Vl} : chain1K h l fb fc a s = (fb s).bind (chain2K h l fc a) := rfl
theorem e_chain {h l : Vl → Vl → SD → R Vl} : zChain h l fa fb fc s = (fa s).bind (chain1K h l fb fc) := rfl
def chK (l : Vl → Vl → SD → R Vl) (fc : SD → R Vl) (b : Vl) (r : Vl) (s : SD) : R Vl := match r with
  | .d (.bl true) => (fc s).bind fun c s4 => l b c s4
  | .d (.bl false) => .ok (.d (.bl false)) s
  | _ => .bad
theorem chK_bl {l : Vl → Vl → SD → R Vl} {t : Bool} : chK l fc b (.d (.bl t)) s = if t = true then (fc s).bind (l b) else .ok (.d (.bl false)) s := by cases t <;> rfl
theorem chainK_int {h l : Vl → Vl → SD → R Vl} {n : Int} : chainK h l fc a (.d (.int n)) s = (h a (.d (.int n)) s).bind (chK l fc (.d (.int n))) := rfl
/-! slices -/
theorem e_no : zNo s = .ok none s := rfl
def ptK : Vl → SD → R (Option Int)
  | .d (.int i), s => .ok (some i) s
  | _, _ => .bad
theorem x_pt {n : Int} : ptK (.d (.int n)) s = .ok (some n) s := rfl
theorem e_pt : zPt fa s = (fa s).bind ptK := by
  unfold zPt
  congr
  funext a s1
  cases a with
  | d x => cases x <;> rfl
  | own x => rfl
  | loc k => rfl
noncomputable def sl3K (a : Vl) (lo : Option Int) : Option Int → SD → R Vl := fun hi s => oSl a lo hi s
theorem x_sl3 {lo hi : Option Int} : sl3K a lo hi s = oSl a lo hi s := rfl
noncomputable def sl2K (fh : SD → R (Option Int)) (a : Vl) : Option Int → SD → R Vl := fun lo s => (fh s).bind (sl3K a lo)
theorem x_sl2 {fh : SD → R (Option Int)} {lo : Option Int} : sl2K fh a lo s = (fh s).bind (sl3K a lo) := rfl
noncomputable def sl1K (fl fh : SD → R (Option Int)) : Vl → SD → R Vl := fun a s => (fl s).bind (sl2K fh a)
theorem x_sl1 {fl fh : SD → R (Option Int)} : sl1K fl fh a s = (fl s).bind (sl2K fh a) := rfl
theorem e_sl {fl fh : SD → R (Option Int)} : zSl fa fl fh s = (fa s).bind (sl1K fl fh) := rfl
/-! what is read -/
theorem cont_int {n : Int} : s.cont (.d (.int n)) = some (.int n) := rfl
theorem cont_str {z : Str} : s.cont (.d (.str z)) = some (.str z) := rfl
theorem cont_bl {t : Bool} : s.cont (.d (.bl t)) = some (.bl t) := rfl
theorem cont_non : s.cont (.d .non) = some .non := rfl
theorem cont_lst {l : List D} : s.cont (.d (.lst l)) = some (.lst l) := rfl
theorem cont_con {l : List D} : s.cont (.d (.con l)) = some (.con l) := rfl
theorem cont_tup {l : List D} : s.cont (.d (.tup l)) = some (.tup l) := rfl
theorem cont_dct {l : List (Key × D)} : s.cont (.d (.dct l)) = some (.dct l) := rfl
theorem cont_obj {c : Str} {l : List (Str × D)} : s.cont (.d (.obj c l)) = some (.obj c l) := rfl
theorem cont_cell : s.cont (.d (.cell i)) = s.st.get i := rfl
theorem cont_own : s.cont (.own x) = some x := rfl
def contK (S : Sto) : Option (Option Vl) → Option D
  | some (some (.own x)) => some x
  | some (some (.d (.cell i))) => S.get i
  | some (some (.d x)) => some x
  | _ => none
theorem cont_loc : s.cont (.loc k) = contK s.st s.sl[k]? := by
  show (match s.sl[k]? with | some (some (.own x)) => some x | some (some (.d (.cell i))) => s.st.get i | some (some (.d x)) => some x | _ => none) = _
  unfold contK
  rfl
theorem contK_own : contK S (some (some (.own x))) = some x := rfl
/-! operators -/
theorem w_add_int {m n : Int} : oAdd (.d (.int m)) (.d (.int n)) s = .ok (.d (.int (m + n))) s := rfl
theorem w_add_str {m n : Str} : oAdd (.d (.str m)) (.d (.str n)) s = if m.length + n.length ≤ sizeLine then .ok (.d (.str (m ++ n))) s else .bad := rfl
theorem w_sub {m n : Int} : oSub (.d (.int m)) (.d (.int n)) s = .ok (.d (.int (m - n))) s := rfl
theorem w_mul {m n : Int} : oMul (.d (.int m)) (.d (.int n)) s = if CMulX m n then .ok (.d (.int (m * n))) s else .bad := rfl
theorem w_mod {m n : Int} : oMod (.d (.int m)) (.d (.int n)) s = if 0 < n then .ok (.d (.int (m % n))) s else .bad := rfl
theorem w_div {m n : Int} : oDiv (.d (.int m)) (.d (.int n)) s = if CDivW m n then .ok (.d (.int (m / n))) s else .bad := rfl
theorem w_pow {m n : Int} : oPow (.d (.int m)) (.d (.int n)) s = if CPowW m n then .ok (.d (.int (m ^ n.toNat))) s else .bad := rfl
theorem w_cmp {h : Int → Int → Bool} {m n : Int} : oCmp h (.d (.int m)) (.d (.int n)) s = .ok (.d (.bl (h m n))) s := rfl
noncomputable def addK (s : SD) : Option D → Option D → R Vl
  | some (.int i), some (.int j) => .ok (.d (.int (i + j))) s
  | some (.str x), some (.str y) => if x.length + y.length ≤ sizeLine then .ok (.d (.str (x ++ y))) s else .bad
  | some (.lst xs), some (.lst ys) => if xs.length + ys.length ≤ sizeLine then .ok (.own (.lst (xs ++ ys))) s else .bad
  | some (.tup xs), some (.tup ys) => if xs ≠ [] ∧ ys ≠ [] ∧ xs.length + ys.length ≤ sizeLine then .ok (.d (.tup (xs ++ ys))) s else .bad
  | _, _ => .bad
theorem w_add : oAdd a b s = addK s (s.cont a) (s.cont b) := by
  unfold oAdd addK
  rfl
theorem addK_int {m n : Int} : addK s (some (.int m)) (some (.int n)) = .ok (.d (.int (m + n))) s := rfl
theorem addK_str {m n : Str} : addK s (some (.str m)) (some (.str n)) = if m.length + n.length ≤ sizeLine then .ok (.d (.str (m ++ n))) s else .bad := rfl
theorem addK_lst {m n : List D} : addK s (some (.lst m)) (some (.lst n)) = if m.length + n.length ≤ sizeLine then .ok (.own (.lst (m ++ n))) s else .bad := rfl
theorem addK_tup {m n : List D} : addK s (some (.tup m)) (some (.tup n)) = if m ≠ [] ∧ n ≠ [] ∧ m.length + n.length ≤ sizeLine then .ok (.d (.tup (m ++ n))) s else .bad := rfl
noncomputable def mulK (s : SD) : Option D → Option D → R Vl
  | some (.int i), some (.int j) => if CMulX i j then .ok (.d (.int (i * j))) s else .bad
  | some (.lst xs), some (.int k) => if -(2 ^ 63) ≤ k ∧ k < 2 ^ 63 ∧ xs.length * k.toNat ≤ sizeLine then .ok (.own (.lst (List.replicate k.toNat xs).flatten)) s else .bad
  | _, _ => .bad
theorem w_mulG : oMul a b s = mulK s (s.cont a) (s.cont b) := by
  unfold oMul mulK
  rfl
theorem mulK_int {i j : Int} : mulK s (some (.int i)) (some (.int j)) = if CMulX i j then .ok (.d (.int (i * j))) s else .bad := rfl
theorem mulK_lst {xs : List D} {k : Int} : mulK s (some (.lst xs)) (some (.int k)) = if -(2 ^ 63) ≤ k ∧ k < 2 ^ 63 ∧ xs.length * k.toNat ≤ sizeLine then .ok (.own (.lst (List.replicate k.toNat xs).flatten)) s else .bad := rfl
theorem w_neg {n : Int} : oNeg (.d (.int n)) s = .ok (.d (.int (-n))) s := rfl
theorem w_min {m n : Int} : oMin (.d (.int m)) (.d (.int n)) s = .ok (.d (.int (if n < m then n else m))) s := rfl
def isiK (t : Ty1) (s : SD) : Option D → R Vl
  | some x => match x.knd with
    | some _ => .ok (.d (.bl (isT t x))) s
    | none => .bad
  | none => .bad
theorem w_isi {t : Ty1} : oIsi t a s = isiK t s (s.cont a) := by
  unfold oIsi isiK
  rfl
theorem isiK_ok {t : Ty1} {n : String} (h : x.knd = some n) : isiK t s (some x) = .ok (.d (.bl (isT t x))) s := by
  unfold isiK
  simp only [h]
theorem isi_int {t : Ty1} {n : Int} : isiK t s (some (.int n)) = .ok (.d (.bl (isT t (.int n)))) s := rfl
theorem isi_bl {t : Ty1} {n : Bool} : isiK t s (some (.bl n)) = .ok (.d (.bl (isT t (.bl n)))) s := rfl
theorem isi_str {t : Ty1} {n : Str} : isiK t s (some (.str n)) = .ok (.d (.bl (isT t (.str n)))) s := rfl
theorem isi_non {t : Ty1} : isiK t s (some .non) = .ok (.d (.bl (isT t .non))) s := rfl
theorem isi_lst {t : Ty1} {n : List D} : isiK t s (some (.lst n)) = .ok (.d (.bl (isT t (.lst n)))) s := rfl
theorem isi_con {t : Ty1} {n : List D} : isiK t s (some (.con n)) = .ok (.d (.bl (isT t (.con n)))) s := rfl
theorem isi_tup {t : Ty1} {n : List D} : isiK t s (some (.tup n)) = .ok (.d (.bl (isT t (.tup n)))) s := rfl
theorem isi_dct {t : Ty1} {n : List (Key × D)} : isiK t s (some (.dct n)) = .ok (.d (.bl (isT t (.dct n)))) s := rfl
theorem w_isN_int {neg : Bool} {n : Int} : oIsN neg (.d (.int n)) (.d .non) s = .ok (.d (.bl neg)) s := rfl
theorem w_isN_tup {neg : Bool} {n : List D} : oIsN neg (.d (.tup n)) (.d .non) s = .ok (.d (.bl neg)) s := rfl
theorem w_isN_n {neg : Bool} : oIsN neg (.d .non) (.d .non) s = .ok (.d (.bl (!neg))) s := rfl
theorem w_isN_d {neg : Bool} (h : x ≠ .non) : oIsN neg (.d x) (.d .non) s = .ok (.d (.bl neg)) s := by
  cases x <;> first | rfl | exact absurd rfl h
noncomputable def eqK (s : SD) : Option D → Option D → R Vl
  | some x, some y => match dEq x y with
    | some r => .ok (.d (.bl r)) s
    | none => .bad
  | _, _ => .bad
theorem w_eq : oEq a b s = eqK s (s.cont a) (s.cont b) := by
  unfold oEq eqK
  rfl
theorem eqK_ok {r : Bool} (h : dEq x y = some r) : eqK s (some x) (some y) = .ok (.d (.bl r)) s := by
  unfold eqK
  simp only [h]
theorem dEq_int {i j : Int} : dEq (.int i) (.int j) = some (decide (i = j)) := by
  show some (decide (V.int i = V.int j)) = _
  congr 1
  apply decide_eq_decide.mpr
  exact ⟨fun h => by cases h; rfl, fun h => by rw [h]⟩
theorem dEq_str {i j : Str} : dEq (.str i) (.str j) = some (decide (i = j)) := by
  show some (decide (V.str i = V.str j)) = _
  congr 1
  apply decide_eq_decide.mpr
  exact ⟨fun h => by cases h; rfl, fun h => by rw [h]⟩
theorem eqK_int {i j : Int} : eqK s (some (.int i)) (some (.int j)) = .ok (.d (.bl (decide (i = j)))) s := eqK_ok dEq_int
theorem eqK_str {i j : Str} : eqK s (some (.str i)) (some (.str j)) = .ok (.d (.bl (decide (i = j)))) s := eqK_ok dEq_str
noncomputable def neK (s : SD) : Option D → Option D → R Vl
  | some (.dct ks), some (.dct []) => .ok (.d (.bl (!ks.isEmpty))) s
  | some x, some y => match dEq x y with
    | some r => .ok (.d (.bl (!r))) s
    | none => .bad
  | _, _ => .bad
theorem w_ne : oNe a b s = neK s (s.cont a) (s.cont b) := by
  unfold oNe neK
  rfl
theorem neK_nil {l : List D} : neK s (some (.lst l)) (some (.lst [])) = .ok (.d (.bl (!l.isEmpty))) s := by
  unfold neK dEq
  rfl
theorem neK_dct {l : List (Key × D)} : neK s (some (.dct l)) (some (.dct [])) = .ok (.d (.bl (!l.isEmpty))) s := rfl
theorem dEq_dct {ks ls : List (Key × D)} (h : dSame ks ls = true) : dEq (.dct ks) (.dct ls) = some true := by
  unfold dEq
  show (if dSame ks ls = true then some true else none) = _
  rw [if_pos h]
theorem neK_dd {ks ls : List (Key × D)} (h : dSame ks ls = true) : neK s (some (.dct ks)) (some (.dct ls)) = .ok (.d (.bl false)) s := by
  cases ls with
  | nil =>
    have := (dsame_len h).1
    obtain rfl : ks = [] := List.eq_nil_of_length_eq_zero (by simpa using this)
    rfl
  | cons q r =>
    unfold neK
    simp only [dEq_dct h]
    rfl
theorem eqK_nil {l : List D} : eqK s (some (.lst l)) (some (.lst [])) = .ok (.d (.bl l.isEmpty)) s := by
  unfold eqK dEq
  rfl
theorem neK_lst {l l' : List D} {r : Bool} (h : dEq (.lst l) (.lst l') = some r) : neK s (some (.lst l)) (some (.lst l')) = .ok (.d (.bl (!r))) s := by
  unfold neK
  simp only [h]
theorem neK_tup {l l' : List D} {r : Bool} (h : dEq (.tup l) (.tup l') = some r) : neK s (some (.tup l)) (some (.tup l')) = .ok (.d (.bl (!r))) s := by
  unfold neK
  simp only [h]
noncomputable def inK (neg : Bool) (s : SD) : Option D → Option D → R Vl
  | some x, some y => match dIn x y with
    | some r => .ok (.d (.bl (if neg then !r else r))) s
    | none => .bad
  | _, _ => .bad
theorem w_in {neg : Bool} : oIn neg a b s = inK neg s (s.cont a) (s.cont b) := by
  unfold oIn inK
  rfl
theorem inK_ok {neg r : Bool} (h : dIn x y = some r) : inK neg s (some x) (some y) = .ok (.d (.bl (if neg then !r else r))) s := by
  unfold inK
  simp only [h]
noncomputable def ixK (s : SD) : Option D → Option D → R Vl
  | some x, some y => match dIx x y with
    | some r => .ok (.d r) s
    | none => .bad
  | _, _ => .bad
theorem w_ix : oIx a b s = ixK s (s.cont a) (s.cont b) := by
  unfold oIx ixK
  rfl
theorem ixK_ok {r : D} (h : dIx x y = some r) : ixK s (some x) (some y) = .ok (.d r) s := by
  unfold ixK
  simp only [h]
def lenK (s : SD) : Option D → R Vl
  | some (.lst xs) => .ok (.d (.int xs.length)) s
  | some (.con xs) => .ok (.d (.int xs.length)) s
  | some (.tup xs) => .ok (.d (.int xs.length)) s
  | some (.str z) => if z.length ≤ sizeLine then .ok (.d (.int z.length)) s else .bad
  | some (.dct ks) => .ok (.d (.int ks.length)) s
  | _ => .bad
theorem w_len : oLen a s = lenK s (s.cont a) := by
  unfold oLen lenK
  rfl
theorem lenK_lst {l : List D} : lenK s (some (.lst l)) = .ok (.d (.int l.length)) s := rfl
theorem lenK_con {l : List D} : lenK s (some (.con l)) = .ok (.d (.int l.length)) s := rfl
theorem lenK_dct {l : List (Key × D)} : lenK s (some (.dct l)) = .ok (.d (.int l.length)) s := rfl
theorem lenK_str {z : Str} : lenK s (some (.str z)) = if z.length ≤ sizeLine then .ok (.d (.int z.length)) s else .bad := rfl
/-! fields -/
def fldK (cls : List Str) (f : Str) (s : SD) : Option D → R Vl
  | some (.obj c fs) => if c ∈ cls then match fval fs f with
    | some x => .ok (.d x) s
    | none => .bad
    else .bad
  | _ => .bad
theorem w_fld {cls : List Str} {f : Str} : oFld cls f a s = fldK cls f s (s.cont a) := by
  unfold oFld fldK
  rfl
theorem fldK_ok {c f : Str} {fs : List (Str × D)} (h : fval fs f = some x) : fldK [c] f s (some (.obj c fs)) = .ok (.d x) s := by
  unfold fldK
  simp only [List.mem_singleton, if_true, h]
/-! builtins -/
def dfK (f : D → R Vl) : Option D → R Vl
  | some x => f x
  | none => .bad
theorem dbls_map {α : Type} (f : α → Bool) : ∀ l : List α, dbls (l.map fun c => D.bl (f c)) = some (l.map f)
  | [] => rfl
  | a :: l => by rw [List.map_cons, dbls, dbls_map f l, List.map_cons]
theorem dints_map {α : Type} (f : α → Int) : ∀ l : List α, dints (l.map fun c => D.int (f c)) = some (l.map f)
  | [] => rfl
  | a :: l => by rw [List.map_cons, dints, dints_map f l, List.map_cons]
theorem dstrs_map {α : Type} (f : α → Str) : ∀ l : List α, dstrs (l.map fun c => D.str (f c)) = some (l.map f)
  | [] => rfl
  | a :: l => by rw [List.map_cons, dstrs, dstrs_map f l, List.map_cons]
theorem all_own {ds : List D} {bs : List Bool} (h : dbls ds = some bs) : oAll (.own (.lst ds)) s = .ok (.d (.bl (bs.all id))) s := by
  unfold oAll
  simp only [cont_own, h]
theorem sum_own {ds : List D} {bs : List Int} (h : dints ds = some bs) : oSum (.own (.lst ds)) s = .ok (.d (.int bs.sum)) s := by
  unfold oSum
  simp only [cont_own, h]
noncomputable def listK (s : SD) : Option D → R Vl
  | some (.lst xs) => .ok (.own (.lst xs)) s
  | some (.con xs) => .ok (.own (.lst xs)) s
  | some (.tup xs) => .ok (.own (.lst xs)) s
  | some (.dct ks) => .ok (.own (.lst (ks.map fun kv => dkey kv.1))) s
  | _ => .bad
theorem w_list : oList a s = listK s (s.cont a) := by
  unfold oList listK
  rfl
theorem listK_lst {l : List D} : listK s (some (.lst l)) = .ok (.own (.lst l)) s := rfl
theorem listK_con {l : List D} : listK s (some (.con l)) = .ok (.own (.lst l)) s := rfl
theorem listK_dct {l : List (Key × D)} : listK s (some (.dct l)) = .ok (.own (.lst (l.map fun kv => dkey kv.1))) s := rfl
noncomputable def dictK (s : SD) : Option D → R Vl
  | some (.dct ks) => .ok (.own (.dct ks)) s
  | some (.lst ds) => match pairs ds with
    | some ks => .ok (.own (.dct (dmerge ks))) s
    | none => .bad
  | _ => .bad
theorem w_dict : oDict a s = dictK s (s.cont a) := by
  unfold oDict dictK
  rfl
theorem dictK_dct {l : List (Key × D)} : dictK s (some (.dct l)) = .ok (.own (.dct l)) s := rfl
theorem w_int_bl {t : Bool} : oInt (.d (.bl t)) s = .ok (.d (.int (if t = true then 1 else 0))) s := by cases t <;> rfl
theorem w_int_int {n : Int} : oInt (.d (.int n)) s = .ok (.d (.int n)) s := rfl
theorem join_own {z : Str} {ds : List D} {ys : List Str} (h : dstrs ds = some ys) (hz : (ys.map (·.length)).sum + ys.length * z.length ≤ 16777216) : oJoin (.d (.str z)) (.own (.lst ds)) s = .ok (.d (.str (Txt.join z ys))) s := by
  unfold oJoin
  simp only [cont_own, cont_str, h, if_pos hz]
noncomputable def slK (s : SD) (lo hi : Option Int) : Option D → R Vl
  | some (.lst ds) => .ok (.own (.lst (cutD ds lo hi))) s
  | some (.con ds) => .ok (.own (.lst (cutD ds lo hi))) s
  | some (.str z) => if z.length ≤ sizeLine then .ok (.d (.str (cutS z lo hi))) s else .bad
  | some (.tup ds) => if ¬ (HT.sIx ds.length 0 lo = 0 ∧ HT.sIx ds.length ds.length hi = ds.length) then .ok (.d (.tup (cutD ds lo hi))) s else .bad
  | _ => .bad
theorem w_sl {lo hi : Option Int} : oSl a lo hi s = slK s lo hi (s.cont a) := by
  unfold oSl slK
  rfl
theorem slK_lst {lo hi : Option Int} {l : List D} : slK s lo hi (some (.lst l)) = .ok (.own (.lst (cutD l lo hi))) s := rfl
theorem slK_con {lo hi : Option Int} {l : List D} : slK s lo hi (some (.con l)) = .ok (.own (.lst (cutD l lo hi))) s := rfl
theorem slK_str {lo hi : Option Int} {z : Str} : slK s lo hi (some (.str z)) = if z.length ≤ sizeLine then .ok (.d (.str (cutS z lo hi))) s else .bad := rfl
noncomputable def rg1K : List D → SD → R Src := fun ds s1 => match ds with
  | [.int j] => if -(2 ^ 62) ≤ j ∧ j < 2 ^ 62 then .ok ⟨[], fun _ => True, upTo 0 j.toNat⟩ s1 else .bad
  | _ => .bad
theorem e_rg1 : zRg1 fr s = (fr s).bind rg1K := by
  unfold zRg1
  rfl
theorem x_rg1 {n : Int} : rg1K [.int n] s = if -(2 ^ 62) ≤ n ∧ n < 2 ^ 62 then .ok ⟨[], fun _ => True, upTo 0 n.toNat⟩ s else .bad := rfl
def enK : Vl → SD → R Src := fun a s1 => match s1.cont a with
  | some (.lst ds) => .ok ⟨[a], fun s => s.cont a = some (.lst ds), places ds⟩ s1
  | _ => .bad
theorem e_en : zEnum fa s = (fa s).bind enK := by
  unfold zEnum
  rfl
theorem x_en_lst {ds : List D} : enK (.d (.lst ds)) s = .ok ⟨[.d (.lst ds)], fun _ => True, places ds⟩ s := by
  unfold enK
  simp only [cont_lst]
/-! unpacking -/
def unpK (is : List Nat) (s : SD) : Option D → R Unit
  | some (.tup ds) => if ds.length = is.length then .ok () { s with sl := setAll is ds s.sl } else .bad
  | _ => .bad
theorem w_unp {is : List Nat} : zUnp is a s = unpK is s (s.cont a) := by
  unfold zUnp unpK
  rfl
theorem unpK_tup {is : List Nat} {ds : List D} (h : ds.length = is.length) : unpK is ⟨sl, S⟩ (some (.tup ds)) = .ok () ⟨setAll is ds sl, S⟩ := by
  unfold unpK
  simp only [h, if_true]
theorem unp2 {i0 i1 : Nat} {d0 d1 : D} : unpK [i0, i1] ⟨sl, S⟩ (some (.tup [d0, d1])) = .ok () ⟨setAll [i0, i1] [d0, d1] sl, S⟩ := rfl
theorem unp3 {i0 i1 i2 : Nat} {d0 d1 d2 : D} : unpK [i0, i1, i2] ⟨sl, S⟩ (some (.tup [d0, d1, d2])) = .ok () ⟨setAll [i0, i1, i2] [d0, d1, d2] sl, S⟩ := rfl
theorem unp4 {i0 i1 i2 i3 : Nat} {d0 d1 d2 d3 : D} : unpK [i0, i1, i2, i3] ⟨sl, S⟩ (some (.tup [d0, d1, d2, d3])) = .ok () ⟨setAll [i0, i1, i2, i3] [d0, d1, d2, d3] sl, S⟩ := rfl
theorem unp5 {i0 i1 i2 i3 i4 : Nat} {d0 d1 d2 d3 d4 : D} : unpK [i0, i1, i2, i3, i4] ⟨sl, S⟩ (some (.tup [d0, d1, d2, d3, d4])) = .ok () ⟨setAll [i0, i1, i2, i3, i4] [d0, d1, d2, d3, d4] sl, S⟩ := rfl
theorem setAll_cons {d : D} {is : List Nat} {ds : List D} {l : List (Option Vl)} : setAll (i :: is) (d :: ds) l = setAll is ds (l.set i (some (.d d))) := rfl
theorem setAll_nil {l : List (Option Vl)} : setAll [] [] l = l := rfl
/-! methods of lists and dicts, stores -/
def m2K (h : Vl → Vl → SD → R Vl) (chk : SD → Vl → Bool) (fb : SD → R Vl) : Vl → SD → R Vl := fun a s => if chk s a = true then (fb s).bind (h a) else .bad
theorem x_m2 {h : Vl → Vl → SD → R Vl} {chk : SD → Vl → Bool} : m2K h chk fb a s = if chk s a = true then (fb s).bind (h a) else .bad := rfl
theorem e_m2 {h : Vl → Vl → SD → R Vl} {chk : SD → Vl → Bool} : zM2 chk h fa fb s = (fa s).bind (m2K h chk fb) := rfl
def m1sK (h : Vl → Vl → SD → R Vl) (fb : SD → R Vl) : Vl → SD → R Vl := fun a s => if isS a = true then (fb s).bind (h a) else .bad
theorem x_m1s {h : Vl → Vl → SD → R Vl} {z : Str} : m1sK h fb (.d (.str z)) s = (fb s).bind (h (.d (.str z))) := rfl
theorem e_m1s {h : Vl → Vl → SD → R Vl} : zM1s h fa fb s = (fa s).bind (m1sK h fb) := rfl
def isLK : Option D → Bool
  | some (.lst _) => true
  | _ => false
theorem x_isL : isL s a = isLK (s.cont a) := by
  unfold isL isLK
  rfl
theorem isLK_lst {l : List D} : isLK (some (.lst l)) = true := rfl
def isDK : Option D → Bool
  | some (.dct _) => true
  | _ => false
theorem x_isD : isDc s a = isDK (s.cont a) := by
  unfold isDc isDK
  rfl
theorem isDK_dct {l : List (Key × D)} : isDK (some (.dct l)) = true := rfl
def rvK (r : D) : Unit → SD → R Vl := fun _ s => .ok (.d r) s
theorem x_rv {r : D} {u : Unit} : rvK r u s = .ok (.d r) s := rfl
def b2K (f : D → D → Option (D × D)) (a : Vl) (z : D) (s : SD) : Option D → R Vl
  | some c => match f c z with
    | some (y, r) => (s.mod y a).bind (rvK r)
    | none => .bad
  | none => .bad
theorem w_b2 {f : D → D → Option (D × D)} {z : D} : oB2 f a (.d z) s = b2K f a z s (s.cont a) := by
  unfold oB2 b2K
  rfl
theorem b2K_ok {f : D → D → Option (D × D)} {z c r : D} (h : f c z = some (y, r)) : b2K f a z s (some c) = (s.mod y a).bind (rvK r) := by
  unfold b2K
  simp only [h]
theorem b2_append {z : D} {ds : List D} : b2K fAppend a z s (some (.lst ds)) = if ds.length < sizeLine then (s.mod (.lst (ds ++ [z])) a).bind (rvK .non) else .bad := by
  unfold b2K fAppend
  by_cases h : ds.length < sizeLine <;> simp only [h, if_true, if_false]
theorem b2_extend {es ds : List D} : b2K fExtend a (.lst es) s (some (.lst ds)) = if ds.length + es.length ≤ sizeLine then (s.mod (.lst (ds ++ es)) a).bind (rvK .non) else .bad := by
  unfold b2K fExtend
  by_cases h : ds.length + es.length ≤ sizeLine <;> simp only [h, if_true, if_false]
def b1K (f : D → Option (D × D)) (a : Vl) (s : SD) : Option D → R Vl
  | some c => match f c with
    | some (y, r) => (s.mod y a).bind (rvK r)
    | none => .bad
  | none => .bad
theorem w_b1 {f : D → Option (D × D)} : oB1 f a s = b1K f a s (s.cont a) := by
  unfold oB1 b1K
  rfl
theorem b1_clear {ds : List D} : b1K fClear a s (some (.lst ds)) = (s.mod (.lst []) a).bind (rvK .non) := rfl
theorem mod_cell : SD.mod ⟨sl, S⟩ y (.d (.cell i)) = .ok () ⟨sl, S.put i y⟩ := rfl
def modK (s : SD) (y : D) (k : Nat) : Option (Option Vl) → R Unit
  | some (some (.own _)) => .ok () { s with sl := s.sl.set k (some (.own y)) }
  | some (some (.d (.cell i))) => .ok () { s with st := s.st.put i y }
  | _ => .bad
theorem mod_loc : s.mod y (.loc k) = modK s y k s.sl[k]? := by
  unfold SD.mod modK
  rfl
theorem modK_own : modK ⟨sl, S⟩ y k (some (some (.own x))) = .ok () ⟨sl.set k (some (.own y)), S⟩ := rfl
/-! fields, makers, dicts -/
def sfK (cls : List Str) (f : Str) (x : D) (a : Vl) (s : SD) : Option D → R Fl
  | some (.obj c fs) => if c ∈ cls ∧ fs.length < 1000 then (s.mod (.obj c (fput f x fs)) a).bind nxK else .bad
  | _ => .bad
def sf3 (cls : List Str) (f : Str) (x : D) : Vl → SD → R Fl := fun a s => sfK cls f x a s (s.cont a)
theorem x_sf3 {cls : List Str} {f : Str} : sf3 cls f x a s = sfK cls f x a s (s.cont a) := rfl
def sf2 (cls : List Str) (f : Str) (fo : SD → R Vl) : D → SD → R Fl := fun x s => (fo s).bind (sf3 cls f x)
theorem x_sf2 {cls : List Str} {f : Str} : sf2 cls f fa x s = (fa s).bind (sf3 cls f x) := rfl
def sf1 (cls : List Str) (f : Str) (fo : SD → R Vl) : Vl → SD → R Fl := fun v s => (s.fix v).bind (sf2 cls f fo)
theorem x_sf1 {cls : List Str} {f : Str} : sf1 cls f fa a s = (s.fix a).bind (sf2 cls f fa) := rfl
theorem e_sf {cls : List Str} {f : Str} {fo fv : SD → R Vl} : zSFld cls f fo fv s = (fv s).bind (sf1 cls f fo) := by
  unfold zSFld sf1 sf2 sf3 sfK
  rfl
theorem sfK_ok {c f : Str} {fs : List (Str × D)} (h : fs.length < 1000) : sfK [c] f x a s (some (.obj c fs)) = (s.mod (.obj c (fput f x fs)) a).bind nxK := by
  unfold sfK
  simp only [List.mem_singleton, h, and_self, if_true]
theorem sfn0 {c f : Str} : sfK [c] f x a s (some (.obj c [])) = (s.mod (.obj c (fput f x [])) a).bind nxK := sfK_ok (by simp)
theorem sfn1 {c f : Str} {p0 : Str × D} : sfK [c] f x a s (some (.obj c [p0])) = (s.mod (.obj c (fput f x [p0])) a).bind nxK := sfK_ok (by simp)
theorem sfn2 {c f : Str} {p0 p1 : Str × D} : sfK [c] f x a s (some (.obj c [p0, p1])) = (s.mod (.obj c (fput f x [p0, p1])) a).bind nxK := sfK_ok (by simp)
theorem sfn3 {c f : Str} {p0 p1 p2 : Str × D} : sfK [c] f x a s (some (.obj c [p0, p1, p2])) = (s.mod (.obj c (fput f x [p0, p1, p2])) a).bind nxK := sfK_ok (by simp)
theorem sfn4 {c f : Str} {p0 p1 p2 p3 : Str × D} : sfK [c] f x a s (some (.obj c [p0, p1, p2, p3])) = (s.mod (.obj c (fput f x [p0, p1, p2, p3])) a).bind nxK := sfK_ok (by simp)
theorem sfn5 {c f : Str} {p0 p1 p2 p3 p4 : Str × D} : sfK [c] f x a s (some (.obj c [p0, p1, p2, p3, p4])) = (s.mod (.obj c (fput f x [p0, p1, p2, p3, p4])) a).bind nxK := sfK_ok (by simp)
theorem sfn6 {c f : Str} {p0 p1 p2 p3 p4 p5 : Str × D} : sfK [c] f x a s (some (.obj c [p0, p1, p2, p3, p4, p5])) = (s.mod (.obj c (fput f x [p0, p1, p2, p3, p4, p5])) a).bind nxK := sfK_ok (by simp)
theorem sfn7 {c f : Str} {p0 p1 p2 p3 p4 p5 p6 : Str × D} : sfK [c] f x a s (some (.obj c [p0, p1, p2, p3, p4, p5, p6])) = (s.mod (.obj c (fput f x [p0, p1, p2, p3, p4, p5, p6])) a).bind nxK := sfK_ok (by simp)
theorem sfn8 {c f : Str} {p0 p1 p2 p3 p4 p5 p6 p7 : Str × D} : sfK [c] f x a s (some (.obj c [p0, p1, p2, p3, p4, p5, p6, p7])) = (s.mod (.obj c (fput f x [p0, p1, p2, p3, p4, p5, p6, p7])) a).bind nxK := sfK_ok (by simp)
def mkR (i : Nat) (s : SD) : R Vl → R Vl
  | .ok (.d .non) s' => .ok (.d (.cell i)) { s with st := s'.st }
  | .ex c fs s' => .ex c fs { s with st := s'.st }
  | _ => .bad
def mkK (c : Str) (F : FnV) (dds : List D) : List D → SD → R Vl := fun ds s1 => mkR s1.st.nx s1 (F (.cell s1.st.nx :: (ds ++ dds)) (s1.st.new (.obj c [])))
theorem x_mk {c : Str} {F : FnV} {dds ds : List D} : mkK c F dds ds s = mkR s.st.nx s (F (.cell s.st.nx :: (ds ++ dds)) (s.st.new (.obj c []))) := rfl
theorem e_mk {c : Str} {F : FnV} {dds : List D} : zMake c F dds fr s = (fr s).bind (mkK c F dds) := by
  unfold zMake mkK mkR
  rfl
theorem mkR_ok {F : FnV} {ds : List D} {S' S'' : Sto} (h : ∀ s : SD, goF F ds ⟨s.sl, S'⟩ = .ok (.d .non) ⟨s.sl, S''⟩) : mkR i ⟨sl, S⟩ (F ds S') = .ok (.d (.cell i)) ⟨sl, S''⟩ := by
  have h := h ⟨sl, S⟩
  unfold goF at h
  cases e : F ds S' with
  | bad => rw [show (⟨sl, S'⟩ : SD).st = S' from rfl, e] at h; cases h
  | ex c fs s' => rw [show (⟨sl, S'⟩ : SD).st = S' from rfl, e] at h; cases h
  | ok a s' =>
    rw [show (⟨sl, S'⟩ : SD).st = S' from rfl, e] at h
    simp only [R.ok.injEq, SD.mk.injEq, true_and] at h
    obtain ⟨rfl, rfl⟩ := h
    rfl
noncomputable def stK' (f : D → D → Option D) (o : Vl) (z : D) (s : SD) : Option D → R Unit
  | some c => match f c z with
    | some y => s.mod y o
    | none => .bad
  | none => .bad
theorem x_sto {f : D → D → Option D} {z : D} : stO f a (.d z) s = stK' f a z s (s.cont a) := by
  unfold stO stK'
  rfl
theorem sto_put {k : Key} {z : D} {ks : List (Key × D)} (h : z.key = some k) (hl : ks.length < sizeLine) : stK' (fDput x) a z s (some (.dct ks)) = s.mod (.dct (dput ks k x)) a := by
  unfold stK' fDput
  simp only [h, hl, if_true]
noncomputable def dp4 (x : D) (o : Vl) : Vl → SD → R Unit := fun i s => stO (fDput x) o i s
theorem x_dp4 : dp4 x a b s = stO (fDput x) a b s := rfl
noncomputable def dp3 (fi : SD → R Vl) (x : D) : Vl → SD → R Unit := fun o s => (fi s).bind (dp4 x o)
theorem x_dp3 : dp3 fa x a s = (fa s).bind (dp4 x a) := rfl
noncomputable def dp2 (fo fi : SD → R Vl) : D → SD → R Fl := fun x s => ((fo s).bind (dp3 fi x)).bind nxK
theorem x_dp2 : dp2 fa fb x s = ((fa s).bind (dp3 fb x)).bind nxK := rfl
noncomputable def dp1 (fo fi : SD → R Vl) : Vl → SD → R Fl := fun v s => (s.fix v).bind (dp2 fo fi)
theorem x_dp1 : dp1 fa fb a s = (s.fix a).bind (dp2 fa fb) := rfl
theorem e_dp : zDput fa fb fc s = (fc s).bind (dp1 fa fb) := by
  unfold zDput dp1 dp2 dp3 dp4
  rfl
theorem b2_dpop {k : Key} {z t : D} {ks : List (Key × D)} (h : z.key = some k) (h2 : dval ks k = some t) : b2K fDpop a z s (some (.dct ks)) = (s.mod (.dct (ddrop ks k)) a).bind (rvK t) := by
  unfold b2K fDpop
  simp only [h, h2]
theorem w_dict_cell {ks : List (Key × D)} (h : s.cont a = some (.dct ks)) : oDict a s = .ok (.own (.dct ks)) s := by
  unfold oDict
  simp only [h]
theorem w_sorted {is : List Int} {ks : List (Key × D)} (h : s.cont a = some (.dct ks)) (e : ikeys ks = some is) (hl : is.length < 64) : oSorted a s = .ok (.own (.lst ((srt is).map D.int))) s := by
  unfold oSorted
  simp only [h, e, hl, if_true]
theorem w_sortedL {is : List Int} {ks : List D} (h : s.cont a = some (.lst ks)) (e : dints ks = some is) : oSorted a s = .ok (.own (.lst ((srt is).map D.int))) s := by
  unfold oSorted
  simp only [h, e]
/-! loops -/
noncomputable def forK (fz : Vl → SD → R Unit) (fb : SD → R Fl) : Src → SD → R Fl := fun src s1 => if Nl src.hs then zLoop src.ok (fun d s => (fz (.d d) s).bind fun _ s2 => fb s2) src.ds s1 else .bad
theorem e_for {fi : SD → R Src} {fz : Vl → SD → R Unit} {fb : SD → R Fl} : zFor fi fz fb s = (fi s).bind (forK fz fb) := rfl
def turnK (fb : SD → R Fl) : Unit → SD → R Fl := fun _ s => fb s
theorem x_turn {u : Unit} : turnK f u s = f s := rfl
theorem loop_w {ok : SD → Prop} {body : D → SD → R Fl} {Q : Fl → SD → Prop} {E : XQ} {I : Nat → SD → Prop} (hok : ∀ i s, I i s → ok s) : ∀ {ds : List D} {i : Nat} {s : SD}, I i s →
    (∀ j d s, ds[j]? = some d → I (i + j) s → Wp (body d s) (fun fl s' => match fl with | .nx => I (i + j + 1) s' | .ct => I (i + j + 1) s' | .bk => Q .nx s' | .rt a => Q (.rt a) s') E) →
    (∀ s, I (i + ds.length) s → Q .nx s) → Wp (zLoop ok body ds s) Q E
  | [], i, s, h, _, last => by
    unfold zLoop
    rw [if_pos (hok _ _ h)]
    exact last s h
  | d :: ds, i, s, h, step, last => by
    unfold zLoop
    rw [if_pos (hok _ _ h), Wp_bind]
    have h1 := step 0 d s rfl h
    refine h1.mono (fun fl s' hh => ?_) fun _ _ _ h => h
    have go : I (i + 1) s' → Wp (zLoop ok body ds s') Q E := fun hI => loop_w hok hI (fun j d s e hj => by
      have := step (j + 1) d s e (by rw [show i + (j + 1) = i + 1 + j by omega]; exact hj)
      rw [show i + (j + 1) + 1 = i + 1 + j + 1 by omega] at this
      exact this) fun s hs => last s (by rw [List.length_cons, show i + (ds.length + 1) = i + 1 + ds.length by omega]; exact hs)
    cases fl with
    | nx => exact go hh
    | ct => exact go hh
    | bk => exact hh
    | rt a => exact hh
theorem for_w {src : Src} {fz : Vl → SD → R Unit} {fb : SD → R Fl} {Q : Fl → SD → Prop} {E : XQ} (I : Nat → SD → Prop) (hN : Nl src.hs) (hok : ∀ i s, I i s → src.ok s) (h : I 0 s)
    (step : ∀ j d s, src.ds[j]? = some d → I j s → Wp ((fz (.d d) s).bind (turnK fb)) (fun fl s' => match fl with | .nx => I (j + 1) s' | .ct => I (j + 1) s' | .bk => Q .nx s' | .rt a => Q (.rt a) s') E)
    (last : ∀ s, I src.ds.length s → Q .nx s) : Wp (forK fz fb src s) Q E := by
  unfold forK
  rw [if_pos hN]
  exact loop_w (I := I) (i := 0) hok h (fun j d s e hj => by simp only [Nat.zero_add] at hj ⊢; exact step j d s e hj) fun s hs => last s (by simpa using hs)
/-! zip -/
noncomputable def zip2K (a : Vl) : Vl → SD → R Src := fun b s2 => match s2.cont a, s2.cont b with
  | some (.lst xs), some (.lst ys) => .ok ⟨[a, b], fun s => s.cont a = some (.lst xs) ∧ s.cont b = some (.lst ys), zips xs ys⟩ s2
  | _, _ => .bad
noncomputable def zip1K (fb : SD → R Vl) : Vl → SD → R Src := fun a s1 => (zFix fb s1).bind (zip2K a)
theorem x_zip1 : zip1K fb a s = (zFix fb s).bind (zip2K a) := rfl
theorem e_zip : zZip fa fb s = (zFix fa s).bind (zip1K fb) := by
  unfold zZip zip1K zip2K
  rfl
theorem zip2_ok {xs ys : List D} (h1 : s.cont a = some (.lst xs)) (h2 : s.cont b = some (.lst ys)) : zip2K a b s = .ok ⟨[a, b], fun s => s.cont a = some (.lst xs) ∧ s.cont b = some (.lst ys), zips xs ys⟩ s := by
  unfold zip2K
  simp only [h1, h2]
/-! stores -/
def _root_.Z.Sto.tick (S : Sto) : Sto := { nx := S.nx + 1, get := fun j => if j = S.nx then none else S.get j }
theorem put_put {S : Sto} : (S.put i x).put i y = S.put i y := by
  unfold Sto.put
  congr 1
  funext j
  show (if j = i then _ else if j = i then _ else _) = _
  by_cases h : j = i <;> simp [h]
theorem new_put {S : Sto} : (S.new x).put S.nx y = S.new y := by
  unfold Sto.put Sto.new
  congr 1
  funext j
  show (if j = S.nx then _ else if j = S.nx then _ else _) = _
  by_cases h : j = S.nx <;> simp [h]
theorem new_get {S : Sto} : (S.new x).get S.nx = some x := if_pos rfl
theorem new_ne {S : Sto} (h : i ≠ S.nx) : (S.new x).get i = S.get i := if_neg h
theorem new_del {S : Sto} : (S.new x).del S.nx = S.tick := by
  unfold Sto.del Sto.new Sto.tick
  congr 1
  funext j
  show (if j = S.nx then _ else if j = S.nx then _ else _) = _
  by_cases h : j = S.nx <;> simp [h]
theorem tick_ne {S : Sto} (h : i ≠ S.nx) : S.tick.get i = S.get i := if_neg h
theorem frz_new {S : Sto} : SD.frz ⟨sl, S.new x⟩ (.d (.cell S.nx)) = .ok x ⟨sl, S.tick⟩ := by
  rw [frz_cell new_get, new_del]
theorem tick_nx {S : Sto} : S.tick.nx = S.nx + 1 := rfl
theorem put_nx {S : Sto} : (S.put i x).nx = S.nx := rfl
theorem new_nx {S : Sto} : (S.new x).nx = S.nx + 1 := rfl
/-! comprehensions that change nothing -/
abbrev XF : XQ := fun _ _ _ => False
/-- one turn -/
def Turn (fz : Vl → SD → R Unit) (ft : SD → R Bool) (fe : SD → R Vl) (is : List Nat) (s0 : SD) (p : D → Bool) (f : D → D) (d : D) : Prop :=
  Wp (fz (.d d) s0) (fun _ s1 => Wp (ft s1) (fun b s2 => b = p d ∧ (b = true → Wp (fe s2) (fun a s3 => Wp (s3.fix a) (fun y s4 => y = f d ∧ s4.wipe is = s0) XF) XF) ∧ (b = false → s2.wipe is = s0)) XF) XF
theorem Wp.is {α : Type} {m : R α} {Q : α → SD → Prop} (h : Wp m Q XF) : ∃ a s, m = .ok a s ∧ Q a s := by
  cases m with
  | ok a s => exact ⟨a, s, rfl, h⟩
  | ex c fs s => exact h.elim
  | bad => exact h.elim
theorem lcL_pure {ok : SD → Prop} {fz : Vl → SD → R Unit} {ft : SD → R Bool} {fe : SD → R Vl} {is : List Nat} {s0 : SD} {p : D → Bool} {f : D → D} (h0 : ok s0) : ∀ {ds acc : List D}, (∀ d ∈ ds, Turn fz ft fe is s0 p f d) → acc.length + ds.length ≤ sizeLine →
    zLcL ok fz ft fe is ds acc s0 = .ok (acc ++ (ds.filter p).map f) s0
  | [], acc, _, _ => by
    unfold zLcL
    rw [if_pos h0]
    simp
  | d :: ds, acc, h, hl => by
    unfold zLcL
    rw [if_pos h0]
    have h1 := h d (List.mem_cons_self ..)
    unfold Turn at h1
    obtain ⟨_, s1, e1, h1⟩ := h1.is
    obtain ⟨b, s2, e2, hb, h2, h3⟩ := h1.is
    rw [List.length_cons] at hl
    have ih := fun acc hl => lcL_pure (acc := acc) h0 (fun d hd => h d (List.mem_cons_of_mem _ hd)) hl
    rw [e1]
    show R.bind (R.nx (ft s1)) _ = _
    rw [e2]
    cases b with
    | true =>
      obtain ⟨a, s3, e3, h4⟩ := (h2 rfl).is
      obtain ⟨y, s4, e4, hy, h5⟩ := h4.is
      show R.bind (R.nx (fe s2)) _ = _
      rw [e3]
      show R.bind (s3.fix a) _ = _
      rw [e4]
      show (if acc.length < sizeLine then zLcL ok fz ft fe is ds (acc ++ [y]) (s4.wipe is) else .bad) = _
      rw [if_pos (by omega), h5, ih _ (by simp; omega), List.filter_cons_of_pos (by rw [← hb]), hy]
      simp
    | false =>
      show zLcL ok fz ft fe is ds acc (s2.wipe is) = _
      rw [h3 rfl, ih _ (by omega), List.filter_cons_of_neg (by rw [← hb]; decide)]
noncomputable def lcK (fz : Vl → SD → R Unit) (ft : SD → R Bool) (fe : SD → R Vl) (is : List Nat) : Src → SD → R Vl := fun src s1 => if Nl src.hs then (zLcL src.ok fz ft fe is src.ds [] (s1.wipe is)).nx.bind fun acc s2 => .ok (.own (.lst acc)) s2 else .bad
theorem e_lc {fi : SD → R Src} {fz : Vl → SD → R Unit} {ft : SD → R Bool} {is : List Nat} : zLc fi fz ft fa is s = (fi s).bind (lcK fz ft fa is) := rfl
theorem Nl.d1 {x : D} : Nl [.d x] := fun e he j => by rw [List.mem_singleton.mp he]; exact fun h => nomatch h
theorem lc_pure {src : Src} {fz : Vl → SD → R Unit} {ft : SD → R Bool} {fe : SD → R Vl} {is : List Nat} {s1 s0 : SD} (p : D → Bool) (f : D → D) (e0 : s1.wipe is = s0) (hN : Nl src.hs) (h0 : src.ok s0) (h : ∀ d ∈ src.ds, Turn fz ft fe is s0 p f d) (hl : src.ds.length ≤ sizeLine) :
    lcK fz ft fe is src s1 = .ok (.own (.lst ((src.ds.filter p).map f))) s0 := by
  unfold lcK
  rw [if_pos hN, e0, lcL_pure h0 h (by simpa using hl)]
  rfl
theorem lc_map {src : Src} {fz : Vl → SD → R Unit} {fe : SD → R Vl} {is : List Nat} {s1 s0 : SD} (f : D → D) (e0 : s1.wipe is = s0) (hN : Nl src.hs) (h0 : src.ok s0) (h : ∀ d ∈ src.ds, Turn fz zYes fe is s0 (fun _ => true) f d) (hl : src.ds.length ≤ sizeLine) :
    lcK fz zYes fe is src s1 = .ok (.own (.lst (src.ds.map f))) s0 := by
  rw [lc_pure (fun _ => true) f e0 hN h0 h hl, List.filter_eq_self.mpr fun _ _ => rfl]
theorem e_yes : zYes s = .ok true s := rfl
/-! what is walked -/
def itLK : Vl → SD → R Src := fun a s1 => match s1.cont a with
  | some (.lst ds) => .ok ⟨[a], fun s => s.cont a = some (.lst ds), ds⟩ s1
  | some (.con ds) => .ok ⟨[a], fun s => s.cont a = some (.con ds), ds⟩ s1
  | _ => .bad
theorem e_itL : zItL fa s = (fa s).bind itLK := by
  unfold zItL
  rfl
theorem x_itL_lst {ds : List D} : itLK (.d (.lst ds)) s = .ok ⟨[.d (.lst ds)], fun _ => True, ds⟩ s := by
  unfold itLK
  simp only [cont_lst]
theorem x_itL_con {ds : List D} : itLK (.d (.con ds)) s = .ok ⟨[.d (.con ds)], fun _ => True, ds⟩ s := by
  unfold itLK
  simp only [cont_con]
theorem itL_cell {ds : List D} (h : s.st.get i = some (.lst ds)) : itLK (.d (.cell i)) s = .ok ⟨[.d (.cell i)], fun s => s.st.get i = some (.lst ds), ds⟩ s := by
  unfold itLK
  simp only [cont_cell, h]
def itSK : Vl → SD → R Src := fun a s1 => match a with
  | .d (.str z) => .ok ⟨[a], fun _ => True, signs z⟩ s1
  | _ => .bad
theorem e_itS : zItS fa s = (fa s).bind itSK := by
  unfold zItS
  rfl
theorem x_itS {z : Str} : itSK (.d (.str z)) s = .ok ⟨[.d (.str z)], fun _ => True, signs z⟩ s := rfl
theorem wipe_mk {is : List Nat} : SD.wipe ⟨sl, S⟩ is = ⟨zwipe sl is, S⟩ := rfl
theorem zwipe_nil {l : List (Option Vl)} : zwipe l [] = l := rfl
theorem zwipe_cons {l : List (Option Vl)} {v : Nat} {vs : List Nat} : zwipe l (v :: vs) = (zwipe l vs).set v none := rfl
/-! calls -/
def flv : Fl → Option Vl
  | .nx => some (.d .non)
  | .rt (.d x) => some (.d x)
  | .rt (.own x) => some (.own x)
  | _ => none
theorem zFn_ok {n : Nat} {b : SD → R Fl} {ds : List D} {fl : Fl} {s' : SD} {a : Vl} (h : b ⟨starts n ds, S⟩ = .ok fl s') (e : flv fl = some a) : zFn n b ds S = .ok a s' := by
  unfold zFn
  rw [h]
  cases fl with
  | nx => cases e; rfl
  | bk => cases e
  | ct => cases e
  | rt r => cases r <;> cases e <;> rfl
/-- a call that changes nothing -/
theorem go_p {n : Nat} {b : SD → R Fl} {ds : List D} {r : Vl} (h : Wp (b ⟨starts n ds, s.st⟩) (fun fl s' => flv fl = some r ∧ s'.st = s.st) (fun _ _ _ => False)) : goF (zFn n b) ds s = .ok r s := by
  cases e : b ⟨starts n ds, s.st⟩ with
  | bad => rw [e] at h; exact h.elim
  | ex c fs s' => rw [e] at h; exact h.elim
  | ok fl s' =>
    rw [e] at h
    obtain ⟨h1, h2⟩ := h
    unfold goF
    rw [zFn_ok e h1]
    show R.ok r { s with st := s'.st } = _
    rw [h2]
theorem go_e {n : Nat} {b : SD → R Fl} {ds : List D} {r : Vl} {S' : Sto} (h : Wp (b ⟨starts n ds, S⟩) (fun fl s' => flv fl = some r ∧ s'.st = S') (fun _ _ _ => False)) : goF (zFn n b) ds ⟨sl, S⟩ = .ok r ⟨sl, S'⟩ := by
  cases e : b ⟨starts n ds, S⟩ with
  | bad => rw [e] at h; exact h.elim
  | ex c fs s' => rw [e] at h; exact h.elim
  | ok fl s' =>
    rw [e] at h
    obtain ⟨h1, h2⟩ := h
    unfold goF
    show (match zFn n b ds S with | .ok a s' => R.ok a { (⟨sl, S⟩ : SD) with st := s'.st } | .ex c fs s' => .ex c fs { (⟨sl, S⟩ : SD) with st := s'.st } | .bad => .bad) = _
    rw [zFn_ok e h1]
    show R.ok r (⟨sl, s'.st⟩ : SD) = _
    rw [h2]
/-- a call that changes the store -/
theorem go_w {n : Nat} {b : SD → R Fl} {ds : List D} {Q : Vl → SD → Prop} {E : XQ} (h : Wp (b ⟨starts n ds, s.st⟩) (fun fl s' => ∃ r, flv fl = some r ∧ Q r ⟨s.sl, s'.st⟩) (fun _ _ _ => False)) : Wp (goF (zFn n b) ds s) Q E := by
  cases e : b ⟨starts n ds, s.st⟩ with
  | bad => rw [e] at h; exact h.elim
  | ex c fs s' => rw [e] at h; exact h.elim
  | ok fl s' =>
    rw [e] at h
    obtain ⟨r, h1, h2⟩ := h
    unfold goF
    rw [zFn_ok e h1]
    exact h2
end
end Z

set_option maxHeartbeats 4000000
namespace T
open PySem PySem.Spec PyProof.Rows L2 M Z
open Classical
def top (i : Nat) : Stmt := PySem.Challenge.pw_flowhall_k02_nets_by_deeds.main.body.getD i (.Pass ⟨0, 0, 0, 0⟩)
abbrev s_Ldraw : Stmt := top 27
abbrev N_Ldraw : List Str := ["_law_cell", "_law_k", "_law_j", "_law_more"]
theorem sc_Ldraw : FnScope N_Ldraw ["_law_cell", "_law_k", "_law_j"] (L2.defScope s_Ldraw) := ⟨rfl, rfl, rfl, by decide +kernel, rfl, by decide +kernel, by decide +kernel⟩
abbrev s_Lpool : Stmt := top 29
abbrev N_Lpool : List Str := ["_law_cell", "_law_letters", "_law_n", "_law_base", "_law_frame", "_law_at", "_law_found", "_law_j", "_law_name"]
theorem sc_Lpool : FnScope N_Lpool ["_law_cell"] (L2.defScope s_Lpool) := ⟨rfl, rfl, rfl, by decide +kernel, rfl, by decide +kernel, by decide +kernel⟩
abbrev s_Net_init : Stmt := inClass (top 25) 0
abbrev N_Net_init : List Str := ["self"]
theorem sc_Net_init : FnScope N_Net_init ["self"] (L2.defScope s_Net_init) := ⟨rfl, rfl, rfl, by decide +kernel, rfl, by decide +kernel, by decide +kernel⟩
abbrev s_Lwhole : Stmt := top 30
abbrev N_Lwhole : List Str := ["_law_thing", "_law_due"]
theorem sc_Lwhole : FnScope N_Lwhole ["_law_thing", "_law_due"] (L2.defScope s_Lwhole) := ⟨rfl, rfl, rfl, by decide +kernel, rfl, by decide +kernel, by decide +kernel⟩
abbrev s_Net_ties : Stmt := inClass (top 25) 2
abbrev N_Net_ties : List Str := ["self", "number"]
theorem sc_Net_ties : FnScope N_Net_ties ["self"] (L2.defScope s_Net_ties) := ⟨rfl, rfl, rfl, by decide +kernel, rfl, by decide +kernel, by decide +kernel⟩
abbrev s_Lrow : Stmt := top 31
abbrev N_Lrow : List Str := ["_law_tie", "_law_row_here", "_law_numbers", "_law_one"]
theorem sc_Lrow : FnScope N_Lrow ["_law_tie"] (L2.defScope s_Lrow) := ⟨rfl, rfl, rfl, by decide +kernel, rfl, by decide +kernel, by decide +kernel⟩
abbrev s_Net_places : Stmt := inClass (top 25) 1
abbrev N_Net_places : List Str := ["self"]
theorem sc_Net_places : FnScope N_Net_places ["self"] (L2.defScope s_Net_places) := ⟨rfl, rfl, rfl, by decide +kernel, rfl, by decide +kernel, by decide +kernel⟩
abbrev s_Lrows : Stmt := top 35
abbrev N_Lrows : List Str := ["_law_model", "_law_number"]
theorem sc_Lrows : FnScope N_Lrows ["_law_model"] (L2.defScope s_Lrows) := ⟨rfl, rfl, rfl, by decide +kernel, rfl, by decide +kernel, by decide +kernel⟩
abbrev s_Net_given : Stmt := inClass (top 25) 3
abbrev N_Net_given : List Str := ["self"]
theorem sc_Net_given : FnScope N_Net_given ["self"] (L2.defScope s_Net_given) := ⟨rfl, rfl, rfl, by decide +kernel, rfl, by decide +kernel, by decide +kernel⟩
abbrev s_Lstands : Stmt := top 37
abbrev N_Lstands : List Str := ["_law_net", "_law_model", "_law_found", "_law_tie"]
theorem sc_Lstands : FnScope N_Lstands ["_law_net", "_law_model"] (L2.defScope s_Lstands) := ⟨rfl, rfl, rfl, by decide +kernel, rfl, by decide +kernel, by decide +kernel⟩
abbrev s_Net_copied : Stmt := inClass (top 25) 12
abbrev N_Net_copied : List Str := ["self", "other"]
theorem sc_Net_copied : FnScope N_Net_copied ["self"] (L2.defScope s_Net_copied) := ⟨rfl, rfl, rfl, by decide +kernel, rfl, by decide +kernel, by decide +kernel⟩
abbrev s_are_signs : Stmt := top 16
abbrev N_are_signs : List Str := ["text", "signs", "sign"]
theorem sc_are_signs : FnScope N_are_signs ["text", "signs"] (L2.defScope s_are_signs) := ⟨rfl, rfl, rfl, by decide +kernel, rfl, by decide +kernel, by decide +kernel⟩
abbrev s_is_name : Stmt := top 17
abbrev N_is_name : List Str := ["thing"]
theorem sc_is_name : FnScope N_is_name ["thing"] (L2.defScope s_is_name) := ⟨rfl, rfl, rfl, by decide +kernel, rfl, by decide +kernel, by decide +kernel⟩
abbrev s_Net_put_place : Stmt := inClass (top 25) 4
abbrev N_Net_put_place : List Str := ["self", "name"]
theorem sc_Net_put_place : FnScope N_Net_put_place ["self", "name"] (L2.defScope s_Net_put_place) := ⟨rfl, rfl, rfl, by decide +kernel, rfl, by decide +kernel, by decide +kernel⟩
abbrev s_Lamount : Stmt := top 28
abbrev N_Lamount : List Str := ["_law_cell", "_law_k", "_law_j", "_law_n", "_law_some"]
theorem sc_Lamount : FnScope N_Lamount ["_law_cell", "_law_k", "_law_j"] (L2.defScope s_Lamount) := ⟨rfl, rfl, rfl, by decide +kernel, rfl, by decide +kernel, by decide +kernel⟩
abbrev s_Net_need_place : Stmt := inClass (top 25) 5
abbrev N_Net_need_place : List Str := ["self", "name"]
theorem sc_Net_need_place : FnScope N_Net_need_place ["self", "name"] (L2.defScope s_Net_need_place) := ⟨rfl, rfl, rfl, by decide +kernel, rfl, by decide +kernel, by decide +kernel⟩
abbrev s_is_whole : Stmt := top 14
abbrev N_is_whole : List Str := ["thing"]
theorem sc_is_whole : FnScope N_is_whole ["thing"] (L2.defScope s_is_whole) := ⟨rfl, rfl, rfl, by decide +kernel, rfl, by decide +kernel, by decide +kernel⟩
abbrev s_is_among : Stmt := top 15
abbrev N_is_among : List Str := ["thing", "least", "most"]
theorem sc_is_among : FnScope N_is_among ["thing", "least", "most"] (L2.defScope s_is_among) := ⟨rfl, rfl, rfl, by decide +kernel, rfl, by decide +kernel, by decide +kernel⟩
abbrev s_need_room : Stmt := top 22
abbrev N_need_room : List Str := ["least", "most"]
theorem sc_need_room : FnScope N_need_room ["least", "most"] (L2.defScope s_need_room) := ⟨rfl, rfl, rfl, by decide +kernel, rfl, by decide +kernel, by decide +kernel⟩
abbrev s_need_price : Stmt := top 23
abbrev N_need_price : List Str := ["price"]
theorem sc_need_price : FnScope N_need_price ["price"] (L2.defScope s_need_price) := ⟨rfl, rfl, rfl, by decide +kernel, rfl, by decide +kernel, by decide +kernel⟩
abbrev s_Tie_init : Stmt := inClass (top 24) 0
abbrev N_Tie_init : List Str := ["self", "number", "tail", "head", "least", "most", "price"]
theorem sc_Tie_init : FnScope N_Tie_init ["self", "number", "tail", "head", "least", "most", "price"] (L2.defScope s_Tie_init) := ⟨rfl, rfl, rfl, by decide +kernel, rfl, by decide +kernel, by decide +kernel⟩
abbrev s_Net_put_numbered : Stmt := inClass (top 25) 7
abbrev N_Net_put_numbered : List Str := ["self", "number", "tail", "head", "least", "most", "price"]
theorem sc_Net_put_numbered : FnScope N_Net_put_numbered ["self", "number", "tail", "head", "least", "most", "price"] (L2.defScope s_Net_put_numbered) := ⟨rfl, rfl, rfl, by decide +kernel, rfl, by decide +kernel, by decide +kernel⟩
abbrev s_Net_put_tie : Stmt := inClass (top 25) 6
abbrev N_Net_put_tie : List Str := ["self", "tail", "head", "least", "most", "price"]
theorem sc_Net_put_tie : FnScope N_Net_put_tie ["self", "tail", "head", "least", "most", "price"] (L2.defScope s_Net_put_tie) := ⟨rfl, rfl, rfl, by decide +kernel, rfl, by decide +kernel, by decide +kernel⟩
abbrev s_Lput_tie : Stmt := top 32
abbrev N_Lput_tie : List Str := ["_law_net", "_law_model", "_law_cell", "_law_k", "_law_names", "_law_n", "_law_tail", "_law_head", "_law_least", "_law_most", "_law_price", "_law_found"]
theorem sc_Lput_tie : FnScope N_Lput_tie ["_law_net", "_law_model", "_law_cell", "_law_k"] (L2.defScope s_Lput_tie) := ⟨rfl, rfl, rfl, by decide +kernel, rfl, by decide +kernel, by decide +kernel⟩
abbrev s_Net_tie_of : Stmt := inClass (top 25) 8
abbrev N_Net_tie_of : List Str := ["self", "number"]
theorem sc_Net_tie_of : FnScope N_Net_tie_of ["self", "number"] (L2.defScope s_Net_tie_of) := ⟨rfl, rfl, rfl, by decide +kernel, rfl, by decide +kernel, by decide +kernel⟩
abbrev s_Net_drop_tie : Stmt := inClass (top 25) 9
abbrev N_Net_drop_tie : List Str := ["self", "number"]
theorem sc_Net_drop_tie : FnScope N_Net_drop_tie ["self", "number"] (L2.defScope s_Net_drop_tie) := ⟨rfl, rfl, rfl, by decide +kernel, rfl, by decide +kernel, by decide +kernel⟩
abbrev s_Net_set_room : Stmt := inClass (top 25) 10
abbrev N_Net_set_room : List Str := ["self", "number", "least", "most", "tie"]
theorem sc_Net_set_room : FnScope N_Net_set_room ["self", "number", "least", "most"] (L2.defScope s_Net_set_room) := ⟨rfl, rfl, rfl, by decide +kernel, rfl, by decide +kernel, by decide +kernel⟩
abbrev s_Net_set_price : Stmt := inClass (top 25) 11
abbrev N_Net_set_price : List Str := ["self", "number", "price", "tie"]
theorem sc_Net_set_price : FnScope N_Net_set_price ["self", "number", "price"] (L2.defScope s_Net_set_price) := ⟨rfl, rfl, rfl, by decide +kernel, rfl, by decide +kernel, by decide +kernel⟩
abbrev s_Lchanged : Stmt := top 33
abbrev N_Lchanged : List Str := ["_law_net", "_law_model", "_law_cell", "_law_k", "_law_way", "_law_n", "_law_number", "_law_tail", "_law_head", "_law_least", "_law_most", "_law_price"]
theorem sc_Lchanged : FnScope N_Lchanged ["_law_net", "_law_model", "_law_cell", "_law_k", "_law_way"] (L2.defScope s_Lchanged) := ⟨rfl, rfl, rfl, by decide +kernel, rfl, by decide +kernel, by decide +kernel⟩
abbrev s_Ldeed : Stmt := top 34
abbrev N_Ldeed : List Str := ["_law_net", "_law_model", "_law_pool_here", "_law_cell", "_law_k", "_law_way", "_law_free", "_law_name"]
theorem sc_Ldeed : FnScope N_Ldeed ["_law_net", "_law_model", "_law_pool_here", "_law_cell", "_law_k"] (L2.defScope s_Ldeed) := ⟨rfl, rfl, rfl, by decide +kernel, rfl, by decide +kernel, by decide +kernel⟩
abbrev s_Lasked : Stmt := top 36
abbrev N_Lasked : List Str := ["_law_net", "_law_model", "_law_n", "_law_held", "_law_rows_here", "_law_turn", "_law_way", "_law_found", "_law_row_here", "_law_tie"]
theorem sc_Lasked : FnScope N_Lasked ["_law_net", "_law_model", "_law_n", "_law_held"] (L2.defScope s_Lasked) := ⟨rfl, rfl, rfl, by decide +kernel, rfl, by decide +kernel, by decide +kernel⟩
abbrev s_law : Stmt := top 38
abbrev N_law : List Str := ["_law_script", "_law_cells", "_law_pool_here", "_law_net", "_law_model", "_law_past", "_law_held", "_law_k", "_law_cell", "_law_other", "_law_pair"]
theorem sc_law : FnScope N_law ["_law_script"] (L2.defScope s_law) := ⟨rfl, rfl, rfl, by decide +kernel, rfl, by decide +kernel, by decide +kernel⟩
/-! what the module's names hold -/
structure Txt (K : PySem.W.Frag) (mg : Str → Option Value) (CTie CNet : Addr) : Prop where
  z_all : mg "all" = none
  z_bool : mg "bool" = none
  z_dict : mg "dict" = none
  z_enumerate : mg "enumerate" = none
  z_int : mg "int" = none
  z_isinstance : mg "isinstance" = none
  z_len : mg "len" = none
  z_list : mg "list" = none
  z_min : mg "min" = none
  z_range : mg "range" = none
  z_sorted : mg "sorted" = none
  z_str : mg "str" = none
  z_sum : mg "sum" = none
  z_zip : mg "zip" = none
  g_LETTERS : ∃ u, mg "LETTERS" = some u ∧ RelV (.str "abcdefghijklmnopqrstuvwxyz") u
  g_MOST_LETTERS : ∃ u, mg "MOST_LETTERS" = some u ∧ RelV (.int 12) u
  g_MOST : ∃ u, mg "MOST" = some u ∧ RelV (.int 1000000000000000000000000000000000000000000000000000000000000) u
  g_MOST_PLACES : ∃ u, mg "MOST_PLACES" = some u ∧ RelV (.int 14) u
  g_MOST_TIES : ∃ u, mg "MOST_TIES" = some u ∧ RelV (.int 40) u
  m_Tie : mg "Tie" = some (.ref CTie)
  m_Net : mg "Net" = some (.ref CNet)
  c_Tie : Cls K CTie
  c_Net : Cls K CNet
  n_head_Tie : NoAttr K CTie "head"
  n_last_given_Net : NoAttr K CNet "last_given"
  n_least_Tie : NoAttr K CTie "least"
  n_most_Tie : NoAttr K CTie "most"
  n_names_Net : NoAttr K CNet "names"
  n_number_Tie : NoAttr K CTie "number"
  n_price_Tie : NoAttr K CTie "price"
  n_rows_Net : NoAttr K CNet "rows"
  n_tail_Tie : NoAttr K CTie "tail"
  in_Net : C8.InsC K CNet
noncomputable def is_Net : Str → Option Bool := fun c => if c = "Net" then some true else none
section
variable {K : PySem.W.Frag} {mg : Str → Option Value} {CTie CNet : Addr}
theorem Txt.f_head_Tie (T : Txt K mg CTie CNet) : FldOk ⟨K, mg⟩ "head" ["Tie"] := fld1 T.m_Tie T.c_Tie T.n_head_Tie
theorem Txt.f_last_given_Net (T : Txt K mg CTie CNet) : FldOk ⟨K, mg⟩ "last_given" ["Net"] := fld1 T.m_Net T.c_Net T.n_last_given_Net
theorem Txt.f_least_Tie (T : Txt K mg CTie CNet) : FldOk ⟨K, mg⟩ "least" ["Tie"] := fld1 T.m_Tie T.c_Tie T.n_least_Tie
theorem Txt.f_most_Tie (T : Txt K mg CTie CNet) : FldOk ⟨K, mg⟩ "most" ["Tie"] := fld1 T.m_Tie T.c_Tie T.n_most_Tie
theorem Txt.f_names_Net (T : Txt K mg CTie CNet) : FldOk ⟨K, mg⟩ "names" ["Net"] := fld1 T.m_Net T.c_Net T.n_names_Net
theorem Txt.f_number_Tie (T : Txt K mg CTie CNet) : FldOk ⟨K, mg⟩ "number" ["Tie"] := fld1 T.m_Tie T.c_Tie T.n_number_Tie
theorem Txt.f_price_Tie (T : Txt K mg CTie CNet) : FldOk ⟨K, mg⟩ "price" ["Tie"] := fld1 T.m_Tie T.c_Tie T.n_price_Tie
theorem Txt.f_rows_Net (T : Txt K mg CTie CNet) : FldOk ⟨K, mg⟩ "rows" ["Net"] := fld1 T.m_Net T.c_Net T.n_rows_Net
theorem Txt.f_tail_Tie (T : Txt K mg CTie CNet) : FldOk ⟨K, mg⟩ "tail" ["Tie"] := fld1 T.m_Tie T.c_Tie T.n_tail_Tie
theorem Txt.is_Net (T0 : Txt K mg CTie CNet) : IsOk ⟨K, mg⟩ CNet is_Net false := by
  refine ⟨fun c b C' h hm => ?_, fun h => nomatch h⟩
  unfold T.is_Net at h
  split at h
  · rename_i e
    subst e
    cases h
    have hm : mg "Net" = some (.ref C') := hm
    rw [T0.m_Net] at hm
    cases hm
    exact ⟨T0.in_Net, Z.kit_self⟩
  · cases h
end
section
variable {P : Program} {w : World} {base : Heap} {K : PySem.W.Frag} {mg : Str → Option Value} {CTie CNet : Addr}
noncomputable def b_Ldraw : SD → R Fl :=
  (zSeq (zAsg (z2 oAdd (z2 oMul (z2 oMul (z2 oAdd (zVar 1) (zC (.int 3))) (z2 oAdd (zVar 1) (zC (.int 3)))) (zC (.int 40692))) (z2 oMul (z2 oMul (z2 oAdd (zVar 2) (zC (.int 7))) (z2 oAdd (zVar 2) (zC (.int 7)))) (zC (.int 69621)))) (zSt 3))
  (zRet (z2 oDiv (z2 oMod (z2 oMul (z2 oMod (z2 oAdd (z2 oMul (z2 oMod (zVar 0) (zC (.int 2147483629))) (zC (.int 48271))) (zVar 3)) (zC (.int 2147483647))) (zC (.int 16807))) (zC (.int 2147483629))) (zC (.int 3)))))
noncomputable def v_Ldraw : FnV := zFn N_Ldraw.length b_Ldraw
theorem c_Ldraw (T : Txt K mg CTie CNet) (D : Df K mg "_law_draw" s_Ldraw ["_law_cell", "_law_k", "_law_j"])  : CalZ P w K mg base 1 "_law_draw" 3 v_Ldraw [] :=
  calZ_of D sc_Ldraw (by decide) rfl fun f cdv A outer s H E hr => by
    have hu := hu_of hr
    have tk := takes_of (X := cxOf (L2.CX P w) P w K mg base N_Ldraw "_law_draw" (L2.defScope s_Ldraw) f cdv A outer s H E) rfl rfl rfl rfl
    refine ⟨_, (pss_cons (ps_set (i := 3) sc_Ldraw.nd rfl (Or.inl rfl) (pe_op (op_addZ (K := K)) (pe_op op_mulZ (pe_op op_mulZ (pe_op (op_addZ (K := K)) (pv 1) pe_int) (pe_op (op_addZ (K := K)) (pv 1) pe_int)) pe_int) (pe_op op_mulZ (pe_op op_mulZ (pe_op (op_addZ (K := K)) (pv 2) pe_int) (pe_op (op_addZ (K := K)) (pv 2) pe_int)) pe_int)))
  (pss_one (ps_ret (pe_op op_fdivW (pe_op op_mod (pe_op op_mulZ (pe_op op_mod (pe_op (op_addZ (K := K)) (pe_op op_mulZ (pe_op op_mod (pv 0) pe_int) pe_int) (pv 3)) pe_int) pe_int) pe_int) pe_int)))), ?_⟩
    exact ((RS.seq (RS.asg (RE.o2 q_add (RE.o2 q_mul (RE.o2 q_mul (RE.o2 q_add RE.var RE.cint) (RE.o2 q_add RE.var RE.cint)) RE.cint) (RE.o2 q_mul (RE.o2 q_mul (RE.o2 q_add RE.var RE.cint) (RE.o2 q_add RE.var RE.cint)) RE.cint)) RG.name)
  (RS.ret (RE.o2 q_div (RE.o2 q_mod (RE.o2 q_mul (RE.o2 q_mod (RE.o2 q_add (RE.o2 q_mul (RE.o2 q_mod RE.var RE.cint) RE.cint) RE.var) RE.cint) RE.cint) RE.cint) RE.cint))))
noncomputable def b_Lpool : SD → R Fl :=
  (zSeq (zAsg (zC (.str "abcdefghijklmnopqrstuvwxyz")) (zSt 1))
  (zSeq (zAsg (zCall v_Ldraw [] (zA (zVar 0) (zA (zC (.int 70)) (zA (zC (.int 1)) zA0)))) (zSt 2))
  (zSeq (zAsg (zM1s oJoin (zC (.str "")) (zLc (zRg1 (zA (zC (.int 12)) zA0)) (zSt 7) zYes (z2 oIx (zVar 1) (z2 oMod (z2 oAdd (z2 oDiv (zVar 2) (zC (.int 7))) (z2 oMul (z2 oAdd (zC (.int 3)) (z2 oMod (zVar 2) (zC (.int 5)))) (zVar 7))) (zC (.int 26)))) [7])) (zSt 3))
  (zSeq (zAsg (zSl (zVar 3) zNo (zPt (z2 oMod (zVar 2) (zC (.int 8))))) (zSt 4))
  (zSeq (zAsg (z2 oMod (z2 oDiv (zVar 2) (zC (.int 200))) (z2 oAdd (z1 oLen (zVar 4)) (zC (.int 1)))) (zSt 5))
  (zSeq (zAsg (zLc (zRg1 (zA (zC (.int 18)) zA0)) (zSt 7) zYes (z2 oAdd (z2 oAdd (zSl (zVar 4) zNo (zPt (zVar 5))) (z2 oIx (zVar 1) (z2 oMod (z2 oAdd (z2 oDiv (zVar 2) (zC (.int 2000))) (z2 oMul (zC (.int 5)) (zVar 7))) (zC (.int 26))))) (zSl (zVar 4) (zPt (zVar 5)) zNo)) [7]) (zSt 6))
  (zSeq (zIfS (zB (z2 oEq (z2 oMod (z2 oDiv (zVar 2) (zC (.int 9))) (zC (.int 3))) (zC (.int 1)))) (zAsg (z2 oAdd (zLc (zRg1 (zA (zC (.int 12)) zA0)) (zSt 7) zYes (zSl (zVar 3) zNo (zPt (z2 oAdd (zVar 7) (zC (.int 1))))) [7]) (zVar 6)) (zSt 6)) zNext)
  (zRet (zSl (zLc (zEnum (zFix (zVar 6))) (zUnp [7, 8]) (zB (z2 (oIn true) (zVar 8) (zSl (zVar 6) zNo (zPt (zVar 7))))) (zVar 8) [7, 8]) zNo (zPt (zC (.int 18))))))))))))
noncomputable def v_Lpool : FnV := zFn N_Lpool.length b_Lpool
theorem c_Lpool (T : Txt K mg CTie CNet) (D : Df K mg "_law_pool" s_Lpool ["_law_cell"]) (c_Ldraw : CalZ P w K mg base 1 "_law_draw" 3 v_Ldraw []) : CalZ P w K mg base 2 "_law_pool" 1 v_Lpool [] :=
  calZ_of D sc_Lpool (by decide) rfl fun f cdv A outer s H E hr => by
    have hu := hu_of hr
    have tk := takes_of (X := cxOf (L2.CX P w) P w K mg base N_Lpool "_law_pool" (L2.defScope s_Lpool) f cdv A outer s H E) rfl rfl rfl rfl
    refine ⟨_, (pss_cons (ps_set (i := 1) sc_Lpool.nd rfl (by first | exact Or.inl rfl | exact Or.inr rfl) pe_str)
  (pss_cons (ps_set (i := 2) sc_Lpool.nd rfl (by first | exact Or.inl rfl | exact Or.inr rfl) (m_cZ c_Ldraw hr (by decide) tk rfl (pa_cons (pv 0) (pa_cons pe_int (pa_cons pe_int pa_nil)))))
  (pss_cons (ps_set (i := 3) sc_Lpool.nd rfl (by first | exact Or.inl rfl | exact Or.inr rfl) (pe_join pe_str (pe_lc (own := [("_law_j", 7)]) (g := gName 7) (tt := tYes) rfl sc_Lpool.nd (pi_range1 rfl T.z_range (pa_cons pe_int pa_nil)) (blkOk_by (N := N_Lpool) (sc := defScope s_Lpool) (own := [("_law_j", 7)]) (by decide +kernel)) (fun _ _ _ _ _ => (pg_name (i := 7) sc_Lpool.nd rfl (Or.inl rfl))) (fun _ _ _ _ _ => pts_nil) (fun _ _ _ _ _ => (pe_ix (ix_Z (K := K) hr.units) (pv 1) (pe_op op_mod (pe_op (op_addZ (K := K)) (pe_op op_fdivW (pv 2) pe_int) (pe_op op_mulZ (pe_op (op_addZ (K := K)) pe_int (pe_op op_mod (pv 2) pe_int)) (pv 7))) pe_int) (fun _ _ => rfl))))))
  (pss_cons (ps_set (i := 4) sc_Lpool.nd rfl (by first | exact Or.inl rfl | exact Or.inr rfl) (pe_slice (sl_Z (K := K)) (pv 3) po_none (po_some (pe_op op_mod (pv 2) pe_int))))
  (pss_cons (ps_set (i := 5) sc_Lpool.nd rfl (by first | exact Or.inl rfl | exact Or.inr rfl) (pe_op op_mod (pe_op op_fdivW (pv 2) pe_int) (pe_op (op_addZ (K := K)) (pe_callB (cl_lenZ (K := K)) rfl T.z_len (by decide +kernel) (pa_cons (pv 4) pa_nil)) pe_int)))
  (pss_cons (ps_set (i := 6) sc_Lpool.nd rfl (by first | exact Or.inl rfl | exact Or.inr rfl) (pe_lc (own := [("_law_j", 7)]) (g := gName 7) (tt := tYes) rfl sc_Lpool.nd (pi_range1 rfl T.z_range (pa_cons pe_int pa_nil)) (blkOk_by (N := N_Lpool) (sc := defScope s_Lpool) (own := [("_law_j", 7)]) (by decide +kernel)) (fun _ _ _ _ _ => (pg_name (i := 7) sc_Lpool.nd rfl (Or.inl rfl))) (fun _ _ _ _ _ => pts_nil) (fun _ _ _ _ _ => (pe_op (op_addZ (K := K)) (pe_op (op_addZ (K := K)) (pe_slice (sl_Z (K := K)) (pv 4) po_none (po_some (pv 5))) (pe_ix (ix_Z (K := K) hr.units) (pv 1) (pe_op op_mod (pe_op (op_addZ (K := K)) (pe_op op_fdivW (pv 2) pe_int) (pe_op op_mulZ pe_int (pv 7))) pe_int) (fun _ _ => rfl))) (pe_slice (sl_Z (K := K)) (pv 4) (po_some (pv 5)) po_none)))))
  (pss_cons (ps_if (pt_cmpR (op_eqZ (K := K) hr.units) (pe_op op_mod (pe_op op_fdivW (pv 2) pe_int) pe_int) pe_int (nomark _)) (pss_one (ps_set (i := 6) sc_Lpool.nd rfl (by first | exact Or.inl rfl | exact Or.inr rfl) (pe_op (op_addZ (K := K)) (pe_lc (own := [("_law_j", 7)]) (g := gName 7) (tt := tYes) rfl sc_Lpool.nd (pi_range1 rfl T.z_range (pa_cons pe_int pa_nil)) (blkOk_by (N := N_Lpool) (sc := defScope s_Lpool) (own := [("_law_j", 7)]) (by decide +kernel)) (fun _ _ _ _ _ => (pg_name (i := 7) sc_Lpool.nd rfl (Or.inl rfl))) (fun _ _ _ _ _ => pts_nil) (fun _ _ _ _ _ => (pe_slice (sl_Z (K := K)) (pv 3) po_none (po_some (pe_op (op_addZ (K := K)) (pv 7) pe_int))))) (pv 6)))) pss_nil)
  (pss_one (ps_ret (pe_slice (sl_Z (K := K)) (pe_lc (own := [("_law_j", 7), ("_law_name", 8)]) rfl sc_Lpool.nd (pi_enum rfl T.z_enumerate (pa_cons (pv 6) pa_nil)) (blkOk_by (N := N_Lpool) (sc := defScope s_Lpool) (own := [("_law_j", 7), ("_law_name", 8)]) (by decide +kernel)) (fun _ _ _ _ _ => (m_gtup (K := K) (n := 2) rfl (pgs_cons (pg_name (i := 7) sc_Lpool.nd rfl (Or.inl rfl)) (pgs_cons (pg_name (i := 8) sc_Lpool.nd rfl (Or.inl rfl)) pgs_nil)))) (fun _ _ _ _ _ => (pts_one (pt_cmpR (op_notinZ (K := K) hr.units) (pv 8) (pe_slice (sl_Z (K := K)) (pv 6) po_none (po_some (pv 7))) (by rfl)))) (fun _ _ _ _ _ => (pv 8))) po_none (po_some pe_int))))))))))), ?_⟩
    exact ((RS.seq (RS.asg RE.cstr RG.name)
  (RS.seq (RS.asg (RE.call .nil (RA.cons RE.var (RA.cons RE.cint (RA.cons RE.cint RA.nil))) (.cons (.cons (.cons Many.nil))) rfl) RG.name)
  (RS.seq (RS.asg (RE.join RE.cstr (RE.lc (is := [7]) (RI.rg1 (RA.cons RE.cint RA.nil)) RG.name RT.yes (RE.o2 q_ix RE.var (RE.o2 q_mod (RE.o2 q_add (RE.o2 q_div RE.var RE.cint) (RE.o2 q_mul (RE.o2 q_add RE.cint (RE.o2 q_mod RE.var RE.cint)) RE.var)) RE.cint)))) RG.name)
  (RS.seq (RS.asg (RE.sl RE.var RO.no (RO.part (RE.o2 q_mod RE.var RE.cint))) RG.name)
  (RS.seq (RS.asg (RE.o2 q_mod (RE.o2 q_div RE.var RE.cint) (RE.o2 q_add (RE.c1 q_len RE.var) RE.cint)) RG.name)
  (RS.seq (RS.asg (RE.lc (is := [7]) (RI.rg1 (RA.cons RE.cint RA.nil)) RG.name RT.yes (RE.o2 q_add (RE.o2 q_add (RE.sl RE.var RO.no (RO.part RE.var)) (RE.o2 q_ix RE.var (RE.o2 q_mod (RE.o2 q_add (RE.o2 q_div RE.var RE.cint) (RE.o2 q_mul RE.cint RE.var)) RE.cint))) (RE.sl RE.var (RO.part RE.var) RO.no))) RG.name)
  (RS.seq (RS.ifS (RT.val (RE.o2 q_eq (RE.o2 q_mod (RE.o2 q_div RE.var RE.cint) RE.cint) RE.cint)) (RS.asg (RE.o2 q_add (RE.lc (is := [7]) (RI.rg1 (RA.cons RE.cint RA.nil)) RG.name RT.yes (RE.sl RE.var RO.no (RO.part (RE.o2 q_add RE.var RE.cint)))) RE.var) RG.name) RS.next)
  (RS.ret (RE.sl (RE.lc (is := [7, 8]) (RI.enum (RE.fix RE.var)) (RG.names (is := [7, 8]) rfl) (RT.val (RE.o2 (q_in (neg := true)) RE.var (RE.sl RE.var RO.no (RO.part RE.var)))) RE.var) RO.no (RO.part RE.cint)))))))))))
noncomputable def b_Net_init : SD → R Fl :=
  (zSeq (zSFld ["Net"] "names" (zVar 0) (zCell (zLst zA0)))
  (zSeq (zSFld ["Net"] "rows" (zVar 0) (zCell zDnew))
  (zSFld ["Net"] "last_given" (zVar 0) (zC (.int 0)))))
noncomputable def v_Net_init : FnV := zFn N_Net_init.length b_Net_init
theorem c_Net_init (T : Txt K mg CTie CNet) (D : Dk K mg "Net" CNet "Net.__init__" s_Net_init ["self"])  : MakZ P w K mg base 1 "Net" CNet 1 v_Net_init [] :=
  makZ_of D sc_Net_init (by decide) rfl fun f cdv A outer s H E hr => by
    have hu := hu_of hr
    have tk := takes_of (X := cxOf (L2.CX P w) P w K mg base N_Net_init "Net.__init__" (L2.defScope s_Net_init) f cdv A outer s H E) rfl rfl rfl rfl
    refine ⟨_, (pss_cons (ps_fld (pv 0) (pe_lst pa_nil) rfl)
  (pss_cons (ps_fld (pv 0) pe_dnewK rfl)
  (pss_one (ps_fld (pv 0) pe_int rfl)))), ?_⟩
    exact ((RS.seq (RS.fld T.f_names_Net (RE.cell (RE.lst RA.nil Many.nil (by decide))) RE.var)
  (RS.seq (RS.fld T.f_rows_Net (RE.cell RE.dnew) RE.var)
  (RS.fld T.f_last_given_Net RE.cint RE.var))))
noncomputable def b_Lwhole : SD → R Fl :=
  (zRet (zAndV (z1 (oIsi .int) (zVar 0)) (zAndV (zNotV (z1 (oIsi .bool) (zVar 0))) (z2 oEq (zVar 0) (zVar 1)))))
noncomputable def v_Lwhole : FnV := zFn N_Lwhole.length b_Lwhole
theorem c_Lwhole (T : Txt K mg CTie CNet) (D : Df K mg "_law_whole" s_Lwhole ["_law_thing", "_law_due"])  : CalZ P w K mg base 1 "_law_whole" 2 v_Lwhole [] :=
  calZ_of D sc_Lwhole (by decide) rfl fun f cdv A outer s H E hr => by
    have hu := hu_of hr
    have tk := takes_of (X := cxOf (L2.CX P w) P w K mg base N_Lwhole "_law_whole" (L2.defScope s_Lwhole) f cdv A outer s H E) rfl rfl rfl rfl
    refine ⟨_, (pss_one (ps_ret (pe_and (pe_callB (m_isi (K := K)) rfl T.z_isinstance (by decide +kernel) (pa_cons (pv 0) (pa_cons (pe_bltn (v := .ty "int") rfl T.z_int (by decide +kernel) rfl) pa_nil))) (pe_and (pe_not (pe_callB (m_isi (K := K)) rfl T.z_isinstance (by decide +kernel) (pa_cons (pv 0) (pa_cons (pe_bltn (v := .ty "bool") rfl T.z_bool (by decide +kernel) rfl) pa_nil)))) (pe_one (pe_cmpR (op_eqZ (K := K) hr.units) (pv 0) (pv 1) (nomark _))))))), ?_⟩
    exact ((RS.ret (RE.andV (RE.isi (t := .int) RE.var) (RE.andV (RE.notV (RE.isi (t := .bool) RE.var)) (RE.o2 q_eq RE.var RE.var)))))
noncomputable def b_Net_ties : SD → R Fl :=
  (zRet (zLc (zItL (zFix (z1 oSorted (z1 oList (z1 (oFld ["Net"] "rows") (zVar 0)))))) (zSt 1) zYes (z2 oIx (z1 (oFld ["Net"] "rows") (zVar 0)) (zVar 1)) [1]))
noncomputable def v_Net_ties : FnV := zFn N_Net_ties.length b_Net_ties
theorem c_Net_ties (T : Txt K mg CTie CNet) (D : Dm K CNet "ties" "Net.ties" s_Net_ties ["self"])  : MetZ P w K mg base 1 CNet "ties" 1 v_Net_ties [] :=
  metZ_of D sc_Net_ties (by decide) rfl fun f cdv A outer s H E hr => by
    have hu := hu_of hr
    have tk := takes_of (X := cxOf (L2.CX P w) P w K mg base N_Net_ties "Net.ties" (L2.defScope s_Net_ties) f cdv A outer s H E) rfl rfl rfl rfl
    refine ⟨_, (pss_one (ps_ret (pe_lc (own := [("number", 1)]) (g := gName 1) (tt := tYes) rfl sc_Net_ties.nd (pi_list (pe_callB (cl_sortedZ (K := K) rfl) rfl T.z_sorted (by decide +kernel) (pa_cons (pe_callTy (cl_listZ (K := K) rfl) rfl T.z_list (by decide +kernel) (pa_cons (m_fldZ (K := K) (pv 0)) pa_nil)) pa_nil))) (blkOk_by (N := N_Net_ties) (sc := defScope s_Net_ties) (own := [("number", 1)]) (by decide +kernel)) (fun _ _ _ _ _ => (pg_name (i := 1) sc_Net_ties.nd rfl (Or.inl rfl))) (fun _ _ _ _ _ => pts_nil) (fun _ _ _ _ _ => (pe_ix (ix_Z (K := K) hr.units) (m_fldZ (K := K) (pv 0)) (pv 1) (fun _ _ => rfl)))))), ?_⟩
    exact ((RS.ret (RE.lc (is := [1]) (RI.lst (RE.fix (RE.c1 q_sorted (RE.c1 q_list (RE.fld T.f_rows_Net RE.var))))) RG.name RT.yes (RE.o2 q_ix (RE.fld T.f_rows_Net RE.var) RE.var))))
noncomputable def b_Lrow : SD → R Fl :=
  (zSeq (zAsg (zTup (zA (z1 (oFld ["Tie"] "number") (zVar 0)) (zA (z1 (oFld ["Tie"] "tail") (zVar 0)) (zA (z1 (oFld ["Tie"] "head") (zVar 0)) (zA (z1 (oFld ["Tie"] "least") (zVar 0)) (zA (z1 (oFld ["Tie"] "most") (zVar 0)) (zA (z1 (oFld ["Tie"] "price") (zVar 0)) zA0))))))) (zSt 1))
  (zSeq (zAsg (z2 oAdd (zLst (zA (z2 oIx (zVar 1) (zC (.int 0))) (zA (z2 oIx (zVar 1) (zC (.int 3))) (zA (z2 oIx (zVar 1) (zC (.int 5))) zA0)))) (z2 oMul (zLst (zA (z2 oIx (zVar 1) (zC (.int 4))) zA0)) (z1 oInt (z2 (oIsN true) (z2 oIx (zVar 1) (zC (.int 4))) (zC .non))))) (zSt 2))
  (zSeq (zIfS (zB (z2 oNe (zLc (zItL (zFix (zVar 2))) (zSt 3) (zOr (zB (z1 (oIsi .bool) (zVar 3))) (zNot (zB (z1 (oIsi .int) (zVar 3))))) (zVar 3) [3]) (zLst zA0))) (zRet (zC .non)) zNext)
  (zRet (zIf (zAnd (zB (z1 (oIsi .str) (z2 oIx (zVar 1) (zC (.int 1))))) (zB (z1 (oIsi .str) (z2 oIx (zVar 1) (zC (.int 2)))))) (zVar 1) (zC .non))))))
noncomputable def v_Lrow : FnV := zFn N_Lrow.length b_Lrow
theorem c_Lrow (T : Txt K mg CTie CNet) (D : Df K mg "_law_row" s_Lrow ["_law_tie"])  : CalZ P w K mg base 1 "_law_row" 1 v_Lrow [] :=
  calZ_of D sc_Lrow (by decide) rfl fun f cdv A outer s H E hr => by
    have hu := hu_of hr
    have tk := takes_of (X := cxOf (L2.CX P w) P w K mg base N_Lrow "_law_row" (L2.defScope s_Lrow) f cdv A outer s H E) rfl rfl rfl rfl
    refine ⟨_, (pss_cons (ps_set (i := 1) sc_Lrow.nd rfl (Or.inl rfl) (pe_tup (pa_cons (m_fldZ (K := K) (pv 0)) (pa_cons (m_fldZ (K := K) (pv 0)) (pa_cons (m_fldZ (K := K) (pv 0)) (pa_cons (m_fldZ (K := K) (pv 0)) (pa_cons (m_fldZ (K := K) (pv 0)) (pa_cons (m_fldZ (K := K) (pv 0)) pa_nil))))))))
  (pss_cons (ps_set (i := 2) sc_Lrow.nd rfl (Or.inl rfl) (pe_op (op_addZ (K := K)) (pe_lst (pa_cons (pe_ix (ix_Z (K := K) hr.units) (pv 1) pe_int (fun _ _ => rfl)) (pa_cons (pe_ix (ix_Z (K := K) hr.units) (pv 1) pe_int (fun _ _ => rfl)) (pa_cons (pe_ix (ix_Z (K := K) hr.units) (pv 1) pe_int (fun _ _ => rfl)) pa_nil)))) (pe_op op_mulZ (pe_lst (pa_cons (pe_ix (ix_Z (K := K) hr.units) (pv 1) pe_int (fun _ _ => rfl)) pa_nil)) (pe_callTy cl_intZ rfl T.z_int (by decide +kernel) (pa_cons (pe_cmpR op_isnotZ (pe_ix (ix_Z (K := K) hr.units) (pv 1) pe_int (fun _ _ => rfl)) pe_non (nomark _)) pa_nil)))))
  (pss_cons (ps_if (pt_cmpR (op_neZ (K := K) hr.units) (pe_lc (own := [("_law_one", 3)]) (g := gName 3) rfl sc_Lrow.nd (pi_list (pv 2)) (blkOk_by (N := N_Lrow) (sc := defScope s_Lrow) (own := [("_law_one", 3)]) (by decide +kernel)) (fun _ _ _ _ _ => (pg_name (i := 3) sc_Lrow.nd rfl (Or.inl rfl))) (fun _ _ _ _ _ => (pts_one (PW.pt (pw_or (pt_val (pe_callB (m_isi (K := K)) rfl T.z_isinstance (by decide +kernel) (pa_cons (pv 3) (pa_cons (pe_bltn (v := .ty "bool") rfl T.z_bool (by decide +kernel) rfl) pa_nil)))) (pw_or1 (pt_not (pt_val (pe_callB (m_isi (K := K)) rfl T.z_isinstance (by decide +kernel) (pa_cons (pv 3) (pa_cons (pe_bltn (v := .ty "int") rfl T.z_int (by decide +kernel) rfl) pa_nil)))))))))) (fun _ _ _ _ _ => (pv 3))) (pe_lst pa_nil) (nomark _)) (pss_one (ps_ret pe_non)) pss_nil)
  (pss_one (ps_ret (pe_ifExp (PW.pt (pw_and (pt_val (pe_callB (m_isi (K := K)) rfl T.z_isinstance (by decide +kernel) (pa_cons (pe_ix (ix_Z (K := K) hr.units) (pv 1) pe_int (fun _ _ => rfl)) (pa_cons (pe_bltn (v := .ty "str") rfl T.z_str (by decide +kernel) rfl) pa_nil)))) (pw_and1 (pt_val (pe_callB (m_isi (K := K)) rfl T.z_isinstance (by decide +kernel) (pa_cons (pe_ix (ix_Z (K := K) hr.units) (pv 1) pe_int (fun _ _ => rfl)) (pa_cons (pe_bltn (v := .ty "str") rfl T.z_str (by decide +kernel) rfl) pa_nil))))))) (pv 1) pe_non)))))), ?_⟩
    exact ((RS.seq (RS.asg (RE.tup (RA.cons (RE.fld T.f_number_Tie RE.var) (RA.cons (RE.fld T.f_tail_Tie RE.var) (RA.cons (RE.fld T.f_head_Tie RE.var) (RA.cons (RE.fld T.f_least_Tie RE.var) (RA.cons (RE.fld T.f_most_Tie RE.var) (RA.cons (RE.fld T.f_price_Tie RE.var) RA.nil)))))) (.cons (.cons (.cons (.cons (.cons (.cons Many.nil)))))) (by decide)) RG.name)
  (RS.seq (RS.asg (RE.o2 q_add (RE.lst (RA.cons (RE.o2 q_ix RE.var RE.cint) (RA.cons (RE.o2 q_ix RE.var RE.cint) (RA.cons (RE.o2 q_ix RE.var RE.cint) RA.nil))) (.cons (.cons (.cons Many.nil))) (by decide)) (RE.o2 q_mul (RE.lst (RA.cons (RE.o2 q_ix RE.var RE.cint) RA.nil) (.cons Many.nil) (by decide)) (RE.c1 q_int (RE.o2 (q_isN (neg := true)) (RE.o2 q_ix RE.var RE.cint) RE.cnon)))) RG.name)
  (RS.seq (RS.ifS (RT.val (RE.o2 q_ne (RE.lc (is := [3]) (RI.lst (RE.fix RE.var)) RG.name (RT.or (RT.val (RE.isi (t := .bool) RE.var)) (RT.not (RT.val (RE.isi (t := .int) RE.var)))) RE.var) (RE.lst RA.nil Many.nil (by decide)))) (RS.ret RE.cnon) RS.next)
  (RS.ret (RE.if' (RT.and (RT.val (RE.isi (t := .str) (RE.o2 q_ix RE.var RE.cint))) (RT.val (RE.isi (t := .str) (RE.o2 q_ix RE.var RE.cint)))) RE.var RE.cnon))))))
noncomputable def b_Net_places : SD → R Fl :=
  (zRet (z1 oList (z1 (oFld ["Net"] "names") (zVar 0))))
noncomputable def v_Net_places : FnV := zFn N_Net_places.length b_Net_places
theorem c_Net_places (T : Txt K mg CTie CNet) (D : Dm K CNet "places" "Net.places" s_Net_places ["self"])  : MetZ P w K mg base 1 CNet "places" 1 v_Net_places [] :=
  metZ_of D sc_Net_places (by decide) rfl fun f cdv A outer s H E hr => by
    have hu := hu_of hr
    have tk := takes_of (X := cxOf (L2.CX P w) P w K mg base N_Net_places "Net.places" (L2.defScope s_Net_places) f cdv A outer s H E) rfl rfl rfl rfl
    refine ⟨_, (pss_one (ps_ret (pe_callTy (cl_listZ (K := K) rfl) rfl T.z_list (by decide +kernel) (pa_cons (m_fldZ (K := K) (pv 0)) pa_nil)))), ?_⟩
    exact ((RS.ret (RE.c1 q_list (RE.fld T.f_names_Net RE.var))))
noncomputable def b_Lrows : SD → R Fl :=
  (zRet (zLc (zItL (zFix (z1 oSorted (z2 oIx (zVar 0) (zC (.str "ties")))))) (zSt 1) zYes (z2 oAdd (zTup (zA (zVar 1) zA0)) (z2 oIx (z2 oIx (zVar 0) (zC (.str "ties"))) (zVar 1))) [1]))
noncomputable def v_Lrows : FnV := zFn N_Lrows.length b_Lrows
theorem c_Lrows (T : Txt K mg CTie CNet) (D : Df K mg "_law_rows" s_Lrows ["_law_model"])  : CalZ P w K mg base 1 "_law_rows" 1 v_Lrows [] :=
  calZ_of D sc_Lrows (by decide) rfl fun f cdv A outer s H E hr => by
    have hu := hu_of hr
    have tk := takes_of (X := cxOf (L2.CX P w) P w K mg base N_Lrows "_law_rows" (L2.defScope s_Lrows) f cdv A outer s H E) rfl rfl rfl rfl
    refine ⟨_, (pss_one (ps_ret (pe_lc (own := [("_law_number", 1)]) (g := gName 1) (tt := tYes) rfl sc_Lrows.nd (pi_list (pe_callB (cl_sortedZ (K := K) rfl) rfl T.z_sorted (by decide +kernel) (pa_cons (pe_ix (ix_Z (K := K) hr.units) (pv 0) pe_str (fun _ _ => rfl)) pa_nil))) (blkOk_by (N := N_Lrows) (sc := defScope s_Lrows) (own := [("_law_number", 1)]) (by decide +kernel)) (fun _ _ _ _ _ => (pg_name (i := 1) sc_Lrows.nd rfl (Or.inl rfl))) (fun _ _ _ _ _ => pts_nil) (fun _ _ _ _ _ => (pe_op (op_addZ (K := K)) (pe_tup (pa_cons (pv 1) pa_nil)) (pe_ix (ix_Z (K := K) hr.units) (pe_ix (ix_Z (K := K) hr.units) (pv 0) pe_str (fun _ _ => rfl)) (pv 1) (fun _ _ => rfl))))))), ?_⟩
    exact ((RS.ret (RE.lc (is := [1]) (RI.lst (RE.fix (RE.c1 q_sorted (RE.o2 q_ix RE.var RE.cstr)))) RG.name RT.yes (RE.o2 q_add (RE.tup (RA.cons RE.var RA.nil) (.cons Many.nil) (by decide)) (RE.o2 q_ix (RE.o2 q_ix RE.var RE.cstr) RE.var)))))
noncomputable def b_Net_given : SD → R Fl :=
  (zRet (z1 (oFld ["Net"] "last_given") (zVar 0)))
noncomputable def v_Net_given : FnV := zFn N_Net_given.length b_Net_given
theorem c_Net_given (T : Txt K mg CTie CNet) (D : Dm K CNet "given" "Net.given" s_Net_given ["self"])  : MetZ P w K mg base 1 CNet "given" 1 v_Net_given [] :=
  metZ_of D sc_Net_given (by decide) rfl fun f cdv A outer s H E hr => by
    have hu := hu_of hr
    have tk := takes_of (X := cxOf (L2.CX P w) P w K mg base N_Net_given "Net.given" (L2.defScope s_Net_given) f cdv A outer s H E) rfl rfl rfl rfl
    refine ⟨_, (pss_one (ps_ret (m_fldZ (K := K) (pv 0)))), ?_⟩
    exact ((RS.ret (RE.fld T.f_last_given_Net RE.var)))
noncomputable def b_Lstands : SD → R Fl :=
  (zSeq (zAsg (zLc (zItL (zFix (zMeth "Net" "ties" v_Net_ties [] (zVar 0) zA0))) (zSt 3) zYes (zCall v_Lrow [] (zA (zVar 3) zA0)) [3]) (zSt 2))
  (zRet (zAndV (z2 oEq (zMeth "Net" "places" v_Net_places [] (zVar 0) zA0) (z2 oIx (zVar 1) (zC (.str "names")))) (zAndV (z2 oEq (zVar 2) (zCall v_Lrows [] (zA (zVar 1) zA0))) (z2 oEq (zMeth "Net" "given" v_Net_given [] (zVar 0) zA0) (z2 oIx (zVar 1) (zC (.str "given"))))))))
noncomputable def v_Lstands : FnV := zFn N_Lstands.length b_Lstands
theorem c_Lstands (T : Txt K mg CTie CNet) (D : Df K mg "_law_stands" s_Lstands ["_law_net", "_law_model"]) (c_Net_given : MetZ P w K mg base 1 CNet "given" 1 v_Net_given []) (c_Net_places : MetZ P w K mg base 1 CNet "places" 1 v_Net_places []) (c_Net_ties : MetZ P w K mg base 1 CNet "ties" 1 v_Net_ties []) (c_Lrow : CalZ P w K mg base 1 "_law_row" 1 v_Lrow []) (c_Lrows : CalZ P w K mg base 1 "_law_rows" 1 v_Lrows []) : CalZ P w K mg base 2 "_law_stands" 2 v_Lstands [] :=
  calZ_of D sc_Lstands (by decide) rfl fun f cdv A outer s H E hr => by
    have hu := hu_of hr
    have tk := takes_of (X := cxOf (L2.CX P w) P w K mg base N_Lstands "_law_stands" (L2.defScope s_Lstands) f cdv A outer s H E) rfl rfl rfl rfl
    refine ⟨_, (pss_cons (ps_setLc (i := 2) (own := [("_law_tie", 3)]) (g := gName 3) (tt := tYes) rfl sc_Lstands.nd rfl rfl (sw_true rfl rfl rfl (by decide +kernel)) (pi_list (m_mtZ0 c_Net_ties hr (by decide) tk (pv 0))) (blkOk_by (N := N_Lstands) (sc := defScope s_Lstands) (own := [("_law_tie", 3)]) (by decide +kernel)) (fun _ _ _ _ _ => (pg_name (i := 3) sc_Lstands.nd rfl (Or.inl rfl))) (fun _ _ _ _ _ => pts_nil) (fun _ _ _ _ _ => (m_cK (K := K) (mg := mg) c_Lrow hr (by decide) takes0Z rfl (pa_cons (pv 3) pa_nil))))
  (pss_one (ps_ret (pe_and (pe_cmpR (op_eqZ (K := K) hr.units) (m_mtZ0 c_Net_places hr (by decide) tk (pv 0)) (pe_ix (ix_Z (K := K) hr.units) (pv 1) pe_str (fun _ _ => rfl)) (nomark _)) (pe_and (pe_cmpR (op_eqZ (K := K) hr.units) (pv 2) (m_cZ c_Lrows hr (by decide) tk rfl (pa_cons (pv 1) pa_nil)) (nomark _)) (pe_one (pe_cmpR (op_eqZ (K := K) hr.units) (m_mtZ0 c_Net_given hr (by decide) tk (pv 0)) (pe_ix (ix_Z (K := K) hr.units) (pv 1) pe_str (fun _ _ => rfl)) (nomark _)))))))), ?_⟩
    exact ((RS.seq (RS.asg (RE.lc (is := [3]) (RI.lst (RE.fix (RE.meth T.m_Net .nil RE.var RA.nil Many.nil rfl))) RG.name RT.yes (RE.call .nil (RA.cons RE.var RA.nil) (.cons Many.nil) rfl)) RG.name)
  (RS.ret (RE.andV (RE.o2 q_eq (RE.meth T.m_Net .nil RE.var RA.nil Many.nil rfl) (RE.o2 q_ix RE.var RE.cstr)) (RE.andV (RE.o2 q_eq RE.var (RE.call .nil (RA.cons RE.var RA.nil) (.cons Many.nil) rfl)) (RE.o2 q_eq (RE.meth T.m_Net .nil RE.var RA.nil Many.nil rfl) (RE.o2 q_ix RE.var RE.cstr)))))))
noncomputable def b_Net_copied : SD → R Fl :=
  (zSeq (zAsg (zMake "Net" v_Net_init [] zA0) (zSt 1))
  (zSeq (zSFld ["Net"] "names" (zVar 1) (zCell (z1 oList (z1 (oFld ["Net"] "names") (zVar 0)))))
  (zSeq (zSFld ["Net"] "rows" (zVar 1) (zCell (z1 oDict (z1 (oFld ["Net"] "rows") (zVar 0)))))
  (zSeq (zSFld ["Net"] "last_given" (zVar 1) (z1 (oFld ["Net"] "last_given") (zVar 0)))
  (zRet (zVar 1))))))
noncomputable def v_Net_copied : FnV := zFn N_Net_copied.length b_Net_copied
theorem c_Net_copied (T : Txt K mg CTie CNet) (D : Dm K CNet "copied" "Net.copied" s_Net_copied ["self"]) (c_Net_init : MakZ P w K mg base 1 "Net" CNet 1 v_Net_init []) : MetZ P w K mg base 3 CNet "copied" 1 v_Net_copied [] :=
  metZ_of D sc_Net_copied (by decide) rfl fun f cdv A outer s H E hr => by
    have hu := hu_of hr
    have tk := takes_of (X := cxOf (L2.CX P w) P w K mg base N_Net_copied "Net.copied" (L2.defScope s_Net_copied) f cdv A outer s H E) rfl rfl rfl rfl
    refine ⟨_, (pss_cons (ps_set (i := 1) sc_Net_copied.nd rfl (Or.inl rfl) (m_mkZ0 c_Net_init hr (by decide) tk rfl))
  (pss_cons (ps_fld (pv 1) (pe_callTy (cl_listZ (K := K) rfl) rfl T.z_list (by decide +kernel) (pa_cons (m_fldZ (K := K) (pv 0)) pa_nil)) rfl)
  (pss_cons (ps_fld (pv 1) (pe_callTy (cl_dictZ (K := K) rfl) rfl T.z_dict (by decide +kernel) (pa_cons (m_fldZ (K := K) (pv 0)) pa_nil)) rfl)
  (pss_cons (ps_fld (pv 1) (m_fldZ (K := K) (pv 0)) rfl)
  (pss_one (ps_ret (pv 1))))))), ?_⟩
    exact ((RS.seq (RS.asg (RE.make T.m_Net .nil RA.nil Many.nil rfl) RG.name)
  (RS.seq (RS.fld T.f_names_Net (RE.cell (RE.c1 q_list (RE.fld T.f_names_Net RE.var))) RE.var)
  (RS.seq (RS.fld T.f_rows_Net (RE.cell (RE.c1 q_dict (RE.fld T.f_rows_Net RE.var))) RE.var)
  (RS.seq (RS.fld T.f_last_given_Net (RE.fld T.f_last_given_Net RE.var) RE.var)
  (RS.ret RE.var))))))
noncomputable def b_are_signs : SD → R Fl :=
  (zRet (z1 oAll (zLc (zItS (zFix (zVar 0))) (zSt 2) zYes (z2 (oIn false) (zVar 2) (zVar 1)) [2])))
noncomputable def v_are_signs : FnV := zFn N_are_signs.length b_are_signs
theorem c_are_signs (T : Txt K mg CTie CNet) (D : Df K mg "are_signs" s_are_signs ["text", "signs"])  : CalZ P w K mg base 1 "are_signs" 2 v_are_signs [] :=
  calZ_of D sc_are_signs (by decide) rfl fun f cdv A outer s H E hr => by
    have hu := hu_of hr
    have tk := takes_of (X := cxOf (L2.CX P w) P w K mg base N_are_signs "are_signs" (L2.defScope s_are_signs) f cdv A outer s H E) rfl rfl rfl rfl
    refine ⟨_, (pss_one (ps_ret (pe_callB (cr_all rfl) rfl T.z_all (by decide +kernel) (pa_cons (pe_lc (own := [("sign", 2)]) (g := gName 2) (tt := tYes) rfl sc_are_signs.nd (pi_str (pv 0)) (blkOk_by (N := N_are_signs) (sc := defScope s_are_signs) (own := [("sign", 2)]) (by decide +kernel)) (fun _ _ _ _ _ => (pg_name (i := 2) sc_are_signs.nd rfl (Or.inl rfl))) (fun _ _ _ _ _ => pts_nil) (fun _ _ _ _ _ => (pe_cmpR (op_inZ (K := K) hr.units) (pv 2) (pv 1) (by rfl)))) pa_nil)))), ?_⟩
    exact ((RS.ret (RE.c1 q_all (RE.lc (is := [2]) (RI.str (RE.fix RE.var)) RG.name RT.yes (RE.o2 (q_in (neg := false)) RE.var RE.var)))))
noncomputable def b_is_name : SD → R Fl :=
  (zRet (zAndV (z1 (oIsi .str) (zVar 0)) (zAndV (zChain oLe oLe (zC (.int 1)) (z1 oLen (zVar 0)) (zC (.int 12))) (zCall v_are_signs [] (zA (zVar 0) (zA (zC (.str "abcdefghijklmnopqrstuvwxyz")) zA0))))))
noncomputable def v_is_name : FnV := zFn N_is_name.length b_is_name
theorem c_is_name (T : Txt K mg CTie CNet) (D : Df K mg "is_name" s_is_name ["thing"]) (c_are_signs : CalZ P w K mg base 1 "are_signs" 2 v_are_signs []) : CalZ P w K mg base 2 "is_name" 1 v_is_name [] :=
  calZ_of D sc_is_name (by decide) rfl fun f cdv A outer s H E hr => by
    have hu := hu_of hr
    have tk := takes_of (X := cxOf (L2.CX P w) P w K mg base N_is_name "is_name" (L2.defScope s_is_name) f cdv A outer s H E) rfl rfl rfl rfl
    refine ⟨_, (pss_one (ps_ret (pe_and (pe_callB (m_isi (K := K)) rfl T.z_isinstance (by decide +kernel) (pa_cons (pv 0) (pa_cons (pe_bltn (v := .ty "str") rfl T.z_str (by decide +kernel) rfl) pa_nil))) (pe_and (pe_chain op_le op_le pe_int (pe_callB (cl_lenZ (K := K)) rfl T.z_len (by decide +kernel) (pa_cons (pv 0) pa_nil)) (pe_gc rfl T.g_MOST_LETTERS)) (pe_one (m_cZ c_are_signs hr (by decide) tk rfl (pa_cons (pv 0) (pa_cons (pe_gc rfl T.g_LETTERS) pa_nil)))))))), ?_⟩
    exact ((RS.ret (RE.andV (RE.isi (t := .str) RE.var) (RE.andV (RE.chain q_le q_le RE.cint (RE.c1 q_len RE.var) RE.cint) (RE.call .nil (RA.cons RE.var (RA.cons RE.cstr RA.nil)) (.cons (.cons Many.nil)) rfl)))))
noncomputable def b_Net_put_place : SD → R Fl :=
  (zSeq (zIfS (zNot (zB (zCall v_is_name [] (zA (zVar 1) zA0)))) zNever zNext)
  (zSeq (zIfS (zB (z2 (oIn false) (zVar 1) (z1 (oFld ["Net"] "names") (zVar 0)))) zNever zNext)
  (zSeq (zIfS (zB (z2 oEq (z1 oLen (z1 (oFld ["Net"] "names") (zVar 0))) (zC (.int 14)))) zNever zNext)
  (zDrop (zM2 isL (oB2 fAppend) (z1 (oFld ["Net"] "names") (zVar 0)) (zFix (zVar 1)))))))
noncomputable def v_Net_put_place : FnV := zFn N_Net_put_place.length b_Net_put_place
theorem c_Net_put_place (T : Txt K mg CTie CNet) (D : Dm K CNet "put_place" "Net.put_place" s_Net_put_place ["self", "name"]) (c_is_name : CalZ P w K mg base 2 "is_name" 1 v_is_name []) : MetZ P w K mg base 3 CNet "put_place" 2 v_Net_put_place [] :=
  metZ_of D sc_Net_put_place (by decide) rfl fun f cdv A outer s H E hr => by
    have hu := hu_of hr
    have tk := takes_of (X := cxOf (L2.CX P w) P w K mg base N_Net_put_place "Net.put_place" (L2.defScope s_Net_put_place) f cdv A outer s H E) rfl rfl rfl rfl
    refine ⟨_, (pss_cons (ps_if (pt_not (pt_val (m_cZ c_is_name hr (by decide) tk rfl (pa_cons (pv 1) pa_nil)))) (pss_one ps_never) pss_nil)
  (pss_cons (ps_if (pt_cmpR (op_inZ (K := K) hr.units) (pv 1) (m_fldZ (K := K) (pv 0)) (by rfl)) (pss_one ps_never) pss_nil)
  (pss_cons (ps_if (pt_cmpR (op_eqZ (K := K) hr.units) (pe_callB (cl_lenZ (K := K)) rfl T.z_len (by decide +kernel) (pa_cons (m_fldZ (K := K) (pv 0)) pa_nil)) (pe_gc rfl T.g_MOST_PLACES) (nomark _)) (pss_one ps_never) pss_nil)
  (pss_one (ps_expr (pe_bm PySem.F.plainAttrs_list PySem.F.slot_list_append PySem.F.type_list_append mt_append (m_fldZ (K := K) (pv 0)) (pa_cons (pv 1) pa_nil))))))), ?_⟩
    exact ((RS.seq (RS.ifS (RT.not (RT.val (RE.call .nil (RA.cons RE.var RA.nil) (.cons Many.nil) rfl))) RS.never RS.next)
  (RS.seq (RS.ifS (RT.val (RE.o2 (q_in (neg := false)) RE.var (RE.fld T.f_names_Net RE.var))) RS.never RS.next)
  (RS.seq (RS.ifS (RT.val (RE.o2 q_eq (RE.c1 q_len (RE.fld T.f_names_Net RE.var)) RE.cint)) RS.never RS.next)
  (RS.drop (RE.append (RE.fld T.f_names_Net RE.var) RE.var))))))
noncomputable def b_Lamount : SD → R Fl :=
  (zSeq (zAsg (zCall v_Ldraw [] (zA (zVar 0) (zA (zVar 1) (zA (zVar 2) zA0)))) (zSt 3))
  (zSeq (zAsg (zLst (zA (z2 oMod (z2 oDiv (zVar 3) (zC (.int 4))) (zC (.int 4))) (zA (z2 oMod (z2 oDiv (zVar 3) (zC (.int 4))) (zC (.int 1000))) (zA (z2 oMod (z2 oAdd (zVar 0) (zVar 3)) (z2 oAdd (z2 oPow (zC (.int 10)) (zC (.int 60))) (zC (.int 1)))) (zA (z2 oSub (z2 oPow (zC (.int 10)) (zC (.int 60))) (z2 oMod (z2 oDiv (zVar 3) (zC (.int 4))) (zC (.int 3)))) zA0))))) (zSt 4))
  (zRet (z2 oIx (zVar 4) (z2 oMod (zVar 3) (zC (.int 4)))))))
noncomputable def v_Lamount : FnV := zFn N_Lamount.length b_Lamount
theorem c_Lamount (T : Txt K mg CTie CNet) (D : Df K mg "_law_amount" s_Lamount ["_law_cell", "_law_k", "_law_j"]) (c_Ldraw : CalZ P w K mg base 1 "_law_draw" 3 v_Ldraw []) : CalZ P w K mg base 2 "_law_amount" 3 v_Lamount [] :=
  calZ_of D sc_Lamount (by decide) rfl fun f cdv A outer s H E hr => by
    have hu := hu_of hr
    have tk := takes_of (X := cxOf (L2.CX P w) P w K mg base N_Lamount "_law_amount" (L2.defScope s_Lamount) f cdv A outer s H E) rfl rfl rfl rfl
    refine ⟨_, (pss_cons (ps_set (i := 3) sc_Lamount.nd rfl (Or.inl rfl) (m_cZ c_Ldraw hr (by decide) tk rfl (pa_cons (pv 0) (pa_cons (pv 1) (pa_cons (pv 2) pa_nil)))))
  (pss_cons (ps_set (i := 4) sc_Lamount.nd rfl (Or.inl rfl) (pe_lst (pa_cons (pe_op op_mod (pe_op op_fdivW (pv 3) pe_int) pe_int) (pa_cons (pe_op op_mod (pe_op op_fdivW (pv 3) pe_int) pe_int) (pa_cons (pe_op op_mod (pe_op (op_addZ (K := K)) (pv 0) (pv 3)) (pe_op (op_addZ (K := K)) (pe_op op_powW pe_int pe_int) pe_int)) (pa_cons (pe_op op_sub (pe_op op_powW pe_int pe_int) (pe_op op_mod (pe_op op_fdivW (pv 3) pe_int) pe_int)) pa_nil))))))
  (pss_one (ps_ret (pe_ix (ix_Z (K := K) hr.units) (pv 4) (pe_op op_mod (pv 3) pe_int) (fun _ _ => rfl)))))), ?_⟩
    exact ((RS.seq (RS.asg (RE.call .nil (RA.cons RE.var (RA.cons RE.var (RA.cons RE.var RA.nil))) (.cons (.cons (.cons Many.nil))) rfl) RG.name)
  (RS.seq (RS.asg (RE.lst (RA.cons (RE.o2 q_mod (RE.o2 q_div RE.var RE.cint) RE.cint) (RA.cons (RE.o2 q_mod (RE.o2 q_div RE.var RE.cint) RE.cint) (RA.cons (RE.o2 q_mod (RE.o2 q_add RE.var RE.var) (RE.o2 q_add (RE.o2 q_pow RE.cint RE.cint) RE.cint)) (RA.cons (RE.o2 q_sub (RE.o2 q_pow RE.cint RE.cint) (RE.o2 q_mod (RE.o2 q_div RE.var RE.cint) RE.cint)) RA.nil)))) (.cons (.cons (.cons (.cons Many.nil)))) (by decide)) RG.name)
  (RS.ret (RE.o2 q_ix RE.var (RE.o2 q_mod RE.var RE.cint))))))
noncomputable def b_Net_need_place : SD → R Fl :=
  (zIfS (zOr (zNot (zB (z1 (oIsi .str) (zVar 1)))) (zB (z2 (oIn true) (zVar 1) (z1 (oFld ["Net"] "names") (zVar 0))))) zNever zNext)
noncomputable def v_Net_need_place : FnV := zFn N_Net_need_place.length b_Net_need_place
theorem c_Net_need_place (T : Txt K mg CTie CNet) (D : Dm K CNet "need_place" "Net.need_place" s_Net_need_place ["self", "name"])  : MetZ P w K mg base 1 CNet "need_place" 2 v_Net_need_place [] :=
  metZ_of D sc_Net_need_place (by decide) rfl fun f cdv A outer s H E hr => by
    have hu := hu_of hr
    have tk := takes_of (X := cxOf (L2.CX P w) P w K mg base N_Net_need_place "Net.need_place" (L2.defScope s_Net_need_place) f cdv A outer s H E) rfl rfl rfl rfl
    refine ⟨_, (pss_one (ps_if (PW.pt (pw_or (pt_not (pt_val (pe_callB (m_isi (K := K)) rfl T.z_isinstance (by decide +kernel) (pa_cons (pv 1) (pa_cons (pe_bltn (v := .ty "str") rfl T.z_str (by decide +kernel) rfl) pa_nil))))) (pw_or1 (pt_cmpR (op_notinZ (K := K) hr.units) (pv 1) (m_fldZ (K := K) (pv 0)) (by rfl))))) (pss_one ps_never) pss_nil)), ?_⟩
    exact ((RS.ifS (RT.or (RT.not (RT.val (RE.isi (t := .str) RE.var))) (RT.val (RE.o2 (q_in (neg := true)) RE.var (RE.fld T.f_names_Net RE.var)))) RS.never RS.next))
noncomputable def b_is_whole : SD → R Fl :=
  (zRet (zAndV (z1 (oIsi .int) (zVar 0)) (zNotV (z1 (oIsi .bool) (zVar 0)))))
noncomputable def v_is_whole : FnV := zFn N_is_whole.length b_is_whole
theorem c_is_whole (T : Txt K mg CTie CNet) (D : Df K mg "is_whole" s_is_whole ["thing"])  : CalZ P w K mg base 1 "is_whole" 1 v_is_whole [] :=
  calZ_of D sc_is_whole (by decide) rfl fun f cdv A outer s H E hr => by
    have hu := hu_of hr
    have tk := takes_of (X := cxOf (L2.CX P w) P w K mg base N_is_whole "is_whole" (L2.defScope s_is_whole) f cdv A outer s H E) rfl rfl rfl rfl
    refine ⟨_, (pss_one (ps_ret (pe_and (pe_callB (m_isi (K := K)) rfl T.z_isinstance (by decide +kernel) (pa_cons (pv 0) (pa_cons (pe_bltn (v := .ty "int") rfl T.z_int (by decide +kernel) rfl) pa_nil))) (pe_one (pe_not (pe_callB (m_isi (K := K)) rfl T.z_isinstance (by decide +kernel) (pa_cons (pv 0) (pa_cons (pe_bltn (v := .ty "bool") rfl T.z_bool (by decide +kernel) rfl) pa_nil)))))))), ?_⟩
    exact ((RS.ret (RE.andV (RE.isi (t := .int) RE.var) (RE.notV (RE.isi (t := .bool) RE.var)))))
noncomputable def b_is_among : SD → R Fl :=
  (zRet (zAndV (zCall v_is_whole [] (zA (zVar 0) zA0)) (zChain oLe oLe (zVar 1) (zVar 0) (zVar 2))))
noncomputable def v_is_among : FnV := zFn N_is_among.length b_is_among
theorem c_is_among (T : Txt K mg CTie CNet) (D : Df K mg "is_among" s_is_among ["thing", "least", "most"]) (c_is_whole : CalZ P w K mg base 1 "is_whole" 1 v_is_whole []) : CalZ P w K mg base 2 "is_among" 3 v_is_among [] :=
  calZ_of D sc_is_among (by decide) rfl fun f cdv A outer s H E hr => by
    have hu := hu_of hr
    have tk := takes_of (X := cxOf (L2.CX P w) P w K mg base N_is_among "is_among" (L2.defScope s_is_among) f cdv A outer s H E) rfl rfl rfl rfl
    refine ⟨_, (pss_one (ps_ret (pe_and (m_cZ c_is_whole hr (by decide) tk rfl (pa_cons (pv 0) pa_nil)) (pe_one (pe_chain op_le op_le (pv 1) (pv 0) (pv 2)))))), ?_⟩
    exact ((RS.ret (RE.andV (RE.call .nil (RA.cons RE.var RA.nil) (.cons Many.nil) rfl) (RE.chain q_le q_le RE.var RE.var RE.var))))
noncomputable def b_need_room : SD → R Fl :=
  (zIfS (zOr (zNot (zB (zCall v_is_among [] (zA (zVar 0) (zA (zC (.int 0)) (zA (zC (.int 1000000000000000000000000000000000000000000000000000000000000)) zA0)))))) (zAnd (zB (z2 (oIsN true) (zVar 1) (zC .non))) (zNot (zB (zCall v_is_among [] (zA (zVar 1) (zA (zVar 0) (zA (zC (.int 1000000000000000000000000000000000000000000000000000000000000)) zA0)))))))) zNever zNext)
noncomputable def v_need_room : FnV := zFn N_need_room.length b_need_room
theorem c_need_room (T : Txt K mg CTie CNet) (D : Df K mg "need_room" s_need_room ["least", "most"]) (c_is_among : CalZ P w K mg base 2 "is_among" 3 v_is_among []) : CalZ P w K mg base 3 "need_room" 2 v_need_room [] :=
  calZ_of D sc_need_room (by decide) rfl fun f cdv A outer s H E hr => by
    have hu := hu_of hr
    have tk := takes_of (X := cxOf (L2.CX P w) P w K mg base N_need_room "need_room" (L2.defScope s_need_room) f cdv A outer s H E) rfl rfl rfl rfl
    refine ⟨_, (pss_one (ps_if (PW.pt (pw_or (pt_not (pt_val (m_cZ c_is_among hr (by decide) tk rfl (pa_cons (pv 0) (pa_cons pe_int (pa_cons (pe_gc rfl T.g_MOST) pa_nil)))))) (pw_or1 (PW.pt (pw_and (pt_cmpR op_isnotZ (pv 1) pe_non (nomark _)) (pw_and1 (pt_not (pt_val (m_cZ c_is_among hr (by decide) tk rfl (pa_cons (pv 1) (pa_cons (pv 0) (pa_cons (pe_gc rfl T.g_MOST) pa_nil)))))))))))) (pss_one ps_never) pss_nil)), ?_⟩
    exact ((RS.ifS (RT.or (RT.not (RT.val (RE.call .nil (RA.cons RE.var (RA.cons RE.cint (RA.cons RE.cint RA.nil))) (.cons (.cons (.cons Many.nil))) rfl))) (RT.and (RT.val (RE.o2 (q_isN (neg := true)) RE.var RE.cnon)) (RT.not (RT.val (RE.call .nil (RA.cons RE.var (RA.cons RE.var (RA.cons RE.cint RA.nil))) (.cons (.cons (.cons Many.nil))) rfl))))) RS.never RS.next))
noncomputable def b_need_price : SD → R Fl :=
  (zIfS (zNot (zB (zCall v_is_among [] (zA (zVar 0) (zA (z2 oSub (zC (.int 0)) (zC (.int 1000000000000000000000000000000000000000000000000000000000000))) (zA (zC (.int 1000000000000000000000000000000000000000000000000000000000000)) zA0)))))) zNever zNext)
noncomputable def v_need_price : FnV := zFn N_need_price.length b_need_price
theorem c_need_price (T : Txt K mg CTie CNet) (D : Df K mg "need_price" s_need_price ["price"]) (c_is_among : CalZ P w K mg base 2 "is_among" 3 v_is_among []) : CalZ P w K mg base 3 "need_price" 1 v_need_price [] :=
  calZ_of D sc_need_price (by decide) rfl fun f cdv A outer s H E hr => by
    have hu := hu_of hr
    have tk := takes_of (X := cxOf (L2.CX P w) P w K mg base N_need_price "need_price" (L2.defScope s_need_price) f cdv A outer s H E) rfl rfl rfl rfl
    refine ⟨_, (pss_one (ps_if (pt_not (pt_val (m_cZ c_is_among hr (by decide) tk rfl (pa_cons (pv 0) (pa_cons (pe_op op_sub pe_int (pe_gc rfl T.g_MOST)) (pa_cons (pe_gc rfl T.g_MOST) pa_nil)))))) (pss_one ps_never) pss_nil)), ?_⟩
    exact ((RS.ifS (RT.not (RT.val (RE.call .nil (RA.cons RE.var (RA.cons (RE.o2 q_sub RE.cint RE.cint) (RA.cons RE.cint RA.nil))) (.cons (.cons (.cons Many.nil))) rfl))) RS.never RS.next))
noncomputable def b_Tie_init : SD → R Fl :=
  (zSeq (zSFld ["Tie"] "number" (zVar 0) (zVar 1))
  (zSeq (zSFld ["Tie"] "tail" (zVar 0) (zVar 2))
  (zSeq (zSFld ["Tie"] "head" (zVar 0) (zVar 3))
  (zSeq (zSFld ["Tie"] "least" (zVar 0) (zVar 4))
  (zSeq (zSFld ["Tie"] "most" (zVar 0) (zVar 5))
  (zSFld ["Tie"] "price" (zVar 0) (zVar 6)))))))
noncomputable def v_Tie_init : FnV := zFn N_Tie_init.length b_Tie_init
theorem c_Tie_init (T : Txt K mg CTie CNet) (D : Dk K mg "Tie" CTie "Tie.__init__" s_Tie_init ["self", "number", "tail", "head", "least", "most", "price"])  : MakZ P w K mg base 1 "Tie" CTie 7 v_Tie_init [] :=
  makZ_of D sc_Tie_init (by decide) rfl fun f cdv A outer s H E hr => by
    have hu := hu_of hr
    have tk := takes_of (X := cxOf (L2.CX P w) P w K mg base N_Tie_init "Tie.__init__" (L2.defScope s_Tie_init) f cdv A outer s H E) rfl rfl rfl rfl
    refine ⟨_, (pss_cons (ps_fld (pv 0) (pv 1) rfl)
  (pss_cons (ps_fld (pv 0) (pv 2) rfl)
  (pss_cons (ps_fld (pv 0) (pv 3) rfl)
  (pss_cons (ps_fld (pv 0) (pv 4) rfl)
  (pss_cons (ps_fld (pv 0) (pv 5) rfl)
  (pss_one (ps_fld (pv 0) (pv 6) rfl))))))), ?_⟩
    exact ((RS.seq (RS.fld T.f_number_Tie RE.var RE.var)
  (RS.seq (RS.fld T.f_tail_Tie RE.var RE.var)
  (RS.seq (RS.fld T.f_head_Tie RE.var RE.var)
  (RS.seq (RS.fld T.f_least_Tie RE.var RE.var)
  (RS.seq (RS.fld T.f_most_Tie RE.var RE.var)
  (RS.fld T.f_price_Tie RE.var RE.var)))))))
noncomputable def b_Net_put_numbered : SD → R Fl :=
  (zSeq (zDrop (zMeth "Net" "need_place" v_Net_need_place [] (zVar 0) (zA (zVar 2) zA0)))
  (zSeq (zDrop (zMeth "Net" "need_place" v_Net_need_place [] (zVar 0) (zA (zVar 3) zA0)))
  (zSeq (zIfS (zB (z2 oEq (zVar 2) (zVar 3))) zNever zNext)
  (zSeq (zDrop (zCall v_need_room [] (zA (zVar 4) (zA (zVar 5) zA0))))
  (zSeq (zDrop (zCall v_need_price [] (zA (zVar 6) zA0)))
  (zSeq (zIfS (zB (z2 oEq (z1 oLen (z1 (oFld ["Net"] "rows") (zVar 0))) (zC (.int 40)))) zNever zNext)
  (zSeq (zDput (z1 (oFld ["Net"] "rows") (zVar 0)) (zVar 1) (zFrz (zMake "Tie" v_Tie_init [] (zA (zVar 1) (zA (zVar 2) (zA (zVar 3) (zA (zVar 4) (zA (zVar 5) (zA (zVar 6) zA0)))))))))
  (zSeq (zSFld ["Net"] "last_given" (zVar 0) (zVar 1))
  (zRet (zVar 1))))))))))
noncomputable def v_Net_put_numbered : FnV := zFn N_Net_put_numbered.length b_Net_put_numbered
theorem c_Net_put_numbered (T : Txt K mg CTie CNet) (D : Dm K CNet "put_numbered" "Net.put_numbered" s_Net_put_numbered ["self", "number", "tail", "head", "least", "most", "price"]) (c_Net_need_place : MetZ P w K mg base 1 CNet "need_place" 2 v_Net_need_place []) (c_Tie_init : MakZ P w K mg base 1 "Tie" CTie 7 v_Tie_init []) (c_need_price : CalZ P w K mg base 3 "need_price" 1 v_need_price []) (c_need_room : CalZ P w K mg base 3 "need_room" 2 v_need_room []) : MetZ P w K mg base 4 CNet "put_numbered" 7 v_Net_put_numbered [] :=
  metZ_of D sc_Net_put_numbered (by decide) rfl fun f cdv A outer s H E hr => by
    have hu := hu_of hr
    have tk := takes_of (X := cxOf (L2.CX P w) P w K mg base N_Net_put_numbered "Net.put_numbered" (L2.defScope s_Net_put_numbered) f cdv A outer s H E) rfl rfl rfl rfl
    refine ⟨_, (pss_cons (ps_expr (m_mtZ c_Net_need_place hr (by decide) tk (pv 0) (pa_cons (pv 2) pa_nil)))
  (pss_cons (ps_expr (m_mtZ c_Net_need_place hr (by decide) tk (pv 0) (pa_cons (pv 3) pa_nil)))
  (pss_cons (ps_if (pt_cmpR (op_eqZ (K := K) hr.units) (pv 2) (pv 3) (nomark _)) (pss_one ps_never) pss_nil)
  (pss_cons (ps_expr (m_cZ c_need_room hr (by decide) tk rfl (pa_cons (pv 4) (pa_cons (pv 5) pa_nil))))
  (pss_cons (ps_expr (m_cZ c_need_price hr (by decide) tk rfl (pa_cons (pv 6) pa_nil)))
  (pss_cons (ps_if (pt_cmpR (op_eqZ (K := K) hr.units) (pe_callB (cl_lenZ (K := K)) rfl T.z_len (by decide +kernel) (pa_cons (m_fldZ (K := K) (pv 0)) pa_nil)) (pe_gc rfl T.g_MOST_TIES) (nomark _)) (pss_one ps_never) pss_nil)
  (pss_cons (ps_dput hu (m_fldZ (K := K) (pv 0)) (pv 1) (m_mkZ c_Tie_init hr (by decide) tk rfl (pa_cons (pv 1) (pa_cons (pv 2) (pa_cons (pv 3) (pa_cons (pv 4) (pa_cons (pv 5) (pa_cons (pv 6) pa_nil))))))) rfl)
  (pss_cons (ps_fld (pv 0) (pv 1) rfl)
  (pss_one (ps_ret (pv 1))))))))))), ?_⟩
    exact ((RS.seq (RS.drop (RE.meth T.m_Net .nil RE.var (RA.cons RE.var RA.nil) (.cons Many.nil) rfl))
  (RS.seq (RS.drop (RE.meth T.m_Net .nil RE.var (RA.cons RE.var RA.nil) (.cons Many.nil) rfl))
  (RS.seq (RS.ifS (RT.val (RE.o2 q_eq RE.var RE.var)) RS.never RS.next)
  (RS.seq (RS.drop (RE.call .nil (RA.cons RE.var (RA.cons RE.var RA.nil)) (.cons (.cons Many.nil)) rfl))
  (RS.seq (RS.drop (RE.call .nil (RA.cons RE.var RA.nil) (.cons Many.nil) rfl))
  (RS.seq (RS.ifS (RT.val (RE.o2 q_eq (RE.c1 q_len (RE.fld T.f_rows_Net RE.var)) RE.cint)) RS.never RS.next)
  (RS.seq (RS.dput (RE.fld T.f_rows_Net RE.var) RE.var (RE.frz (RE.make T.m_Tie .nil (RA.cons RE.var (RA.cons RE.var (RA.cons RE.var (RA.cons RE.var (RA.cons RE.var (RA.cons RE.var RA.nil)))))) (.cons (.cons (.cons (.cons (.cons (.cons Many.nil)))))) rfl)))
  (RS.seq (RS.fld T.f_last_given_Net RE.var RE.var)
  (RS.ret RE.var))))))))))
noncomputable def b_Net_put_tie : SD → R Fl :=
  (zRet (zMeth "Net" "put_numbered" v_Net_put_numbered [] (zVar 0) (zA (z2 oAdd (z1 (oFld ["Net"] "last_given") (zVar 0)) (zC (.int 1))) (zA (zVar 1) (zA (zVar 2) (zA (zVar 3) (zA (zVar 4) (zA (zVar 5) zA0))))))))
noncomputable def v_Net_put_tie : FnV := zFn N_Net_put_tie.length b_Net_put_tie
theorem c_Net_put_tie (T : Txt K mg CTie CNet) (D : Dmd K CNet "put_tie" "Net.put_tie" s_Net_put_tie ["self", "tail", "head", "least", "most", "price"] [.int 0, .non, .int 0]) (c_Net_put_numbered : MetZ P w K mg base 4 CNet "put_numbered" 7 v_Net_put_numbered []) : ∀ (j : Nat) (hj : j ≤ ([.int 0, .non, .int 0] : List V).length), MetZ P w K mg base 5 CNet "put_tie" 6 v_Net_put_tie (([.int 0, .non, .int 0] : List V).drop j) :=
  metZd_of D sc_Net_put_tie (by decide) rfl fun f cdv A outer s H E hr => by
    have hu := hu_of hr
    have tk := takes_of (X := cxOf (L2.CX P w) P w K mg base N_Net_put_tie "Net.put_tie" (L2.defScope s_Net_put_tie) f cdv A outer s H E) rfl rfl rfl rfl
    refine ⟨_, (pss_one (ps_ret (m_mtZ c_Net_put_numbered hr (by decide) tk (pv 0) (pa_cons (pe_op (op_addZ (K := K)) (m_fldZ (K := K) (pv 0)) pe_int) (pa_cons (pv 1) (pa_cons (pv 2) (pa_cons (pv 3) (pa_cons (pv 4) (pa_cons (pv 5) pa_nil))))))))), ?_⟩
    exact ((RS.ret (RE.meth T.m_Net .nil RE.var (RA.cons (RE.o2 q_add (RE.fld T.f_last_given_Net RE.var) RE.cint) (RA.cons RE.var (RA.cons RE.var (RA.cons RE.var (RA.cons RE.var (RA.cons RE.var RA.nil)))))) (.cons (.cons (.cons (.cons (.cons (.cons Many.nil)))))) rfl)))
noncomputable def b_Lput_tie : SD → R Fl :=
  (zSeq (zAsg (z2 oIx (zVar 1) (zC (.str "names"))) (zSt 4))
  (zSeq (zAsg (zCall v_Ldraw [] (zA (zVar 2) (zA (zVar 3) (zA (zC (.int 2)) zA0)))) (zSt 5))
  (zSeq (zAsg (z2 oIx (zVar 4) (z2 oMod (zVar 5) (z1 oLen (zVar 4)))) (zSt 6))
  (zSeq (zAsg (z2 oIx (zVar 4) (z2 oMod (z2 oAdd (z2 oAdd (zVar 5) (zC (.int 1))) (z2 oMod (z2 oDiv (zVar 5) (zC (.int 14))) (z2 oSub (z1 oLen (zVar 4)) (zC (.int 1))))) (z1 oLen (zVar 4)))) (zSt 7))
  (zSeq (zAsg (z2 oIx (zLst (zA (zC (.int 0)) (zA (zC (.int 0)) (zA (zCall v_Lamount [] (zA (zVar 2) (zA (zVar 3) (zA (zC (.int 3)) zA0)))) zA0)))) (z2 oMod (z2 oDiv (zVar 5) (zC (.int 200))) (zC (.int 3)))) (zSt 8))
  (zSeq (zAsg (z2 oIx (zLst (zA (zC .non) (zA (z2 oPow (zC (.int 10)) (zC (.int 60))) (zA (z2 oMin (z2 oPow (zC (.int 10)) (zC (.int 60))) (z2 oAdd (zVar 8) (zCall v_Lamount [] (zA (zVar 2) (zA (zVar 3) (zA (zC (.int 4)) zA0)))))) zA0)))) (z2 oMod (z2 oDiv (zVar 5) (zC (.int 600))) (zC (.int 3)))) (zSt 9))
  (zSeq (zAsg (z2 oMul (zCall v_Lamount [] (zA (zVar 2) (zA (zVar 3) (zA (zC (.int 5)) zA0)))) (z2 oIx (zLst (zA (zC (.int 1)) (zA (z1 oNeg (zC (.int 1))) zA0))) (z2 oMod (z2 oDiv (zVar 5) (zC (.int 1800))) (zC (.int 2))))) (zSt 10))
  (zSeq (zIfS (zB (z2 oEq (z2 oMod (z2 oDiv (zVar 5) (zC (.int 3600))) (zC (.int 4))) (zC (.int 0)))) (zSeq (zAsg (zTup (zA (zC (.int 0)) (zA (zC .non) (zA (zC (.int 0)) zA0)))) (zUnp [8, 9, 10]))
  (zAsg (zMeth "Net" "put_tie" v_Net_put_tie [.int 0, .non, .int 0] (zVar 0) (zA (zVar 6) (zA (zVar 7) zA0))) (zSt 11))) (zIfS (zB (z2 oEq (z2 oMod (z2 oDiv (zVar 5) (zC (.int 3600))) (zC (.int 4))) (zC (.int 1)))) (zSeq (zAsg (zC (.int 0)) (zSt 10))
  (zAsg (zMeth "Net" "put_tie" v_Net_put_tie [.int 0] (zVar 0) (zA (zVar 6) (zA (zVar 7) (zA (zVar 8) (zA (zVar 9) zA0))))) (zSt 11))) (zAsg (zMeth "Net" "put_tie" v_Net_put_tie [] (zVar 0) (zA (zVar 6) (zA (zVar 7) (zA (zVar 8) (zA (zVar 9) (zA (zVar 10) zA0)))))) (zSt 11))))
  (zSeq (zDput (zVar 1) (zC (.str "given")) (z2 oAdd (z2 oIx (zVar 1) (zC (.str "given"))) (zC (.int 1))))
  (zSeq (zDput (z2 oIx (zVar 1) (zC (.str "ties"))) (z2 oIx (zVar 1) (zC (.str "given"))) (zTup (zA (zVar 6) (zA (zVar 7) (zA (zVar 8) (zA (zVar 9) (zA (zVar 10) zA0)))))))
  (zRet (zCall v_Lwhole [] (zA (zVar 11) (zA (z2 oIx (zVar 1) (zC (.str "given"))) zA0))))))))))))))
noncomputable def v_Lput_tie : FnV := zFn N_Lput_tie.length b_Lput_tie
theorem c_Lput_tie (T : Txt K mg CTie CNet) (D : Df K mg "_law_put_tie" s_Lput_tie ["_law_net", "_law_model", "_law_cell", "_law_k"]) (c_Net_put_tie : ∀ (j : Nat) (hj : j ≤ ([.int 0, .non, .int 0] : List V).length), MetZ P w K mg base 5 CNet "put_tie" 6 v_Net_put_tie (([.int 0, .non, .int 0] : List V).drop j)) (c_Lamount : CalZ P w K mg base 2 "_law_amount" 3 v_Lamount []) (c_Ldraw : CalZ P w K mg base 1 "_law_draw" 3 v_Ldraw []) (c_Lwhole : CalZ P w K mg base 1 "_law_whole" 2 v_Lwhole []) : CalZ P w K mg base 6 "_law_put_tie" 4 v_Lput_tie [] :=
  calZ_of D sc_Lput_tie (by decide) rfl fun f cdv A outer s H E hr => by
    have hu := hu_of hr
    have tk := takes_of (X := cxOf (L2.CX P w) P w K mg base N_Lput_tie "_law_put_tie" (L2.defScope s_Lput_tie) f cdv A outer s H E) rfl rfl rfl rfl
    refine ⟨_, (pss_cons (ps_set (i := 4) sc_Lput_tie.nd rfl (Or.inl rfl) (pe_ix (ix_Z (K := K) hr.units) (pv 1) pe_str (fun _ _ => rfl)))
  (pss_cons (ps_set (i := 5) sc_Lput_tie.nd rfl (Or.inl rfl) (m_cZ c_Ldraw hr (by decide) tk rfl (pa_cons (pv 2) (pa_cons (pv 3) (pa_cons pe_int pa_nil)))))
  (pss_cons (ps_set (i := 6) sc_Lput_tie.nd rfl (Or.inl rfl) (pe_ix (ix_Z (K := K) hr.units) (pv 4) (pe_op op_mod (pv 5) (pe_callB (cl_lenZ (K := K)) rfl T.z_len (by decide +kernel) (pa_cons (pv 4) pa_nil))) (fun _ _ => rfl)))
  (pss_cons (ps_set (i := 7) sc_Lput_tie.nd rfl (Or.inl rfl) (pe_ix (ix_Z (K := K) hr.units) (pv 4) (pe_op op_mod (pe_op (op_addZ (K := K)) (pe_op (op_addZ (K := K)) (pv 5) pe_int) (pe_op op_mod (pe_op op_fdivW (pv 5) pe_int) (pe_op op_sub (pe_callB (cl_lenZ (K := K)) rfl T.z_len (by decide +kernel) (pa_cons (pv 4) pa_nil)) pe_int))) (pe_callB (cl_lenZ (K := K)) rfl T.z_len (by decide +kernel) (pa_cons (pv 4) pa_nil))) (fun _ _ => rfl)))
  (pss_cons (ps_set (i := 8) sc_Lput_tie.nd rfl (Or.inl rfl) (pe_ix (ix_Z (K := K) hr.units) (pe_lst (pa_cons pe_int (pa_cons pe_int (pa_cons (m_cZ c_Lamount hr (by decide) tk rfl (pa_cons (pv 2) (pa_cons (pv 3) (pa_cons pe_int pa_nil)))) pa_nil)))) (pe_op op_mod (pe_op op_fdivW (pv 5) pe_int) pe_int) (fun _ _ => rfl)))
  (pss_cons (ps_set (i := 9) sc_Lput_tie.nd rfl (Or.inl rfl) (pe_ix (ix_Z (K := K) hr.units) (pe_lst (pa_cons pe_non (pa_cons (pe_op op_powW pe_int pe_int) (pa_cons (pe_callB (cl_min2 rfl) rfl T.z_min (by decide +kernel) (pa_cons (pe_op op_powW pe_int pe_int) (pa_cons (pe_op (op_addZ (K := K)) (pv 8) (m_cZ c_Lamount hr (by decide) tk rfl (pa_cons (pv 2) (pa_cons (pv 3) (pa_cons pe_int pa_nil))))) pa_nil))) pa_nil)))) (pe_op op_mod (pe_op op_fdivW (pv 5) pe_int) pe_int) (fun _ _ => rfl)))
  (pss_cons (ps_set (i := 10) sc_Lput_tie.nd rfl (Or.inl rfl) (pe_op op_mulZ (m_cZ c_Lamount hr (by decide) tk rfl (pa_cons (pv 2) (pa_cons (pv 3) (pa_cons pe_int pa_nil)))) (pe_ix (ix_Z (K := K) hr.units) (pe_lst (pa_cons pe_int (pa_cons (pe_un un_neg pe_int) pa_nil))) (pe_op op_mod (pe_op op_fdivW (pv 5) pe_int) pe_int) (fun _ _ => rfl))))
  (pss_cons (ps_if (pt_cmpR (op_eqZ (K := K) hr.units) (pe_op op_mod (pe_op op_fdivW (pv 5) pe_int) pe_int) pe_int (nomark _)) (pss_cons (ps_asg (pe_tup (pa_cons pe_int (pa_cons pe_non (pa_cons pe_int pa_nil)))) (m_gtup (K := K) (n := 3) rfl (pgs_cons (pg_name (i := 8) sc_Lput_tie.nd rfl (Or.inl rfl)) (pgs_cons (pg_name (i := 9) sc_Lput_tie.nd rfl (Or.inl rfl)) (pgs_cons (pg_name (i := 10) sc_Lput_tie.nd rfl (Or.inl rfl)) pgs_nil)))))
  (pss_one (ps_set (i := 11) sc_Lput_tie.nd rfl (Or.inl rfl) (m_mtZ (c_Net_put_tie 0 (by decide)) hr (by decide) tk (pv 0) (pa_cons (pv 6) (pa_cons (pv 7) pa_nil)))))) (pss_one (ps_if (pt_cmpR (op_eqZ (K := K) hr.units) (pe_op op_mod (pe_op op_fdivW (pv 5) pe_int) pe_int) pe_int (nomark _)) (pss_cons (ps_set (i := 10) sc_Lput_tie.nd rfl (Or.inl rfl) pe_int)
  (pss_one (ps_set (i := 11) sc_Lput_tie.nd rfl (Or.inl rfl) (m_mtZ (c_Net_put_tie 2 (by decide)) hr (by decide) tk (pv 0) (pa_cons (pv 6) (pa_cons (pv 7) (pa_cons (pv 8) (pa_cons (pv 9) pa_nil)))))))) (pss_one (ps_set (i := 11) sc_Lput_tie.nd rfl (Or.inl rfl) (m_mtZ (c_Net_put_tie 3 (by decide)) hr (by decide) tk (pv 0) (pa_cons (pv 6) (pa_cons (pv 7) (pa_cons (pv 8) (pa_cons (pv 9) (pa_cons (pv 10) pa_nil)))))))))))
  (pss_cons (ps_dput hu (pv 1) pe_str (pe_op (op_addZ (K := K)) (pe_ix (ix_Z (K := K) hr.units) (pv 1) pe_str (fun _ _ => rfl)) pe_int) rfl)
  (pss_cons (ps_dput hu (pe_ix (ix_Z (K := K) hr.units) (pv 1) pe_str (fun _ _ => rfl)) (pe_ix (ix_Z (K := K) hr.units) (pv 1) pe_str (fun _ _ => rfl)) (pe_tup (pa_cons (pv 6) (pa_cons (pv 7) (pa_cons (pv 8) (pa_cons (pv 9) (pa_cons (pv 10) pa_nil)))))) rfl)
  (pss_one (ps_ret (m_cZ c_Lwhole hr (by decide) tk rfl (pa_cons (pv 11) (pa_cons (pe_ix (ix_Z (K := K) hr.units) (pv 1) pe_str (fun _ _ => rfl)) pa_nil))))))))))))))), ?_⟩
    exact ((RS.seq (RS.asg (RE.o2 q_ix RE.var RE.cstr) RG.name)
  (RS.seq (RS.asg (RE.call .nil (RA.cons RE.var (RA.cons RE.var (RA.cons RE.cint RA.nil))) (.cons (.cons (.cons Many.nil))) rfl) RG.name)
  (RS.seq (RS.asg (RE.o2 q_ix RE.var (RE.o2 q_mod RE.var (RE.c1 q_len RE.var))) RG.name)
  (RS.seq (RS.asg (RE.o2 q_ix RE.var (RE.o2 q_mod (RE.o2 q_add (RE.o2 q_add RE.var RE.cint) (RE.o2 q_mod (RE.o2 q_div RE.var RE.cint) (RE.o2 q_sub (RE.c1 q_len RE.var) RE.cint))) (RE.c1 q_len RE.var))) RG.name)
  (RS.seq (RS.asg (RE.o2 q_ix (RE.lst (RA.cons RE.cint (RA.cons RE.cint (RA.cons (RE.call .nil (RA.cons RE.var (RA.cons RE.var (RA.cons RE.cint RA.nil))) (.cons (.cons (.cons Many.nil))) rfl) RA.nil))) (.cons (.cons (.cons Many.nil))) (by decide)) (RE.o2 q_mod (RE.o2 q_div RE.var RE.cint) RE.cint)) RG.name)
  (RS.seq (RS.asg (RE.o2 q_ix (RE.lst (RA.cons RE.cnon (RA.cons (RE.o2 q_pow RE.cint RE.cint) (RA.cons (RE.c2 q_min (RE.o2 q_pow RE.cint RE.cint) (RE.o2 q_add RE.var (RE.call .nil (RA.cons RE.var (RA.cons RE.var (RA.cons RE.cint RA.nil))) (.cons (.cons (.cons Many.nil))) rfl))) RA.nil))) (.cons (.cons (.cons Many.nil))) (by decide)) (RE.o2 q_mod (RE.o2 q_div RE.var RE.cint) RE.cint)) RG.name)
  (RS.seq (RS.asg (RE.o2 q_mul (RE.call .nil (RA.cons RE.var (RA.cons RE.var (RA.cons RE.cint RA.nil))) (.cons (.cons (.cons Many.nil))) rfl) (RE.o2 q_ix (RE.lst (RA.cons RE.cint (RA.cons (RE.neg RE.cint) RA.nil)) (.cons (.cons Many.nil)) (by decide)) (RE.o2 q_mod (RE.o2 q_div RE.var RE.cint) RE.cint))) RG.name)
  (RS.seq (RS.ifS (RT.val (RE.o2 q_eq (RE.o2 q_mod (RE.o2 q_div RE.var RE.cint) RE.cint) RE.cint)) (RS.seq (RS.asg (RE.tup (RA.cons RE.cint (RA.cons RE.cnon (RA.cons RE.cint RA.nil))) (.cons (.cons (.cons Many.nil))) (by decide)) (RG.names (is := [8, 9, 10]) rfl))
  (RS.asg (RE.meth T.m_Net (.cons rfl (.cons rfl (.cons rfl .nil))) RE.var (RA.cons RE.var (RA.cons RE.var RA.nil)) (.cons (.cons Many.nil)) rfl) RG.name)) (RS.ifS (RT.val (RE.o2 q_eq (RE.o2 q_mod (RE.o2 q_div RE.var RE.cint) RE.cint) RE.cint)) (RS.seq (RS.asg RE.cint RG.name)
  (RS.asg (RE.meth T.m_Net (.cons rfl .nil) RE.var (RA.cons RE.var (RA.cons RE.var (RA.cons RE.var (RA.cons RE.var RA.nil)))) (.cons (.cons (.cons (.cons Many.nil)))) rfl) RG.name)) (RS.asg (RE.meth T.m_Net .nil RE.var (RA.cons RE.var (RA.cons RE.var (RA.cons RE.var (RA.cons RE.var (RA.cons RE.var RA.nil))))) (.cons (.cons (.cons (.cons (.cons Many.nil))))) rfl) RG.name)))
  (RS.seq (RS.dput RE.var RE.cstr (RE.o2 q_add (RE.o2 q_ix RE.var RE.cstr) RE.cint))
  (RS.seq (RS.dput (RE.o2 q_ix RE.var RE.cstr) (RE.o2 q_ix RE.var RE.cstr) (RE.tup (RA.cons RE.var (RA.cons RE.var (RA.cons RE.var (RA.cons RE.var (RA.cons RE.var RA.nil))))) (.cons (.cons (.cons (.cons (.cons Many.nil))))) (by decide)))
  (RS.ret (RE.call .nil (RA.cons RE.var (RA.cons (RE.o2 q_ix RE.var RE.cstr) RA.nil)) (.cons (.cons Many.nil)) rfl)))))))))))))
noncomputable def b_Net_tie_of : SD → R Fl :=
  (zSeq (zIfS (zOr (zNot (zB (zCall v_is_whole [] (zA (zVar 1) zA0)))) (zB (z2 (oIn true) (zVar 1) (z1 (oFld ["Net"] "rows") (zVar 0))))) zNever zNext)
  (zRet (z2 oIx (z1 (oFld ["Net"] "rows") (zVar 0)) (zVar 1))))
noncomputable def v_Net_tie_of : FnV := zFn N_Net_tie_of.length b_Net_tie_of
theorem c_Net_tie_of (T : Txt K mg CTie CNet) (D : Dm K CNet "tie_of" "Net.tie_of" s_Net_tie_of ["self", "number"]) (c_is_whole : CalZ P w K mg base 1 "is_whole" 1 v_is_whole []) : MetZ P w K mg base 2 CNet "tie_of" 2 v_Net_tie_of [] :=
  metZ_of D sc_Net_tie_of (by decide) rfl fun f cdv A outer s H E hr => by
    have hu := hu_of hr
    have tk := takes_of (X := cxOf (L2.CX P w) P w K mg base N_Net_tie_of "Net.tie_of" (L2.defScope s_Net_tie_of) f cdv A outer s H E) rfl rfl rfl rfl
    refine ⟨_, (pss_cons (ps_if (PW.pt (pw_or (pt_not (pt_val (m_cZ c_is_whole hr (by decide) tk rfl (pa_cons (pv 1) pa_nil)))) (pw_or1 (pt_cmpR (op_notinZ (K := K) hr.units) (pv 1) (m_fldZ (K := K) (pv 0)) (by rfl))))) (pss_one ps_never) pss_nil)
  (pss_one (ps_ret (pe_ix (ix_Z (K := K) hr.units) (m_fldZ (K := K) (pv 0)) (pv 1) (fun _ _ => rfl))))), ?_⟩
    exact ((RS.seq (RS.ifS (RT.or (RT.not (RT.val (RE.call .nil (RA.cons RE.var RA.nil) (.cons Many.nil) rfl))) (RT.val (RE.o2 (q_in (neg := true)) RE.var (RE.fld T.f_rows_Net RE.var)))) RS.never RS.next)
  (RS.ret (RE.o2 q_ix (RE.fld T.f_rows_Net RE.var) RE.var))))
noncomputable def b_Net_drop_tie : SD → R Fl :=
  (zSeq (zDrop (zMeth "Net" "tie_of" v_Net_tie_of [] (zVar 0) (zA (zVar 1) zA0)))
  (zDrop (zM2 isDc (oB2 fDpop) (z1 (oFld ["Net"] "rows") (zVar 0)) (zVar 1))))
noncomputable def v_Net_drop_tie : FnV := zFn N_Net_drop_tie.length b_Net_drop_tie
theorem c_Net_drop_tie (T : Txt K mg CTie CNet) (D : Dm K CNet "drop_tie" "Net.drop_tie" s_Net_drop_tie ["self", "number"]) (c_Net_tie_of : MetZ P w K mg base 2 CNet "tie_of" 2 v_Net_tie_of []) : MetZ P w K mg base 3 CNet "drop_tie" 2 v_Net_drop_tie [] :=
  metZ_of D sc_Net_drop_tie (by decide) rfl fun f cdv A outer s H E hr => by
    have hu := hu_of hr
    have tk := takes_of (X := cxOf (L2.CX P w) P w K mg base N_Net_drop_tie "Net.drop_tie" (L2.defScope s_Net_drop_tie) f cdv A outer s H E) rfl rfl rfl rfl
    refine ⟨_, (pss_cons (ps_expr (m_mtZ c_Net_tie_of hr (by decide) tk (pv 0) (pa_cons (pv 1) pa_nil)))
  (pss_one (ps_expr (pe_dpop1 (m_fldZ (K := K) (pv 0)) (pv 1) ⟨rfl, rfl, rfl, rfl⟩)))), ?_⟩
    exact ((RS.seq (RS.drop (RE.meth T.m_Net .nil RE.var (RA.cons RE.var RA.nil) (.cons Many.nil) rfl))
  (RS.drop (RE.dpop (RE.fld T.f_rows_Net RE.var) RE.var))))
noncomputable def b_Net_set_room : SD → R Fl :=
  (zSeq (zAsg (zMeth "Net" "tie_of" v_Net_tie_of [] (zVar 0) (zA (zVar 1) zA0)) (zSt 4))
  (zSeq (zDrop (zCall v_need_room [] (zA (zVar 2) (zA (zVar 3) zA0))))
  (zDput (z1 (oFld ["Net"] "rows") (zVar 0)) (zVar 1) (zFrz (zMake "Tie" v_Tie_init [] (zA (zVar 1) (zA (z1 (oFld ["Tie"] "tail") (zVar 4)) (zA (z1 (oFld ["Tie"] "head") (zVar 4)) (zA (zVar 2) (zA (zVar 3) (zA (z1 (oFld ["Tie"] "price") (zVar 4)) zA0)))))))))))
noncomputable def v_Net_set_room : FnV := zFn N_Net_set_room.length b_Net_set_room
theorem c_Net_set_room (T : Txt K mg CTie CNet) (D : Dm K CNet "set_room" "Net.set_room" s_Net_set_room ["self", "number", "least", "most"]) (c_Net_tie_of : MetZ P w K mg base 2 CNet "tie_of" 2 v_Net_tie_of []) (c_Tie_init : MakZ P w K mg base 1 "Tie" CTie 7 v_Tie_init []) (c_need_room : CalZ P w K mg base 3 "need_room" 2 v_need_room []) : MetZ P w K mg base 4 CNet "set_room" 4 v_Net_set_room [] :=
  metZ_of D sc_Net_set_room (by decide) rfl fun f cdv A outer s H E hr => by
    have hu := hu_of hr
    have tk := takes_of (X := cxOf (L2.CX P w) P w K mg base N_Net_set_room "Net.set_room" (L2.defScope s_Net_set_room) f cdv A outer s H E) rfl rfl rfl rfl
    refine ⟨_, (pss_cons (ps_set (i := 4) sc_Net_set_room.nd rfl (Or.inl rfl) (m_mtZ c_Net_tie_of hr (by decide) tk (pv 0) (pa_cons (pv 1) pa_nil)))
  (pss_cons (ps_expr (m_cZ c_need_room hr (by decide) tk rfl (pa_cons (pv 2) (pa_cons (pv 3) pa_nil))))
  (pss_one (ps_dput hu (m_fldZ (K := K) (pv 0)) (pv 1) (m_mkZ c_Tie_init hr (by decide) tk rfl (pa_cons (pv 1) (pa_cons (m_fldZ (K := K) (pv 4)) (pa_cons (m_fldZ (K := K) (pv 4)) (pa_cons (pv 2) (pa_cons (pv 3) (pa_cons (m_fldZ (K := K) (pv 4)) pa_nil))))))) rfl)))), ?_⟩
    exact ((RS.seq (RS.asg (RE.meth T.m_Net .nil RE.var (RA.cons RE.var RA.nil) (.cons Many.nil) rfl) RG.name)
  (RS.seq (RS.drop (RE.call .nil (RA.cons RE.var (RA.cons RE.var RA.nil)) (.cons (.cons Many.nil)) rfl))
  (RS.dput (RE.fld T.f_rows_Net RE.var) RE.var (RE.frz (RE.make T.m_Tie .nil (RA.cons RE.var (RA.cons (RE.fld T.f_tail_Tie RE.var) (RA.cons (RE.fld T.f_head_Tie RE.var) (RA.cons RE.var (RA.cons RE.var (RA.cons (RE.fld T.f_price_Tie RE.var) RA.nil)))))) (.cons (.cons (.cons (.cons (.cons (.cons Many.nil)))))) rfl))))))
noncomputable def b_Net_set_price : SD → R Fl :=
  (zSeq (zAsg (zMeth "Net" "tie_of" v_Net_tie_of [] (zVar 0) (zA (zVar 1) zA0)) (zSt 3))
  (zSeq (zDrop (zCall v_need_price [] (zA (zVar 2) zA0)))
  (zDput (z1 (oFld ["Net"] "rows") (zVar 0)) (zVar 1) (zFrz (zMake "Tie" v_Tie_init [] (zA (zVar 1) (zA (z1 (oFld ["Tie"] "tail") (zVar 3)) (zA (z1 (oFld ["Tie"] "head") (zVar 3)) (zA (z1 (oFld ["Tie"] "least") (zVar 3)) (zA (z1 (oFld ["Tie"] "most") (zVar 3)) (zA (zVar 2) zA0)))))))))))
noncomputable def v_Net_set_price : FnV := zFn N_Net_set_price.length b_Net_set_price
theorem c_Net_set_price (T : Txt K mg CTie CNet) (D : Dm K CNet "set_price" "Net.set_price" s_Net_set_price ["self", "number", "price"]) (c_Net_tie_of : MetZ P w K mg base 2 CNet "tie_of" 2 v_Net_tie_of []) (c_Tie_init : MakZ P w K mg base 1 "Tie" CTie 7 v_Tie_init []) (c_need_price : CalZ P w K mg base 3 "need_price" 1 v_need_price []) : MetZ P w K mg base 4 CNet "set_price" 3 v_Net_set_price [] :=
  metZ_of D sc_Net_set_price (by decide) rfl fun f cdv A outer s H E hr => by
    have hu := hu_of hr
    have tk := takes_of (X := cxOf (L2.CX P w) P w K mg base N_Net_set_price "Net.set_price" (L2.defScope s_Net_set_price) f cdv A outer s H E) rfl rfl rfl rfl
    refine ⟨_, (pss_cons (ps_set (i := 3) sc_Net_set_price.nd rfl (Or.inl rfl) (m_mtZ c_Net_tie_of hr (by decide) tk (pv 0) (pa_cons (pv 1) pa_nil)))
  (pss_cons (ps_expr (m_cZ c_need_price hr (by decide) tk rfl (pa_cons (pv 2) pa_nil)))
  (pss_one (ps_dput hu (m_fldZ (K := K) (pv 0)) (pv 1) (m_mkZ c_Tie_init hr (by decide) tk rfl (pa_cons (pv 1) (pa_cons (m_fldZ (K := K) (pv 3)) (pa_cons (m_fldZ (K := K) (pv 3)) (pa_cons (m_fldZ (K := K) (pv 3)) (pa_cons (m_fldZ (K := K) (pv 3)) (pa_cons (pv 2) pa_nil))))))) rfl)))), ?_⟩
    exact ((RS.seq (RS.asg (RE.meth T.m_Net .nil RE.var (RA.cons RE.var RA.nil) (.cons Many.nil) rfl) RG.name)
  (RS.seq (RS.drop (RE.call .nil (RA.cons RE.var RA.nil) (.cons Many.nil) rfl))
  (RS.dput (RE.fld T.f_rows_Net RE.var) RE.var (RE.frz (RE.make T.m_Tie .nil (RA.cons RE.var (RA.cons (RE.fld T.f_tail_Tie RE.var) (RA.cons (RE.fld T.f_head_Tie RE.var) (RA.cons (RE.fld T.f_least_Tie RE.var) (RA.cons (RE.fld T.f_most_Tie RE.var) (RA.cons RE.var RA.nil)))))) (.cons (.cons (.cons (.cons (.cons (.cons Many.nil)))))) rfl))))))
noncomputable def b_Lchanged : SD → R Fl :=
  (zSeq (zAsg (zCall v_Ldraw [] (zA (zVar 2) (zA (zVar 3) (zA (zC (.int 6)) zA0)))) (zSt 5))
  (zSeq (zAsg (z2 oIx (z1 oSorted (z2 oIx (zVar 1) (zC (.str "ties")))) (z2 oMod (zVar 5) (z1 oLen (z2 oIx (zVar 1) (zC (.str "ties")))))) (zSt 6))
  (zSeq (zAsg (z2 oIx (z2 oIx (zVar 1) (zC (.str "ties"))) (zVar 6)) (zUnp [7, 8, 9, 10, 11]))
  (zSeq (zIfS (zB (z2 oEq (zVar 4) (zC (.int 0)))) (zSeq (zDrop (zM2 isDc (oB2 fDpop) (z2 oIx (zVar 1) (zC (.str "ties"))) (zVar 6)))
  (zRet (z2 (oIsN false) (zMeth "Net" "drop_tie" v_Net_drop_tie [] (zVar 0) (zA (zVar 6) zA0)) (zC .non)))) zNext)
  (zSeq (zIfS (zB (z2 oEq (zVar 4) (zC (.int 1)))) (zSeq (zAsg (zCall v_Lamount [] (zA (zVar 2) (zA (zVar 3) (zA (zC (.int 7)) zA0)))) (zSt 9))
  (zSeq (zAsg (z2 oIx (zLst (zA (zC .non) (zA (zVar 9) (zA (z2 oMin (z2 oPow (zC (.int 10)) (zC (.int 60))) (z2 oAdd (zVar 9) (zCall v_Lamount [] (zA (zVar 2) (zA (zVar 3) (zA (zC (.int 8)) zA0)))))) zA0)))) (z2 oMod (z2 oDiv (zVar 5) (zC (.int 40))) (zC (.int 3)))) (zSt 10))
  (zSeq (zDput (z2 oIx (zVar 1) (zC (.str "ties"))) (zVar 6) (zTup (zA (zVar 7) (zA (zVar 8) (zA (zVar 9) (zA (zVar 10) (zA (zVar 11) zA0)))))))
  (zRet (z2 (oIsN false) (zMeth "Net" "set_room" v_Net_set_room [] (zVar 0) (zA (zVar 6) (zA (zVar 9) (zA (zVar 10) zA0)))) (zC .non)))))) zNext)
  (zSeq (zAsg (z2 oMul (zCall v_Lamount [] (zA (zVar 2) (zA (zVar 3) (zA (zC (.int 9)) zA0)))) (z2 oIx (zLst (zA (zC (.int 1)) (zA (z1 oNeg (zC (.int 1))) zA0))) (z2 oMod (z2 oDiv (zVar 5) (zC (.int 120))) (zC (.int 2))))) (zSt 11))
  (zSeq (zDput (z2 oIx (zVar 1) (zC (.str "ties"))) (zVar 6) (zTup (zA (zVar 7) (zA (zVar 8) (zA (zVar 9) (zA (zVar 10) (zA (zVar 11) zA0)))))))
  (zRet (z2 (oIsN false) (zMeth "Net" "set_price" v_Net_set_price [] (zVar 0) (zA (zVar 6) (zA (zVar 11) zA0))) (zC .non))))))))))
noncomputable def v_Lchanged : FnV := zFn N_Lchanged.length b_Lchanged
theorem c_Lchanged (T : Txt K mg CTie CNet) (D : Df K mg "_law_changed" s_Lchanged ["_law_net", "_law_model", "_law_cell", "_law_k", "_law_way"]) (c_Net_drop_tie : MetZ P w K mg base 3 CNet "drop_tie" 2 v_Net_drop_tie []) (c_Net_set_price : MetZ P w K mg base 4 CNet "set_price" 3 v_Net_set_price []) (c_Net_set_room : MetZ P w K mg base 4 CNet "set_room" 4 v_Net_set_room []) (c_Lamount : CalZ P w K mg base 2 "_law_amount" 3 v_Lamount []) (c_Ldraw : CalZ P w K mg base 1 "_law_draw" 3 v_Ldraw []) : CalZ P w K mg base 5 "_law_changed" 5 v_Lchanged [] :=
  calZ_of D sc_Lchanged (by decide) rfl fun f cdv A outer s H E hr => by
    have hu := hu_of hr
    have tk := takes_of (X := cxOf (L2.CX P w) P w K mg base N_Lchanged "_law_changed" (L2.defScope s_Lchanged) f cdv A outer s H E) rfl rfl rfl rfl
    refine ⟨_, (pss_cons (ps_set (i := 5) sc_Lchanged.nd rfl (Or.inl rfl) (m_cZ c_Ldraw hr (by decide) tk rfl (pa_cons (pv 2) (pa_cons (pv 3) (pa_cons pe_int pa_nil)))))
  (pss_cons (ps_set (i := 6) sc_Lchanged.nd rfl (Or.inl rfl) (pe_ix (ix_Z (K := K) hr.units) (pe_callB (cl_sortedZ (K := K) rfl) rfl T.z_sorted (by decide +kernel) (pa_cons (pe_ix (ix_Z (K := K) hr.units) (pv 1) pe_str (fun _ _ => rfl)) pa_nil)) (pe_op op_mod (pv 5) (pe_callB (cl_lenZ (K := K)) rfl T.z_len (by decide +kernel) (pa_cons (pe_ix (ix_Z (K := K) hr.units) (pv 1) pe_str (fun _ _ => rfl)) pa_nil))) (fun _ _ => rfl)))
  (pss_cons (ps_asg (pe_ix (ix_Z (K := K) hr.units) (pe_ix (ix_Z (K := K) hr.units) (pv 1) pe_str (fun _ _ => rfl)) (pv 6) (fun _ _ => rfl)) (m_gtup (K := K) (n := 5) rfl (pgs_cons (pg_name (i := 7) sc_Lchanged.nd rfl (Or.inl rfl)) (pgs_cons (pg_name (i := 8) sc_Lchanged.nd rfl (Or.inl rfl)) (pgs_cons (pg_name (i := 9) sc_Lchanged.nd rfl (Or.inl rfl)) (pgs_cons (pg_name (i := 10) sc_Lchanged.nd rfl (Or.inl rfl)) (pgs_cons (pg_name (i := 11) sc_Lchanged.nd rfl (Or.inl rfl)) pgs_nil)))))))
  (pss_cons (ps_if (pt_cmpR (op_eqZ (K := K) hr.units) (pv 4) pe_int (nomark _)) (pss_cons (ps_expr (pe_dpop1 (pe_ix (ix_Z (K := K) hr.units) (pv 1) pe_str (fun _ _ => rfl)) (pv 6) ⟨rfl, rfl, rfl, rfl⟩))
  (pss_one (ps_ret (pe_cmpR op_isZ (m_mtZ c_Net_drop_tie hr (by decide) tk (pv 0) (pa_cons (pv 6) pa_nil)) pe_non (nomark _))))) pss_nil)
  (pss_cons (ps_if (pt_cmpR (op_eqZ (K := K) hr.units) (pv 4) pe_int (nomark _)) (pss_cons (ps_set (i := 9) sc_Lchanged.nd rfl (Or.inl rfl) (m_cZ c_Lamount hr (by decide) tk rfl (pa_cons (pv 2) (pa_cons (pv 3) (pa_cons pe_int pa_nil)))))
  (pss_cons (ps_set (i := 10) sc_Lchanged.nd rfl (Or.inl rfl) (pe_ix (ix_Z (K := K) hr.units) (pe_lst (pa_cons pe_non (pa_cons (pv 9) (pa_cons (pe_callB (cl_min2 rfl) rfl T.z_min (by decide +kernel) (pa_cons (pe_op op_powW pe_int pe_int) (pa_cons (pe_op (op_addZ (K := K)) (pv 9) (m_cZ c_Lamount hr (by decide) tk rfl (pa_cons (pv 2) (pa_cons (pv 3) (pa_cons pe_int pa_nil))))) pa_nil))) pa_nil)))) (pe_op op_mod (pe_op op_fdivW (pv 5) pe_int) pe_int) (fun _ _ => rfl)))
  (pss_cons (ps_dput hu (pe_ix (ix_Z (K := K) hr.units) (pv 1) pe_str (fun _ _ => rfl)) (pv 6) (pe_tup (pa_cons (pv 7) (pa_cons (pv 8) (pa_cons (pv 9) (pa_cons (pv 10) (pa_cons (pv 11) pa_nil)))))) rfl)
  (pss_one (ps_ret (pe_cmpR op_isZ (m_mtZ c_Net_set_room hr (by decide) tk (pv 0) (pa_cons (pv 6) (pa_cons (pv 9) (pa_cons (pv 10) pa_nil)))) pe_non (nomark _))))))) pss_nil)
  (pss_cons (ps_set (i := 11) sc_Lchanged.nd rfl (Or.inl rfl) (pe_op op_mulZ (m_cZ c_Lamount hr (by decide) tk rfl (pa_cons (pv 2) (pa_cons (pv 3) (pa_cons pe_int pa_nil)))) (pe_ix (ix_Z (K := K) hr.units) (pe_lst (pa_cons pe_int (pa_cons (pe_un un_neg pe_int) pa_nil))) (pe_op op_mod (pe_op op_fdivW (pv 5) pe_int) pe_int) (fun _ _ => rfl))))
  (pss_cons (ps_dput hu (pe_ix (ix_Z (K := K) hr.units) (pv 1) pe_str (fun _ _ => rfl)) (pv 6) (pe_tup (pa_cons (pv 7) (pa_cons (pv 8) (pa_cons (pv 9) (pa_cons (pv 10) (pa_cons (pv 11) pa_nil)))))) rfl)
  (pss_one (ps_ret (pe_cmpR op_isZ (m_mtZ c_Net_set_price hr (by decide) tk (pv 0) (pa_cons (pv 6) (pa_cons (pv 11) pa_nil))) pe_non (nomark _))))))))))), ?_⟩
    exact ((RS.seq (RS.asg (RE.call .nil (RA.cons RE.var (RA.cons RE.var (RA.cons RE.cint RA.nil))) (.cons (.cons (.cons Many.nil))) rfl) RG.name)
  (RS.seq (RS.asg (RE.o2 q_ix (RE.c1 q_sorted (RE.o2 q_ix RE.var RE.cstr)) (RE.o2 q_mod RE.var (RE.c1 q_len (RE.o2 q_ix RE.var RE.cstr)))) RG.name)
  (RS.seq (RS.asg (RE.o2 q_ix (RE.o2 q_ix RE.var RE.cstr) RE.var) (RG.names (is := [7, 8, 9, 10, 11]) rfl))
  (RS.seq (RS.ifS (RT.val (RE.o2 q_eq RE.var RE.cint)) (RS.seq (RS.drop (RE.dpop (RE.o2 q_ix RE.var RE.cstr) RE.var))
  (RS.ret (RE.o2 (q_isN (neg := false)) (RE.meth T.m_Net .nil RE.var (RA.cons RE.var RA.nil) (.cons Many.nil) rfl) RE.cnon))) RS.next)
  (RS.seq (RS.ifS (RT.val (RE.o2 q_eq RE.var RE.cint)) (RS.seq (RS.asg (RE.call .nil (RA.cons RE.var (RA.cons RE.var (RA.cons RE.cint RA.nil))) (.cons (.cons (.cons Many.nil))) rfl) RG.name)
  (RS.seq (RS.asg (RE.o2 q_ix (RE.lst (RA.cons RE.cnon (RA.cons RE.var (RA.cons (RE.c2 q_min (RE.o2 q_pow RE.cint RE.cint) (RE.o2 q_add RE.var (RE.call .nil (RA.cons RE.var (RA.cons RE.var (RA.cons RE.cint RA.nil))) (.cons (.cons (.cons Many.nil))) rfl))) RA.nil))) (.cons (.cons (.cons Many.nil))) (by decide)) (RE.o2 q_mod (RE.o2 q_div RE.var RE.cint) RE.cint)) RG.name)
  (RS.seq (RS.dput (RE.o2 q_ix RE.var RE.cstr) RE.var (RE.tup (RA.cons RE.var (RA.cons RE.var (RA.cons RE.var (RA.cons RE.var (RA.cons RE.var RA.nil))))) (.cons (.cons (.cons (.cons (.cons Many.nil))))) (by decide)))
  (RS.ret (RE.o2 (q_isN (neg := false)) (RE.meth T.m_Net .nil RE.var (RA.cons RE.var (RA.cons RE.var (RA.cons RE.var RA.nil))) (.cons (.cons (.cons Many.nil))) rfl) RE.cnon))))) RS.next)
  (RS.seq (RS.asg (RE.o2 q_mul (RE.call .nil (RA.cons RE.var (RA.cons RE.var (RA.cons RE.cint RA.nil))) (.cons (.cons (.cons Many.nil))) rfl) (RE.o2 q_ix (RE.lst (RA.cons RE.cint (RA.cons (RE.neg RE.cint) RA.nil)) (.cons (.cons Many.nil)) (by decide)) (RE.o2 q_mod (RE.o2 q_div RE.var RE.cint) RE.cint))) RG.name)
  (RS.seq (RS.dput (RE.o2 q_ix RE.var RE.cstr) RE.var (RE.tup (RA.cons RE.var (RA.cons RE.var (RA.cons RE.var (RA.cons RE.var (RA.cons RE.var RA.nil))))) (.cons (.cons (.cons (.cons (.cons Many.nil))))) (by decide)))
  (RS.ret (RE.o2 (q_isN (neg := false)) (RE.meth T.m_Net .nil RE.var (RA.cons RE.var (RA.cons RE.var RA.nil)) (.cons (.cons Many.nil)) rfl) RE.cnon))))))))))
noncomputable def b_Ldeed : SD → R Fl :=
  (zSeq (zAsg (z2 oMod (zCall v_Ldraw [] (zA (zVar 3) (zA (zVar 4) (zA (zC (.int 0)) zA0)))) (zC (.int 10))) (zSt 5))
  (zSeq (zIfS (zAnd (zB (z2 oEq (z1 oLen (z2 oIx (zVar 2) (zC (.int 0)))) (zC (.int 5)))) (zB (z2 oGt (z1 oLen (z2 oIx (zVar 1) (zC (.str "names")))) (zC (.int 2))))) (zAsg (zC (.int 5)) (zSt 5)) zNext)
  (zSeq (zAsg (zLc (zItL (zFix (zVar 2))) (zSt 7) (zB (z2 (oIn true) (zVar 7) (z2 oIx (zVar 1) (zC (.str "names"))))) (zVar 7) [7]) (zSt 6))
  (zSeq (zIfS (zAnd (zOr (zB (z2 oLt (zVar 5) (zC (.int 3)))) (zB (z2 oLt (z1 oLen (z2 oIx (zVar 1) (zC (.str "names")))) (zC (.int 2))))) (zAnd (zB (z2 oNe (zVar 6) (zLst zA0))) (zB (z2 oLt (z1 oLen (z2 oIx (zVar 1) (zC (.str "names")))) (zC (.int 14)))))) (zSeq (zAsg (z2 oIx (zVar 6) (z2 oMod (zCall v_Ldraw [] (zA (zVar 3) (zA (zVar 4) (zA (zC (.int 1)) zA0)))) (z1 oLen (zVar 6)))) (zSt 7))
  (zSeq (zDrop (zM2 isL (oB2 fAppend) (z2 oIx (zVar 1) (zC (.str "names"))) (zFix (zVar 7))))
  (zRet (z2 (oIsN false) (zMeth "Net" "put_place" v_Net_put_place [] (zVar 0) (zA (zVar 7) zA0)) (zC .non))))) zNext)
  (zSeq (zIfS (zAnd (zB (z2 oLt (zVar 5) (zC (.int 7)))) (zAnd (zB (z2 oGt (z1 oLen (z2 oIx (zVar 1) (zC (.str "names")))) (zC (.int 1)))) (zB (z2 oLt (z1 oLen (z2 oIx (zVar 1) (zC (.str "ties")))) (zC (.int 40)))))) (zRet (zCall v_Lput_tie [] (zA (zVar 0) (zA (zVar 1) (zA (zVar 3) (zA (zVar 4) zA0)))))) zNext)
  (zSeq (zIfS (zB (z2 oNe (z2 oIx (zVar 1) (zC (.str "ties"))) zDnew)) (zRet (zCall v_Lchanged [] (zA (zVar 0) (zA (zVar 1) (zA (zVar 3) (zA (zVar 4) (zA (z2 oMod (zVar 5) (zC (.int 3))) zA0))))))) zNext)
  (zRet (zC (.bl true)))))))))
noncomputable def v_Ldeed : FnV := zFn N_Ldeed.length b_Ldeed
theorem c_Ldeed (T : Txt K mg CTie CNet) (D : Df K mg "_law_deed" s_Ldeed ["_law_net", "_law_model", "_law_pool_here", "_law_cell", "_law_k"]) (c_Net_put_place : MetZ P w K mg base 3 CNet "put_place" 2 v_Net_put_place []) (c_Lchanged : CalZ P w K mg base 5 "_law_changed" 5 v_Lchanged []) (c_Ldraw : CalZ P w K mg base 1 "_law_draw" 3 v_Ldraw []) (c_Lput_tie : CalZ P w K mg base 6 "_law_put_tie" 4 v_Lput_tie []) : CalZ P w K mg base 7 "_law_deed" 5 v_Ldeed [] :=
  calZ_of D sc_Ldeed (by decide) rfl fun f cdv A outer s H E hr => by
    have hu := hu_of hr
    have tk := takes_of (X := cxOf (L2.CX P w) P w K mg base N_Ldeed "_law_deed" (L2.defScope s_Ldeed) f cdv A outer s H E) rfl rfl rfl rfl
    refine ⟨_, (pss_cons (ps_set (i := 5) sc_Ldeed.nd rfl (Or.inl rfl) (pe_op op_mod (m_cZ c_Ldraw hr (by decide) tk rfl (pa_cons (pv 3) (pa_cons (pv 4) (pa_cons pe_int pa_nil)))) pe_int))
  (pss_cons (ps_if (PW.pt (pw_and (pt_cmpR (op_eqZ (K := K) hr.units) (pe_callB (cl_lenZ (K := K)) rfl T.z_len (by decide +kernel) (pa_cons (pe_ix (ix_Z (K := K) hr.units) (pv 2) pe_int (fun _ _ => rfl)) pa_nil)) pe_int (nomark _)) (pw_and1 (pt_cmpR op_gt (pe_callB (cl_lenZ (K := K)) rfl T.z_len (by decide +kernel) (pa_cons (pe_ix (ix_Z (K := K) hr.units) (pv 1) pe_str (fun _ _ => rfl)) pa_nil)) pe_int (nomark _))))) (pss_one (ps_set (i := 5) sc_Ldeed.nd rfl (Or.inl rfl) pe_int)) pss_nil)
  (pss_cons (ps_setLc (i := 6) (own := [("_law_name", 7)]) (g := gName 7) rfl sc_Ldeed.nd rfl rfl (sw_true rfl rfl rfl (by decide +kernel)) (pi_list (pv 2)) (blkOk_by (N := N_Ldeed) (sc := defScope s_Ldeed) (own := [("_law_name", 7)]) (by decide +kernel)) (fun _ _ _ _ _ => (pg_name (i := 7) sc_Ldeed.nd rfl (Or.inl rfl))) (fun _ _ _ _ _ => (pts_one (pt_cmpR (op_notinZ (K := K) hr.units) (pv 7) (pe_ix (ix_Z (K := K) hr.units) (pv 1) pe_str (fun _ _ => rfl)) (by rfl)))) (fun _ _ _ _ _ => (pv 7)))
  (pss_cons (ps_if (PW.pt (pw_and (PW.pt (pw_or (pt_cmpR op_lt (pv 5) pe_int (nomark _)) (pw_or1 (pt_cmpR op_lt (pe_callB (cl_lenZ (K := K)) rfl T.z_len (by decide +kernel) (pa_cons (pe_ix (ix_Z (K := K) hr.units) (pv 1) pe_str (fun _ _ => rfl)) pa_nil)) pe_int (nomark _))))) (pw_and (pt_cmpR (op_neZ (K := K) hr.units) (pv 6) (pe_lst pa_nil) (nomark _)) (pw_and1 (pt_cmpR op_lt (pe_callB (cl_lenZ (K := K)) rfl T.z_len (by decide +kernel) (pa_cons (pe_ix (ix_Z (K := K) hr.units) (pv 1) pe_str (fun _ _ => rfl)) pa_nil)) pe_int (nomark _)))))) (pss_cons (ps_set (i := 7) sc_Ldeed.nd rfl (Or.inl rfl) (pe_ix (ix_Z (K := K) hr.units) (pv 6) (pe_op op_mod (m_cZ c_Ldraw hr (by decide) tk rfl (pa_cons (pv 3) (pa_cons (pv 4) (pa_cons pe_int pa_nil)))) (pe_callB (cl_lenZ (K := K)) rfl T.z_len (by decide +kernel) (pa_cons (pv 6) pa_nil))) (fun _ _ => rfl)))
  (pss_cons (ps_expr (pe_bm PySem.F.plainAttrs_list PySem.F.slot_list_append PySem.F.type_list_append mt_append (pe_ix (ix_Z (K := K) hr.units) (pv 1) pe_str (fun _ _ => rfl)) (pa_cons (pv 7) pa_nil)))
  (pss_one (ps_ret (pe_cmpR op_isZ (m_mtZ c_Net_put_place hr (by decide) tk (pv 0) (pa_cons (pv 7) pa_nil)) pe_non (nomark _)))))) pss_nil)
  (pss_cons (ps_if (PW.pt (pw_and (pt_cmpR op_lt (pv 5) pe_int (nomark _)) (pw_and (pt_cmpR op_gt (pe_callB (cl_lenZ (K := K)) rfl T.z_len (by decide +kernel) (pa_cons (pe_ix (ix_Z (K := K) hr.units) (pv 1) pe_str (fun _ _ => rfl)) pa_nil)) pe_int (nomark _)) (pw_and1 (pt_cmpR op_lt (pe_callB (cl_lenZ (K := K)) rfl T.z_len (by decide +kernel) (pa_cons (pe_ix (ix_Z (K := K) hr.units) (pv 1) pe_str (fun _ _ => rfl)) pa_nil)) pe_int (nomark _)))))) (pss_one (ps_ret (m_cZ c_Lput_tie hr (by decide) tk rfl (pa_cons (pv 0) (pa_cons (pv 1) (pa_cons (pv 3) (pa_cons (pv 4) pa_nil))))))) pss_nil)
  (pss_cons (ps_if (pt_cmpR (op_neZ (K := K) hr.units) (pe_ix (ix_Z (K := K) hr.units) (pv 1) pe_str (fun _ _ => rfl)) pe_dnewK (nomark _)) (pss_one (ps_ret (m_cZ c_Lchanged hr (by decide) tk rfl (pa_cons (pv 0) (pa_cons (pv 1) (pa_cons (pv 3) (pa_cons (pv 4) (pa_cons (pe_op op_mod (pv 5) pe_int) pa_nil)))))))) pss_nil)
  (pss_one (ps_ret pe_bl)))))))), ?_⟩
    exact ((RS.seq (RS.asg (RE.o2 q_mod (RE.call .nil (RA.cons RE.var (RA.cons RE.var (RA.cons RE.cint RA.nil))) (.cons (.cons (.cons Many.nil))) rfl) RE.cint) RG.name)
  (RS.seq (RS.ifS (RT.and (RT.val (RE.o2 q_eq (RE.c1 q_len (RE.o2 q_ix RE.var RE.cint)) RE.cint)) (RT.val (RE.o2 q_gt (RE.c1 q_len (RE.o2 q_ix RE.var RE.cstr)) RE.cint))) (RS.asg RE.cint RG.name) RS.next)
  (RS.seq (RS.asg (RE.lc (is := [7]) (RI.lst (RE.fix RE.var)) RG.name (RT.val (RE.o2 (q_in (neg := true)) RE.var (RE.o2 q_ix RE.var RE.cstr))) RE.var) RG.name)
  (RS.seq (RS.ifS (RT.and (RT.or (RT.val (RE.o2 q_lt RE.var RE.cint)) (RT.val (RE.o2 q_lt (RE.c1 q_len (RE.o2 q_ix RE.var RE.cstr)) RE.cint))) (RT.and (RT.val (RE.o2 q_ne RE.var (RE.lst RA.nil Many.nil (by decide)))) (RT.val (RE.o2 q_lt (RE.c1 q_len (RE.o2 q_ix RE.var RE.cstr)) RE.cint)))) (RS.seq (RS.asg (RE.o2 q_ix RE.var (RE.o2 q_mod (RE.call .nil (RA.cons RE.var (RA.cons RE.var (RA.cons RE.cint RA.nil))) (.cons (.cons (.cons Many.nil))) rfl) (RE.c1 q_len RE.var))) RG.name)
  (RS.seq (RS.drop (RE.append (RE.o2 q_ix RE.var RE.cstr) RE.var))
  (RS.ret (RE.o2 (q_isN (neg := false)) (RE.meth T.m_Net .nil RE.var (RA.cons RE.var RA.nil) (.cons Many.nil) rfl) RE.cnon)))) RS.next)
  (RS.seq (RS.ifS (RT.and (RT.val (RE.o2 q_lt RE.var RE.cint)) (RT.and (RT.val (RE.o2 q_gt (RE.c1 q_len (RE.o2 q_ix RE.var RE.cstr)) RE.cint)) (RT.val (RE.o2 q_lt (RE.c1 q_len (RE.o2 q_ix RE.var RE.cstr)) RE.cint)))) (RS.ret (RE.call .nil (RA.cons RE.var (RA.cons RE.var (RA.cons RE.var (RA.cons RE.var RA.nil)))) (.cons (.cons (.cons (.cons Many.nil)))) rfl)) RS.next)
  (RS.seq (RS.ifS (RT.val (RE.o2 q_ne (RE.o2 q_ix RE.var RE.cstr) RE.dnew)) (RS.ret (RE.call .nil (RA.cons RE.var (RA.cons RE.var (RA.cons RE.var (RA.cons RE.var (RA.cons (RE.o2 q_mod RE.var RE.cint) RA.nil))))) (.cons (.cons (.cons (.cons (.cons Many.nil))))) rfl)) RS.next)
  (RS.ret RE.cbl))))))))
noncomputable def b_Lasked : SD → R Fl :=
  (zSeq (zAsg (zFix (zCall v_Lrows [] (zA (zVar 1) zA0))) (zSt 4))
  (zSeq (zFor (zRg1 (zA (zC (.int 4)) zA0)) (zSt 5) (zSeq (zAsg (z2 oMod (z2 oAdd (zVar 2) (z2 oMul (zVar 5) (z2 oIx (zLst (zA (zC (.int 1)) (zA (zC (.int 3)) zA0))) (z2 oMod (z2 oDiv (zVar 2) (zC (.int 4))) (zC (.int 2)))))) (zC (.int 4))) (zSt 6))
  (zSeq (zIfS (zB (z2 oEq (zVar 6) (zC (.int 0)))) (zSeq (zAsg (zMeth "Net" "places" v_Net_places [] (zVar 0) zA0) (zSt 7))
  (zSeq (zIfS (zOr (zNot (zB (z1 (oIsi .list) (zVar 7)))) (zB (z2 oNe (zVar 7) (z2 oIx (zVar 1) (zC (.str "names")))))) (zRet (zC (.bl false))) zNext)
  (zDrop (zM2 isL (oB2 fAppend) (zVar 7) (zFix (zC (.str "more"))))))) zNext)
  (zSeq (zIfS (zB (z2 oEq (zVar 6) (zC (.int 1)))) (zSeq (zAsg (zCell (zMeth "Net" "ties" v_Net_ties [] (zVar 0) zA0)) (zSt 7))
  (zSeq (zIfS (zOr (zNot (zB (z1 (oIsi .list) (zVar 7)))) (zB (z2 oNe (zLc (zItL (zFix (zVar 7))) (zSt 9) zYes (zCall v_Lrow [] (zA (zVar 9) zA0)) [9]) (zVar 4)))) (zRet (zC (.bl false))) zNext)
  (zSeq (zDrop (zM2 isL (oB2 fExtend) (zVar 3) (zFix (zSl (zLc (zZip (zVar 7) (zVar 4)) (zUnp [9, 8]) zYes (zTup (zA (zVar 9) (zA (zVar 8) zA0))) [9, 8]) zNo (zPt (zC (.int 3)))))))
  (zDrop (z1 (oB1 fClear) (zVar 7)))))) zNext)
  (zSeq (zIfS (zAnd (zB (z2 oEq (zVar 6) (zC (.int 2)))) (zNot (zB (zCall v_Lwhole [] (zA (zMeth "Net" "given" v_Net_given [] (zVar 0) zA0) (zA (z2 oIx (zVar 1) (zC (.str "given"))) zA0)))))) (zRet (zC (.bl false))) zNext)
  (zIfS (zAnd (zB (z2 oEq (zVar 6) (zC (.int 3)))) (zB (z2 oNe (zVar 4) (zLst zA0)))) (zSeq (zAsg (z2 oIx (zVar 4) (z2 oMod (z2 oDiv (zVar 2) (zC (.int 8))) (z1 oLen (zVar 4)))) (zSt 8))
  (zSeq (zAsg (zMeth "Net" "tie_of" v_Net_tie_of [] (zVar 0) (zA (z2 oIx (zVar 8) (zC (.int 0))) zA0)) (zSt 9))
  (zSeq (zIfS (zB (z2 oNe (zCall v_Lrow [] (zA (zVar 9) zA0)) (zVar 8))) (zRet (zC (.bl false))) zNext)
  (zDrop (zM2 isL (oB2 fAppend) (zVar 3) (zFix (zTup (zA (zVar 9) (zA (zVar 8) zA0))))))))) zNext))))))
  (zRet (zC (.bl true)))))
noncomputable def v_Lasked : FnV := zFn N_Lasked.length b_Lasked
theorem c_Lasked (T : Txt K mg CTie CNet) (D : Df K mg "_law_asked" s_Lasked ["_law_net", "_law_model", "_law_n", "_law_held"]) (c_Net_given : MetZ P w K mg base 1 CNet "given" 1 v_Net_given []) (c_Net_places : MetZ P w K mg base 1 CNet "places" 1 v_Net_places []) (c_Net_tie_of : MetZ P w K mg base 2 CNet "tie_of" 2 v_Net_tie_of []) (c_Net_ties : MetZ P w K mg base 1 CNet "ties" 1 v_Net_ties []) (c_Lrow : CalZ P w K mg base 1 "_law_row" 1 v_Lrow []) (c_Lrows : CalZ P w K mg base 1 "_law_rows" 1 v_Lrows []) (c_Lwhole : CalZ P w K mg base 1 "_law_whole" 2 v_Lwhole []) : CalZ P w K mg base 3 "_law_asked" 4 v_Lasked [] :=
  calZ_of D sc_Lasked (by decide) rfl fun f cdv A outer s H E hr => by
    have hu := hu_of hr
    have tk := takes_of (X := cxOf (L2.CX P w) P w K mg base N_Lasked "_law_asked" (L2.defScope s_Lasked) f cdv A outer s H E) rfl rfl rfl rfl
    refine ⟨_, (pss_cons (ps_set (i := 4) sc_Lasked.nd rfl (Or.inl rfl) (m_cZ c_Lrows hr (by decide) tk rfl (pa_cons (pv 1) pa_nil)))
  (pss_cons (ps_for (passes_of rfl) rfl (pi_range1 rfl T.z_range (pa_cons pe_int pa_nil)) (pg_name (i := 5) sc_Lasked.nd rfl (Or.inl rfl)) (pss_cons (ps_set (i := 6) sc_Lasked.nd rfl (Or.inl rfl) (pe_op op_mod (pe_op (op_addZ (K := K)) (pv 2) (pe_op op_mulZ (pv 5) (pe_ix (ix_Z (K := K) hr.units) (pe_lst (pa_cons pe_int (pa_cons pe_int pa_nil))) (pe_op op_mod (pe_op op_fdivW (pv 2) pe_int) pe_int) (fun _ _ => rfl)))) pe_int))
  (pss_cons (ps_if (pt_cmpR (op_eqZ (K := K) hr.units) (pv 6) pe_int (nomark _)) (pss_cons (ps_set (i := 7) sc_Lasked.nd rfl (Or.inl rfl) (m_mtZ0 c_Net_places hr (by decide) tk (pv 0)))
  (pss_cons (ps_if (PW.pt (pw_or (pt_not (pt_val (pe_callB (m_isi (K := K)) rfl T.z_isinstance (by decide +kernel) (pa_cons (pv 7) (pa_cons (pe_bltn (v := .ty "list") rfl T.z_list (by decide +kernel) rfl) pa_nil))))) (pw_or1 (pt_cmpR (op_neZ (K := K) hr.units) (pv 7) (pe_ix (ix_Z (K := K) hr.units) (pv 1) pe_str (fun _ _ => rfl)) (nomark _))))) (pss_one (ps_ret pe_bl)) pss_nil)
  (pss_one (ps_expr (pe_bm PySem.F.plainAttrs_list PySem.F.slot_list_append PySem.F.type_list_append mt_append (pv 7) (pa_cons pe_str pa_nil)))))) pss_nil)
  (pss_cons (ps_if (pt_cmpR (op_eqZ (K := K) hr.units) (pv 6) pe_int (nomark _)) (pss_cons (ps_set (i := 7) sc_Lasked.nd rfl (Or.inl rfl) (m_mtZ0 c_Net_ties hr (by decide) tk (pv 0)))
  (pss_cons (ps_if (PW.pt (pw_or (pt_not (pt_val (pe_callB (m_isi (K := K)) rfl T.z_isinstance (by decide +kernel) (pa_cons (pv 7) (pa_cons (pe_bltn (v := .ty "list") rfl T.z_list (by decide +kernel) rfl) pa_nil))))) (pw_or1 (pt_cmpR (op_neZ (K := K) hr.units) (pe_lc (own := [("_law_tie", 9)]) (g := gName 9) (tt := tYes) rfl sc_Lasked.nd (pi_list (pv 7)) (blkOk_by (N := N_Lasked) (sc := defScope s_Lasked) (own := [("_law_tie", 9)]) (by decide +kernel)) (fun _ _ _ _ _ => (pg_name (i := 9) sc_Lasked.nd rfl (Or.inl rfl))) (fun _ _ _ _ _ => pts_nil) (fun _ _ _ _ _ => (m_cK (K := K) (mg := mg) c_Lrow hr (by decide) takes0Z rfl (pa_cons (pv 9) pa_nil)))) (pv 4) (nomark _))))) (pss_one (ps_ret pe_bl)) pss_nil)
  (pss_cons (ps_expr (pe_bm PySem.F.plainAttrs_list PySem.F.slot_list_extend PySem.F.type_list_extend mt_extend (pv 3) (pa_cons (pe_slice (sl_Z (K := K)) (pe_lc (own := [("_law_tie", 9), ("_law_row_here", 8)]) (tt := tYes) rfl sc_Lasked.nd (pi_zip rfl T.z_zip (pa_cons (pv 7) (pa_cons (pv 4) pa_nil))) (blkOk_by (N := N_Lasked) (sc := defScope s_Lasked) (own := [("_law_tie", 9), ("_law_row_here", 8)]) (by decide +kernel)) (fun _ _ _ _ _ => (m_gtup (K := K) (n := 2) rfl (pgs_cons (pg_name (i := 9) sc_Lasked.nd rfl (Or.inl rfl)) (pgs_cons (pg_name (i := 8) sc_Lasked.nd rfl (Or.inl rfl)) pgs_nil)))) (fun _ _ _ _ _ => pts_nil) (fun _ _ _ _ _ => (pe_tup (pa_cons (pv 9) (pa_cons (pv 8) pa_nil))))) po_none (po_some pe_int)) pa_nil)))
  (pss_one (ps_expr (pe_bm0 PySem.F.plainAttrs_list PySem.F.slot_list_clear PySem.F.type_list_clear mt_clear (pv 7))))))) pss_nil)
  (pss_cons (ps_if (PW.pt (pw_and (pt_cmpR (op_eqZ (K := K) hr.units) (pv 6) pe_int (nomark _)) (pw_and1 (pt_not (pt_val (m_cZ c_Lwhole hr (by decide) tk rfl (pa_cons (m_mtZ0 c_Net_given hr (by decide) tk (pv 0)) (pa_cons (pe_ix (ix_Z (K := K) hr.units) (pv 1) pe_str (fun _ _ => rfl)) pa_nil)))))))) (pss_one (ps_ret pe_bl)) pss_nil)
  (pss_one (ps_if (PW.pt (pw_and (pt_cmpR (op_eqZ (K := K) hr.units) (pv 6) pe_int (nomark _)) (pw_and1 (pt_cmpR (op_neZ (K := K) hr.units) (pv 4) (pe_lst pa_nil) (nomark _))))) (pss_cons (ps_set (i := 8) sc_Lasked.nd rfl (Or.inl rfl) (pe_ix (ix_Z (K := K) hr.units) (pv 4) (pe_op op_mod (pe_op op_fdivW (pv 2) pe_int) (pe_callB (cl_lenZ (K := K)) rfl T.z_len (by decide +kernel) (pa_cons (pv 4) pa_nil))) (fun _ _ => rfl)))
  (pss_cons (ps_set (i := 9) sc_Lasked.nd rfl (Or.inl rfl) (m_mtZ c_Net_tie_of hr (by decide) tk (pv 0) (pa_cons (pe_ix (ix_Z (K := K) hr.units) (pv 8) pe_int (fun _ _ => rfl)) pa_nil)))
  (pss_cons (ps_if (pt_cmpR (op_neZ (K := K) hr.units) (m_cZ c_Lrow hr (by decide) tk rfl (pa_cons (pv 9) pa_nil)) (pv 8) (nomark _)) (pss_one (ps_ret pe_bl)) pss_nil)
  (pss_one (ps_expr (pe_bm PySem.F.plainAttrs_list PySem.F.slot_list_append PySem.F.type_list_append mt_append (pv 3) (pa_cons (pe_tup (pa_cons (pv 9) (pa_cons (pv 8) pa_nil))) pa_nil))))))) pss_nil)))))))
  (pss_one (ps_ret pe_bl)))), ?_⟩
    exact ((RS.seq (RS.asg (RE.fix (RE.call .nil (RA.cons RE.var RA.nil) (.cons Many.nil) rfl)) RG.name)
  (RS.seq (RS.for' (RI.rg1 (RA.cons RE.cint RA.nil)) RG.name (RS.seq (RS.asg (RE.o2 q_mod (RE.o2 q_add RE.var (RE.o2 q_mul RE.var (RE.o2 q_ix (RE.lst (RA.cons RE.cint (RA.cons RE.cint RA.nil)) (.cons (.cons Many.nil)) (by decide)) (RE.o2 q_mod (RE.o2 q_div RE.var RE.cint) RE.cint)))) RE.cint) RG.name)
  (RS.seq (RS.ifS (RT.val (RE.o2 q_eq RE.var RE.cint)) (RS.seq (RS.asg (RE.meth T.m_Net .nil RE.var RA.nil Many.nil rfl) RG.name)
  (RS.seq (RS.ifS (RT.or (RT.not (RT.val (RE.isi (t := .list) RE.var))) (RT.val (RE.o2 q_ne RE.var (RE.o2 q_ix RE.var RE.cstr)))) (RS.ret RE.cbl) RS.next)
  (RS.drop (RE.append RE.var RE.cstr)))) RS.next)
  (RS.seq (RS.ifS (RT.val (RE.o2 q_eq RE.var RE.cint)) (RS.seq (RS.asg (RE.cell (RE.meth T.m_Net .nil RE.var RA.nil Many.nil rfl)) RG.name)
  (RS.seq (RS.ifS (RT.or (RT.not (RT.val (RE.isi (t := .list) RE.var))) (RT.val (RE.o2 q_ne (RE.lc (is := [9]) (RI.lst (RE.fix RE.var)) RG.name RT.yes (RE.call .nil (RA.cons RE.var RA.nil) (.cons Many.nil) rfl)) RE.var))) (RS.ret RE.cbl) RS.next)
  (RS.seq (RS.drop (RE.extend RE.var (RE.sl (RE.lc (is := [9, 8]) (RI.zip RE.var RE.var) (RG.names (is := [9, 8]) rfl) RT.yes (RE.tup (RA.cons RE.var (RA.cons RE.var RA.nil)) (.cons (.cons Many.nil)) (by decide))) RO.no (RO.part RE.cint))))
  (RS.drop (RE.clear RE.var))))) RS.next)
  (RS.seq (RS.ifS (RT.and (RT.val (RE.o2 q_eq RE.var RE.cint)) (RT.not (RT.val (RE.call .nil (RA.cons (RE.meth T.m_Net .nil RE.var RA.nil Many.nil rfl) (RA.cons (RE.o2 q_ix RE.var RE.cstr) RA.nil)) (.cons (.cons Many.nil)) rfl)))) (RS.ret RE.cbl) RS.next)
  (RS.ifS (RT.and (RT.val (RE.o2 q_eq RE.var RE.cint)) (RT.val (RE.o2 q_ne RE.var (RE.lst RA.nil Many.nil (by decide))))) (RS.seq (RS.asg (RE.o2 q_ix RE.var (RE.o2 q_mod (RE.o2 q_div RE.var RE.cint) (RE.c1 q_len RE.var))) RG.name)
  (RS.seq (RS.asg (RE.meth T.m_Net .nil RE.var (RA.cons (RE.o2 q_ix RE.var RE.cint) RA.nil) (.cons Many.nil) rfl) RG.name)
  (RS.seq (RS.ifS (RT.val (RE.o2 q_ne (RE.call .nil (RA.cons RE.var RA.nil) (.cons Many.nil) rfl) RE.var)) (RS.ret RE.cbl) RS.next)
  (RS.drop (RE.append RE.var (RE.tup (RA.cons RE.var (RA.cons RE.var RA.nil)) (.cons (.cons Many.nil)) (by decide))))))) RS.next))))))
  (RS.ret RE.cbl))))
noncomputable def b_law : SD → R Fl :=
  (zSeq (zAsg (zFix (zSl (zVar 0) zNo (zPt (zC (.int 63))))) (zSt 1))
  (zSeq (zAsg (zFix (zCall v_Lpool [] (zA (z1 oSum (zSl (zVar 1) zNo (zPt (zC (.int 3))))) zA0))) (zSt 2))
  (zSeq (zAsg (zMake "Net" v_Net_init [] zA0) (zSt 3))
  (zSeq (zAsg (zCell (zDisp (zP (.inr "names") (zCell (zLst zA0)) (zP (.inr "ties") (zCell zDnew) (zP (.inr "given") (zC (.int 0)) zP0))))) (zSt 4))
  (zSeq (zAsg (zCell (zLst zA0)) (zSt 5))
  (zSeq (zAsg (zCell (zLst zA0)) (zSt 6))
  (zSeq (zIfS (zOr (zNot (zB (zCall v_Lwhole [] (zA (zC (.int 1000000000000000000000000000000000000000000000000000000000000)) (zA (z2 oPow (zC (.int 10)) (zC (.int 60))) zA0))))) (zNot (zB (zCall v_Lstands [] (zA (zVar 3) (zA (zVar 4) zA0)))))) (zRet (zC (.bl false))) zNext)
  (zSeq (zFor (zEnum (zFix (zVar 1))) (zUnp [7, 8]) (zSeq (zIfS (zB (z2 oEq (z2 oMod (zCall v_Ldraw [] (zA (zVar 8) (zA (zVar 7) (zA (zC (.int 20)) zA0)))) (zC (.int 9))) (zC (.int 1)))) (zSeq (zAsg (zMeth "Net" "copied" v_Net_copied [] (zVar 3) zA0) (zSt 9))
  (zSeq (zIfS (zNot (zB (z1 (oIsC is_Net false) (zVar 9)))) (zRet (zC (.bl false))) zNext)
  (zSeq (zDrop (zM2 isL (oB2 fAppend) (zVar 5) (zFix (zTup (zA (zVar 3) (zA (zDisp (zP (.inr "names") (z1 oList (z2 oIx (zVar 4) (zC (.str "names")))) (zP (.inr "ties") (z1 oDict (z2 oIx (zVar 4) (zC (.str "ties")))) (zP (.inr "given") (z2 oIx (zVar 4) (zC (.str "given"))) zP0)))) zA0))))))
  (zAsg (zVar 9) (zSt 3))))) zNext)
  (zSeq (zIfS (zNot (zB (zCall v_Ldeed [] (zA (zVar 3) (zA (zVar 4) (zA (zVar 2) (zA (zVar 8) (zA (zVar 7) zA0)))))))) (zRet (zC (.bl false))) zNext)
  (zIfS (zNot (zB (zCall v_Lasked [] (zA (zVar 3) (zA (zVar 4) (zA (zCall v_Ldraw [] (zA (zVar 8) (zA (zVar 7) (zA (zC (.int 21)) zA0)))) (zA (zVar 6) zA0))))))) (zRet (zC (.bl false))) zNext))))
  (zSeq (zIfS (zB (z2 oNe (zLc (zItL (zFix (zVar 5))) (zSt 10) (zNot (zB (zCall v_Lstands [] (zA (z2 oIx (zVar 10) (zC (.int 0))) (zA (z2 oIx (zVar 10) (zC (.int 1))) zA0))))) (zVar 10) [10]) (zLst zA0))) (zRet (zC (.bl false))) zNext)
  (zRet (z2 oEq (zLc (zItL (zFix (zVar 6))) (zSt 10) (zB (z2 oNe (zCall v_Lrow [] (zA (z2 oIx (zVar 10) (zC (.int 0))) zA0)) (z2 oIx (zVar 10) (zC (.int 1))))) (zVar 10) [10]) (zLst zA0))))))))))))
noncomputable def v_law : FnV := zFn N_law.length b_law
theorem c_law (T : Txt K mg CTie CNet) {f : Addr} {fd : FuncData} (F : L2.Fun K "law" "law" s_law f fd) (c_Net_init : MakZ P w K mg base 1 "Net" CNet 1 v_Net_init []) (c_Net_copied : MetZ P w K mg base 3 CNet "copied" 1 v_Net_copied []) (c_Lasked : CalZ P w K mg base 3 "_law_asked" 4 v_Lasked []) (c_Ldeed : CalZ P w K mg base 7 "_law_deed" 5 v_Ldeed []) (c_Ldraw : CalZ P w K mg base 1 "_law_draw" 3 v_Ldraw []) (c_Lpool : CalZ P w K mg base 2 "_law_pool" 1 v_Lpool []) (c_Lrow : CalZ P w K mg base 1 "_law_row" 1 v_Lrow []) (c_Lstands : CalZ P w K mg base 2 "_law_stands" 2 v_Lstands []) (c_Lwhole : CalZ P w K mg base 1 "_law_whole" 2 v_Lwhole []) : FnOk P w K mg base L2.CX0 8 f fd ["_law_script"] (fun vs H Q E => spF ⟨K, mg⟩ 1 v_law vs H Q (fun _ _ _ => False)) :=
  fnZ0 F sc_law (by decide) fun cdv A outer s H E hr => by
    have hu := hu_of hr
    have tk := (takes0Z : Takes (cxOf L2.CX0 P w K mg base N_law "law" (L2.defScope s_law) f cdv A outer s H E).nox WF)
    refine ⟨_, (pss_cons (ps_set (i := 1) sc_law.nd rfl (Or.inl rfl) (pe_slice (sl_Z (K := K)) (pv 0) po_none (po_some pe_int)))
  (pss_cons (ps_set (i := 2) sc_law.nd rfl (Or.inl rfl) (m_cZ c_Lpool hr (by decide) tk rfl (pa_cons (pe_callB (cr_sum rfl) rfl T.z_sum (by decide +kernel) (pa_cons (pe_slice (sl_Z (K := K)) (pv 1) po_none (po_some pe_int)) pa_nil)) pa_nil)))
  (pss_cons (ps_set (i := 3) sc_law.nd rfl (Or.inl rfl) (m_mkZ0 c_Net_init hr (by decide) tk rfl))
  (pss_cons (ps_set (i := 4) sc_law.nd rfl (Or.inl rfl) (pe_disp (pps_cons pe_str (pe_lst pa_nil) (pps_cons pe_str pe_dnewK (pps_cons pe_str pe_int pps_nil))) (by rfl) (by rfl) (fun z => by cases z) (by decide)))
  (pss_cons (ps_set (i := 5) sc_law.nd rfl (Or.inl rfl) (pe_lst pa_nil))
  (pss_cons (ps_set (i := 6) sc_law.nd rfl (Or.inl rfl) (pe_lst pa_nil))
  (pss_cons (ps_if (PW.pt (pw_or (pt_not (pt_val (m_cZ c_Lwhole hr (by decide) tk rfl (pa_cons (pe_gc rfl T.g_MOST) (pa_cons (pe_op op_powW pe_int pe_int) pa_nil))))) (pw_or1 (pt_not (pt_val (m_cZ c_Lstands hr (by decide) tk rfl (pa_cons (pv 3) (pa_cons (pv 4) pa_nil)))))))) (pss_one (ps_ret pe_bl)) pss_nil)
  (pss_cons (ps_for PassesOwn.never rfl (pi_enum rfl T.z_enumerate (pa_cons (pv 1) pa_nil)) (m_gtup (K := K) (n := 2) rfl (pgs_cons (pg_name (i := 7) sc_law.nd rfl (Or.inl rfl)) (pgs_cons (pg_name (i := 8) sc_law.nd rfl (Or.inl rfl)) pgs_nil))) (pss_cons (ps_if (pt_cmpR (op_eqZ (K := K) hr.units) (pe_op op_mod (m_cZ c_Ldraw hr (by decide) tk rfl (pa_cons (pv 8) (pa_cons (pv 7) (pa_cons pe_int pa_nil)))) pe_int) pe_int (nomark _)) (pss_cons (ps_set (i := 9) sc_law.nd rfl (Or.inl rfl) (m_mtZ0 c_Net_copied hr (by decide) tk (pv 3)))
  (pss_cons (ps_if (pt_not (pt_val (pe_callB (m_isi (K := K)) rfl T.z_isinstance (by decide +kernel) (pa_cons (pv 9) (pa_cons (pe_glob (v := .ref CNet) rfl T.m_Net rfl) pa_nil))))) (pss_one (ps_ret pe_bl)) pss_nil)
  (pss_cons (ps_expr (pe_bm PySem.F.plainAttrs_list PySem.F.slot_list_append PySem.F.type_list_append mt_append (pv 5) (pa_cons (pe_tup (pa_cons (pv 3) (pa_cons (pe_disp (pps_cons pe_str (pe_callTy (cl_listZ (K := K) rfl) rfl T.z_list (by decide +kernel) (pa_cons (pe_ix (ix_Z (K := K) hr.units) (pv 4) pe_str (fun _ _ => rfl)) pa_nil)) (pps_cons pe_str (pe_callTy (cl_dictZ (K := K) rfl) rfl T.z_dict (by decide +kernel) (pa_cons (pe_ix (ix_Z (K := K) hr.units) (pv 4) pe_str (fun _ _ => rfl)) pa_nil)) (pps_cons pe_str (pe_ix (ix_Z (K := K) hr.units) (pv 4) pe_str (fun _ _ => rfl)) pps_nil))) (by rfl) (by rfl) (fun z => by cases z) (by decide)) pa_nil))) pa_nil)))
  (pss_one (ps_set (i := 3) sc_law.nd rfl (Or.inl rfl) (pv 9)))))) pss_nil)
  (pss_cons (ps_if (pt_not (pt_val (m_cZ c_Ldeed hr (by decide) tk rfl (pa_cons (pv 3) (pa_cons (pv 4) (pa_cons (pv 2) (pa_cons (pv 8) (pa_cons (pv 7) pa_nil)))))))) (pss_one (ps_ret pe_bl)) pss_nil)
  (pss_one (ps_if (pt_not (pt_val (m_cZ c_Lasked hr (by decide) tk rfl (pa_cons (pv 3) (pa_cons (pv 4) (pa_cons (m_cZ c_Ldraw hr (by decide) tk rfl (pa_cons (pv 8) (pa_cons (pv 7) (pa_cons pe_int pa_nil)))) (pa_cons (pv 6) pa_nil))))))) (pss_one (ps_ret pe_bl)) pss_nil)))))
  (pss_cons (ps_if (pt_cmpR (op_neZ (K := K) hr.units) (pe_lc (own := [("_law_pair", 10)]) (g := gName 10) rfl sc_law.nd (pi_list (pv 5)) (blkOk_by (N := N_law) (sc := defScope s_law) (own := [("_law_pair", 10)]) (by decide +kernel)) (fun _ _ _ _ _ => (pg_name (i := 10) sc_law.nd rfl (Or.inl rfl))) (fun _ _ _ _ _ => (pts_one (pt_not (pt_val (m_cK (K := K) (mg := mg) c_Lstands hr (by decide) takes0Z rfl (pa_cons (pe_ix (ix_Z (K := K) hr.units) (pv 10) pe_int (fun _ _ => rfl)) (pa_cons (pe_ix (ix_Z (K := K) hr.units) (pv 10) pe_int (fun _ _ => rfl)) pa_nil))))))) (fun _ _ _ _ _ => (pv 10))) (pe_lst pa_nil) (nomark _)) (pss_one (ps_ret pe_bl)) pss_nil)
  (pss_one (ps_ret (pe_cmpR (op_eqZ (K := K) hr.units) (pe_lc (own := [("_law_pair", 10)]) (g := gName 10) rfl sc_law.nd (pi_list (pv 6)) (blkOk_by (N := N_law) (sc := defScope s_law) (own := [("_law_pair", 10)]) (by decide +kernel)) (fun _ _ _ _ _ => (pg_name (i := 10) sc_law.nd rfl (Or.inl rfl))) (fun _ _ _ _ _ => (pts_one (pt_cmpR (op_neZ (K := K) hr.units) (m_cK (K := K) (mg := mg) c_Lrow hr (by decide) takes0Z rfl (pa_cons (pe_ix (ix_Z (K := K) hr.units) (pv 10) pe_int (fun _ _ => rfl)) pa_nil)) (pe_ix (ix_Z (K := K) hr.units) (pv 10) pe_int (fun _ _ => rfl)) (nomark _)))) (fun _ _ _ _ _ => (pv 10))) (pe_lst pa_nil) (nomark _))))))))))))), ?_⟩
    exact ((RS.seq (RS.asg (RE.fix (RE.sl RE.var RO.no (RO.part RE.cint))) RG.name)
  (RS.seq (RS.asg (RE.fix (RE.call .nil (RA.cons (RE.c1 q_sum (RE.sl RE.var RO.no (RO.part RE.cint))) RA.nil) (.cons Many.nil) rfl)) RG.name)
  (RS.seq (RS.asg (RE.make T.m_Net .nil RA.nil Many.nil rfl) RG.name)
  (RS.seq (RS.asg (RE.cell (RE.disp (RP.cons (k := (.inr "names")) (RE.cell (RE.lst RA.nil Many.nil (by decide))) (RP.cons (k := (.inr "ties")) (RE.cell RE.dnew) (RP.cons (k := (.inr "given")) RE.cint RP.nil))))) RG.name)
  (RS.seq (RS.asg (RE.cell (RE.lst RA.nil Many.nil (by decide))) RG.name)
  (RS.seq (RS.asg (RE.cell (RE.lst RA.nil Many.nil (by decide))) RG.name)
  (RS.seq (RS.ifS (RT.or (RT.not (RT.val (RE.call .nil (RA.cons RE.cint (RA.cons (RE.o2 q_pow RE.cint RE.cint) RA.nil)) (.cons (.cons Many.nil)) rfl))) (RT.not (RT.val (RE.call .nil (RA.cons RE.var (RA.cons RE.var RA.nil)) (.cons (.cons Many.nil)) rfl)))) (RS.ret RE.cbl) RS.next)
  (RS.seq (RS.for' (RI.enum (RE.fix RE.var)) (RG.names (is := [7, 8]) rfl) (RS.seq (RS.ifS (RT.val (RE.o2 q_eq (RE.o2 q_mod (RE.call .nil (RA.cons RE.var (RA.cons RE.var (RA.cons RE.cint RA.nil))) (.cons (.cons (.cons Many.nil))) rfl) RE.cint) RE.cint)) (RS.seq (RS.asg (RE.meth T.m_Net .nil RE.var RA.nil Many.nil rfl) RG.name)
  (RS.seq (RS.ifS (RT.not (RT.val (RE.isC T.is_Net RE.var))) (RS.ret RE.cbl) RS.next)
  (RS.seq (RS.drop (RE.append RE.var (RE.tup (RA.cons RE.var (RA.cons (RE.disp (RP.cons (k := (.inr "names")) (RE.c1 q_list (RE.o2 q_ix RE.var RE.cstr)) (RP.cons (k := (.inr "ties")) (RE.c1 q_dict (RE.o2 q_ix RE.var RE.cstr)) (RP.cons (k := (.inr "given")) (RE.o2 q_ix RE.var RE.cstr) RP.nil)))) RA.nil)) (.cons (.cons Many.nil)) (by decide))))
  (RS.asg RE.var RG.name)))) RS.next)
  (RS.seq (RS.ifS (RT.not (RT.val (RE.call .nil (RA.cons RE.var (RA.cons RE.var (RA.cons RE.var (RA.cons RE.var (RA.cons RE.var RA.nil))))) (.cons (.cons (.cons (.cons (.cons Many.nil))))) rfl))) (RS.ret RE.cbl) RS.next)
  (RS.ifS (RT.not (RT.val (RE.call .nil (RA.cons RE.var (RA.cons RE.var (RA.cons (RE.call .nil (RA.cons RE.var (RA.cons RE.var (RA.cons RE.cint RA.nil))) (.cons (.cons (.cons Many.nil))) rfl) (RA.cons RE.var RA.nil)))) (.cons (.cons (.cons (.cons Many.nil)))) rfl))) (RS.ret RE.cbl) RS.next))))
  (RS.seq (RS.ifS (RT.val (RE.o2 q_ne (RE.lc (is := [10]) (RI.lst (RE.fix RE.var)) RG.name (RT.not (RT.val (RE.call .nil (RA.cons (RE.o2 q_ix RE.var RE.cint) (RA.cons (RE.o2 q_ix RE.var RE.cint) RA.nil)) (.cons (.cons Many.nil)) rfl))) RE.var) (RE.lst RA.nil Many.nil (by decide)))) (RS.ret RE.cbl) RS.next)
  (RS.ret (RE.o2 q_eq (RE.lc (is := [10]) (RI.lst (RE.fix RE.var)) RG.name (RT.val (RE.o2 q_ne (RE.call .nil (RA.cons (RE.o2 q_ix RE.var RE.cint) RA.nil) (.cons Many.nil) rfl) (RE.o2 q_ix RE.var RE.cint))) RE.var) (RE.lst RA.nil Many.nil (by decide))))))))))))))
end
end T

local macro_rules | `(tactic| walk_at "zs") => `(tactic| simp only [↓Z.e_seq, ↓Z.e_asg, ↓Z.e_st_d, ↓Z.e_st_own, ↓Z.e_st_loc, ↓Z.e_next, ↓Z.e_break, ↓Z.e_cont, ↓Z.e_ifS, ↓Z.e_ret, ↓Z.e_retN, ↓Z.e_drop, ↓Z.e_never, ↓Z.e_c, ↓Z.e_var, ↓Z.e_z1, ↓Z.e_z2, ↓Z.e_via, ↓Z.e_a0, ↓Z.e_a, ↓Z.e_tup, ↓Z.e_lst, ↓Z.e_dnew, ↓Z.e_b, ↓Z.e_and, ↓Z.e_or, ↓Z.e_not, ↓Z.e_andV, ↓Z.e_orV, ↓Z.e_notV, ↓Z.e_if, ↓Z.e_call, ↓Z.e_meth, ↓Z.e_chain, ↓Z.e_no, ↓Z.e_pt, ↓Z.e_sl, Z.x_comp, Z.x_nx, Z.x_asg, Z.x_st, Z.x_if, Z.x_rt, Z.x_ret, Z.x_z2, Z.x_d, Z.x_via, Z.x_cons, Z.x_fix, Z.x_a, Z.x_tup, Z.x_lst, Z.x_ok, Z.x_not, Z.x_notV, Z.x_call, Z.x_self, Z.x_meth2, Z.x_meth1, Z.x_chain2, Z.x_chain1, Z.x_pt, Z.x_sl3, Z.x_sl2, Z.x_sl1, Z.bind_ok, Z.bind_bad, Z.bind_ite, Z.bind_bind, Z.seqK_nx, Z.seqK_rt, Z.seqK_bk, Z.seqK_ct, Z.told_d, Z.told_own, Z.told_loc, Z.toldK_own, Z.varK_own, Z.varK_d, Z.fix_d, Z.fix_own, Z.fix_loc, Z.fixK_own, Z.fixK_d, Z.celled_own, Z.celled_cell, Z.oB_bl, Z.chK_bl, Z.chainK_int, Z.contK_own, Z.cont_int, Z.cont_str, Z.cont_bl, Z.cont_non, Z.cont_lst, Z.cont_con, Z.cont_tup, Z.cont_dct, Z.cont_obj, Z.cont_cell, Z.cont_own, Z.cont_loc, Z.w_add, Z.addK_int, Z.addK_str, Z.addK_lst, Z.addK_tup, Z.w_sub, Z.w_mulG, Z.mulK_int, Z.mulK_lst, Z.w_mod, Z.w_div, Z.w_pow, Z.w_cmp, Z.w_neg, Z.w_min, Z.w_isi, Z.w_isN_n, Z.w_eq, Z.w_in, Z.w_ix, Z.w_len, Z.lenK_lst, Z.lenK_con, Z.lenK_dct, Z.w_fld, Z.isi_int, Z.isi_bl, Z.isi_str, Z.isi_non, Z.isi_lst, Z.isi_con, Z.isi_tup, Z.isi_dct, Z.isT, Z.w_isN_int, Z.w_isN_tup, Z.flv, ↓Z.e_lc, ↓Z.e_yes, ↓Z.e_itL, Z.x_itL_lst, Z.x_itL_con, ↓Z.e_itS, Z.x_itS, Z.wipe_mk, Z.zwipe_nil, Z.zwipe_cons, Z.w_dict, Z.dictK_dct, Z.w_list, Z.listK_lst, Z.listK_con, Z.listK_dct, Z.w_int_bl, Z.w_int_int, Z.w_sl, Z.slK_lst, Z.slK_con, ↓Z.e_rg1, Z.x_rg1, ↓Z.e_for, Z.x_turn, ↓Z.e_zip, Z.x_zip1, ↓Z.e_en, Z.x_en_lst, Z.w_unp, Z.unp2, Z.unp3, Z.unp4, Z.unp5, Z.setAll_cons, Z.setAll_nil, ↓Z.e_m1s, Z.x_m1s, Z.slK_str, Z.lenK_str, ↓Z.e_m2, Z.x_m2, Z.x_isL, Z.isLK_lst, Z.x_isD, Z.isDK_dct, Z.x_rv, Z.w_b2, Z.b2_append, Z.b2_extend, Z.w_b1, Z.b1_clear, Z.mod_cell, Z.mod_loc, Z.modK_own, ↓Z.e_sf, Z.x_sf1, Z.x_sf2, Z.x_sf3, ↓Z.e_mk, Z.x_mk, Z.x_sto, ↓Z.e_dp, Z.x_dp1, Z.x_dp2, Z.x_dp3, Z.x_dp4, Z.eqK_int, Z.eqK_str, Z.w_ne, Z.neK_nil, Z.neK_dct, Z.eqK_nil, Z.frz_new, Z.Sto.put_same, Z.put_put, Z.new_put, Z.new_get, Z.sfn0, Z.sfn1, Z.sfn2, Z.sfn3, Z.sfn4, Z.sfn5, Z.sfn6, Z.sfn7, Z.sfn8, decide_false, decide_true, Z.Wp_bad, Z.Wp_ok, Z.Wp_ite, List.set_cons_zero, List.set_cons_succ, List.getElem?_cons_zero, List.getElem?_cons_succ, List.cons_append, List.nil_append, List.append_nil, List.isEmpty_nil, List.isEmpty_cons, if_true, if_false, Bool.false_eq_true, true_implies, false_implies, implies_true, reduceCtorEq, Bool.not_true, Bool.not_false, eq_self, and_self, and_true, true_and, *])
namespace T
open PySem PySem.Spec PyProof.Rows L2 M Z
open Classical
section
variable {s : SD} {S : Sto} {x y z : D}
def isWh : D → Bool
  | .int _ => true
  | _ => false
theorem g_is_whole {n : String} (h : x.knd = some n) : goF v_is_whole [x] s = .ok (.d (.bl (isWh x))) s := by
  refine go_p ?_
  show Wp (b_is_whole ⟨[some (.d x)], s.st⟩) _ _
  unfold b_is_whole
  cases x <;> first | (walk_at "zs" <;> rfl) | cases h
def isAm (lo hi : Int) : D → Bool
  | .int i => decide (lo ≤ i) && decide (i ≤ hi)
  | _ => false
theorem g_is_among {n : String} {lo hi : Int} (h : x.knd = some n) : goF v_is_among [x, .int lo, .int hi] s = .ok (.d (.bl (isAm lo hi x))) s := by
  refine go_p ?_
  show Wp (b_is_among ⟨[some (.d x), some (.d (.int lo)), some (.d (.int hi))], s.st⟩) _ _
  unfold b_is_among
  have h1 : ∀ s : SD, goF v_is_whole [x] s = .ok (.d (.bl (isWh x))) s := fun s => g_is_whole h
  cases x <;> dsimp only [isWh] at h1 <;> first | (walk_at "zs" <;> rfl) | cases h | skip
  all_goals walk_at "zs"
  split <;> rename_i c <;> simp only [isAm] <;> simp only [decide_eq_true_eq] at c <;> simp [c]
/-- all signs of a text are some of those -/
def areSigns (z b : Str) : Bool := z.cps.toList.all fun c => decide (c ∈ b.cps.toList)
theorem g_are_signs {z b : Str} (hz : z.length ≤ 1000000) : goF v_are_signs [.str z, .str b] s = .ok (.d (.bl (areSigns z b))) s := by
  refine go_p ?_
  show Wp (b_are_signs ⟨[some (.d (.str z)), some (.d (.str b)), none], s.st⟩) _ _
  unfold b_are_signs
  walk_at "zs"
  rw [lc_map (fun d => match dIn d (.str b) with | some r => .bl r | none => .non) rfl Nl.d1 trivial (fun d hd => ?_) (by show (Z.signs z).length ≤ _; unfold Z.signs; rw [List.length_map]; exact Nat.le_trans hz (by decide))]
  · walk_at "zs"
    rw [all_own (bs := z.cps.toList.map fun c => decide (c ∈ b.cps.toList)) (by
      show dbls ((Z.signs z).map _) = _
      unfold Z.signs
      rw [List.map_map]
      exact dbls_map _ _)]
    walk_at "zs"
    unfold areSigns
    rw [List.all_map]
    rfl
  · obtain ⟨c, _, rfl⟩ := List.mem_map.mp hd
    unfold Z.Turn
    walk_at "zs"
    rw [inK_ok (r := decide (c ∈ b.cps.toList)) rfl]
    walk_at "zs"
    rfl
def isNm : D → Bool
  | .str z => decide (1 ≤ z.length) && decide (z.length ≤ 12) && areSigns z "abcdefghijklmnopqrstuvwxyz"
  | _ => false
theorem g_is_name {z : Str} (hz : z.length ≤ 1000000) : goF v_is_name [.str z] s = .ok (.d (.bl (isNm (.str z)))) s := by
  refine go_p ?_
  show Wp (b_is_name ⟨[some (.d (.str z))], s.st⟩) _ _
  unfold b_is_name
  have h1 := fun (s : SD) b => g_are_signs (s := s) (b := b) hz
  have h2 : z.length ≤ sizeLine := Nat.le_trans hz (by decide)
  walk_at "zs"
  have e1 : decide (1 ≤ (z.length : Int)) = decide (1 ≤ z.length) := by apply decide_eq_decide.mpr; omega
  have e2 : decide ((z.length : Int) ≤ 12) = decide (z.length ≤ 12) := by apply decide_eq_decide.mpr; omega
  rw [e1, e2]
  simp only [isNm]
  cases decide (1 ≤ z.length) <;> cases decide (z.length ≤ 12) <;> simp
abbrev M60 : Int := 1000000000000000000000000000000000000000000000000000000000000
def rmOk (l : Int) : D → Bool
  | .non => true
  | .int m => decide (l ≤ m) && decide (m ≤ M60)
  | _ => false
theorem g_need_room {l : Int} (h0 : 0 ≤ l) (h1 : l ≤ M60) (h : rmOk l x = true) : goF v_need_room [.int l, x] s = .ok (.d .non) s := by
  refine go_p ?_
  show Wp (b_need_room ⟨[some (.d (.int l)), some (.d x)], s.st⟩) _ _
  unfold b_need_room
  have k1 : ∀ (s : SD), goF v_is_among [.int l, .int 0, .int M60] s = .ok (.d (.bl true)) s := fun s => by
    rw [g_is_among (n := "int") rfl]
    simp only [isAm, h0, h1, decide_true, Bool.and_self]
  cases x with
  | non => walk_at "zs"
  | int m =>
    have k2 : ∀ (s : SD), goF v_is_among [.int m, .int l, .int M60] s = .ok (.d (.bl true)) s := fun s => by
      rw [g_is_among (n := "int") rfl]
      rw [show isAm l M60 (.int m) = true from h]
    walk_at "zs"
  | _ => cases h
theorem g_need_price {p : Int} (h0 : -M60 ≤ p) (h1 : p ≤ M60) : goF v_need_price [.int p] s = .ok (.d .non) s := by
  refine go_p ?_
  show Wp (b_need_price ⟨[some (.d (.int p))], s.st⟩) _ _
  unfold b_need_price
  have k1 : ∀ (s : SD), goF v_is_among [.int p, .int (0 - M60), .int M60] s = .ok (.d (.bl true)) s := fun s => by
    rw [g_is_among (n := "int") rfl]
    simp only [isAm, show (0 - M60 ≤ p) from by omega, h1, decide_true, Bool.and_self]
  walk_at "zs"
end
end T

namespace T
open PySem PySem.Spec PyProof.Rows L2 M Z
open Classical
/-! nets, at the value level -/
structure TD where
  tail : Str
  head : Str
  least : Int
  most : Option Int
  price : Int
structure ND where
  names : List Str
  ties : List (Int × TD)
  given : Int
def mostD : Option Int → D
  | none => .non
  | some m => .int m
def tieF (i : Int) (t : TD) : List (Str × D) := [("number", .int i), ("tail", .str t.tail), ("head", .str t.head), ("least", .int t.least), ("most", mostD t.most), ("price", .int t.price)]
def tieD (q : Int × TD) : D := .obj "Tie" (tieF q.1 q.2)
def rowsG (f : Int × TD → D) (ts : List (Int × TD)) : List (Key × D) := ts.map fun q => (.inl q.1, f q)
def netF (l d : Nat) (g : Int) : List (Str × D) := [("names", .cell l), ("rows", .cell d), ("last_given", .int g)]
structure NetAt (S : Sto) (n l d : Nat) (N : ND) : Prop where
  n : S.get n = some (.obj "Net" (netF l d N.given))
  l : S.get l = some (.lst (N.names.map .str))
  d : S.get d = some (.dct (rowsG tieD N.ties))
section
variable {s : SD} {S : Sto} {sl : List (Option Vl)} {x y z : D} {n l d : Nat} {N : ND} {g i : Int} {t : TD} {a b : D}
theorem nf_names : fval (netF l d g) "names" = some (.cell l) := rfl
theorem nf_rows : fval (netF l d g) "rows" = some (.cell d) := rfl
theorem nf_given : fval (netF l d g) "last_given" = some (.int g) := rfl
theorem tf_number : fval (tieF i t) "number" = some (.int i) := rfl
theorem tf_tail : fval (tieF i t) "tail" = some (.str t.tail) := rfl
theorem tf_head : fval (tieF i t) "head" = some (.str t.head) := rfl
theorem tf_least : fval (tieF i t) "least" = some (.int t.least) := rfl
theorem tf_most : fval (tieF i t) "most" = some (mostD t.most) := rfl
theorem tf_price : fval (tieF i t) "price" = some (.int t.price) := rfl
theorem mN_need_place : fval (netF l d g) "need_place" = none := rfl
theorem mN_put_numbered : fval (netF l d g) "put_numbered" = none := rfl
theorem mN_tie_of : fval (netF l d g) "tie_of" = none := rfl
end
local macro_rules | `(tactic| walk_at "zn") => `(tactic| simp only [↓Z.e_seq, ↓Z.e_asg, ↓Z.e_st_d, ↓Z.e_st_own, ↓Z.e_st_loc, ↓Z.e_next, ↓Z.e_break, ↓Z.e_cont, ↓Z.e_ifS, ↓Z.e_ret, ↓Z.e_retN, ↓Z.e_drop, ↓Z.e_never, ↓Z.e_c, ↓Z.e_var, ↓Z.e_z1, ↓Z.e_z2, ↓Z.e_via, ↓Z.e_a0, ↓Z.e_a, ↓Z.e_tup, ↓Z.e_lst, ↓Z.e_dnew, ↓Z.e_b, ↓Z.e_and, ↓Z.e_or, ↓Z.e_not, ↓Z.e_andV, ↓Z.e_orV, ↓Z.e_notV, ↓Z.e_if, ↓Z.e_call, ↓Z.e_meth, ↓Z.e_chain, ↓Z.e_no, ↓Z.e_pt, ↓Z.e_sl, Z.x_comp, Z.x_nx, Z.x_asg, Z.x_st, Z.x_if, Z.x_rt, Z.x_ret, Z.x_z2, Z.x_d, Z.x_via, Z.x_cons, Z.x_fix, Z.x_a, Z.x_tup, Z.x_lst, Z.x_ok, Z.x_not, Z.x_notV, Z.x_call, Z.x_self, Z.x_meth2, Z.x_meth1, Z.x_chain2, Z.x_chain1, Z.x_pt, Z.x_sl3, Z.x_sl2, Z.x_sl1, Z.bind_ok, Z.bind_bad, Z.bind_ite, Z.bind_bind, Z.seqK_nx, Z.seqK_rt, Z.seqK_bk, Z.seqK_ct, Z.told_d, Z.told_own, Z.told_loc, Z.toldK_own, Z.varK_own, Z.varK_d, Z.fix_d, Z.fix_own, Z.fix_loc, Z.fixK_own, Z.fixK_d, Z.celled_own, Z.celled_cell, Z.oB_bl, Z.chK_bl, Z.chainK_int, Z.contK_own, Z.cont_int, Z.cont_str, Z.cont_bl, Z.cont_non, Z.cont_lst, Z.cont_con, Z.cont_tup, Z.cont_dct, Z.cont_obj, Z.cont_cell, Z.cont_own, Z.cont_loc, Z.w_add, Z.addK_int, Z.addK_str, Z.addK_lst, Z.addK_tup, Z.w_sub, Z.w_mulG, Z.mulK_int, Z.mulK_lst, Z.w_mod, Z.w_div, Z.w_pow, Z.w_cmp, Z.w_neg, Z.w_min, Z.w_isi, Z.w_isN_n, Z.w_eq, Z.w_in, Z.w_ix, Z.w_len, Z.lenK_lst, Z.lenK_con, Z.lenK_dct, Z.w_fld, Z.isi_int, Z.isi_bl, Z.isi_str, Z.isi_non, Z.isi_lst, Z.isi_con, Z.isi_tup, Z.isi_dct, Z.isT, Z.w_isN_int, Z.w_isN_tup, Z.flv, ↓Z.e_lc, ↓Z.e_yes, ↓Z.e_itL, Z.x_itL_lst, Z.x_itL_con, ↓Z.e_itS, Z.x_itS, Z.wipe_mk, Z.zwipe_nil, Z.zwipe_cons, Z.w_dict, Z.dictK_dct, Z.w_list, Z.listK_lst, Z.listK_con, Z.listK_dct, Z.w_int_bl, Z.w_int_int, Z.w_sl, Z.slK_lst, Z.slK_con, ↓Z.e_rg1, Z.x_rg1, ↓Z.e_for, Z.x_turn, ↓Z.e_zip, Z.x_zip1, ↓Z.e_en, Z.x_en_lst, Z.w_unp, Z.unp2, Z.unp3, Z.unp4, Z.unp5, Z.setAll_cons, Z.setAll_nil, ↓Z.e_m1s, Z.x_m1s, Z.slK_str, Z.lenK_str, ↓Z.e_m2, Z.x_m2, Z.x_isL, Z.isLK_lst, Z.x_isD, Z.isDK_dct, Z.x_rv, Z.w_b2, Z.b2_append, Z.b2_extend, Z.w_b1, Z.b1_clear, Z.mod_cell, Z.mod_loc, Z.modK_own, ↓Z.e_sf, Z.x_sf1, Z.x_sf2, Z.x_sf3, ↓Z.e_mk, Z.x_mk, Z.x_sto, ↓Z.e_dp, Z.x_dp1, Z.x_dp2, Z.x_dp3, Z.x_dp4, Z.eqK_int, Z.eqK_str, Z.w_ne, Z.neK_nil, Z.neK_dct, Z.eqK_nil, Z.frz_new, Z.Sto.put_same, Z.put_put, Z.new_put, Z.new_get, Z.sfn0, Z.sfn1, Z.sfn2, Z.sfn3, Z.sfn4, Z.sfn5, Z.sfn6, Z.sfn7, Z.sfn8, decide_false, decide_true, Z.Wp_bad, Z.Wp_ok, Z.Wp_ite, List.set_cons_zero, List.set_cons_succ, List.getElem?_cons_zero, List.getElem?_cons_succ, List.cons_append, List.nil_append, List.append_nil, List.isEmpty_nil, List.isEmpty_cons, if_true, if_false, Bool.false_eq_true, true_implies, false_implies, implies_true, reduceCtorEq, Bool.not_true, Bool.not_false, eq_self, and_self, and_true, true_and, Z.fldK_ok T.nf_names, Z.fldK_ok T.nf_rows, Z.fldK_ok T.nf_given, Z.fldK_ok T.tf_number, Z.fldK_ok T.tf_tail, Z.fldK_ok T.tf_head, Z.fldK_ok T.tf_least, Z.fldK_ok T.tf_most, Z.fldK_ok T.tf_price, Z.methK_obj T.mN_need_place, Z.methK_obj T.mN_put_numbered, Z.methK_obj T.mN_tie_of, *])
section
variable {s : SD} {S : Sto} {sl : List (Option Vl)} {x y z : D} {n l d : Nat} {N : ND} {g i : Int} {t : TD} {a b : D}
theorem g_places (h : NetAt S n l d N) : goF v_Net_places [.cell n] ⟨sl, S⟩ = .ok (.own (.lst (N.names.map .str))) ⟨sl, S⟩ := by
  refine go_e ?_
  show Wp (b_Net_places ⟨[some (.d (.cell n))], S⟩) _ _
  unfold b_Net_places
  have h1 := h.n
  have h2 := h.l
  walk_at "zn"
theorem g_given (h : NetAt S n l d N) : goF v_Net_given [.cell n] ⟨sl, S⟩ = .ok (.d (.int N.given)) ⟨sl, S⟩ := by
  refine go_e ?_
  show Wp (b_Net_given ⟨[some (.d (.cell n))], S⟩) _ _
  unfold b_Net_given
  have h1 := h.n
  walk_at "zn"
theorem scs_strs : ∀ l : List Str, scs (l.map D.str) = some (l.map V.str)
  | [] => rfl
  | a :: l => by rw [List.map_cons, scs, scs_strs l]; rfl
theorem inV_str (z : Str) : ∀ l : List Str, inV (.str z) (l.map V.str) = decide (z ∈ l)
  | [] => rfl
  | y :: r => by
    have ih := inV_str z r
    unfold inV at ih ⊢
    rw [List.map_cons, List.any_cons, ih]
    rw [Bool.eq_iff_iff]
    simp only [Bool.or_eq_true, decide_eq_true_eq, List.mem_cons]
    have e : eqV (V.str y) (V.str z) = true ↔ z = y := by
      show (y == z) = true ↔ _
      rw [beq_iff_eq]
      exact eq_comm
    rw [e]
theorem in_names {w : Str} {l : List Str} : dIn (.str w) (.lst (l.map .str)) = some (decide (w ∈ l)) := by
  unfold dIn
  simp only [scs_strs, D.sc]
  rw [inV_str]
theorem g_need_place {w : Str} (h : NetAt S n l d N) (hw : w ∈ N.names) : goF v_Net_need_place [.cell n, .str w] ⟨sl, S⟩ = .ok (.d .non) ⟨sl, S⟩ := by
  refine go_e ?_
  show Wp (b_Net_need_place ⟨[some (.d (.cell n)), some (.d (.str w))], S⟩) _ _
  unfold b_Net_need_place
  have h1 := h.n
  have h2 := h.l
  have h3 := fun s : SD => inK_ok (s := s) (neg := true) (in_names (w := w) (l := N.names))
  rw [decide_eq_true hw] at h3
  walk_at "zn"
def tieOf (ts : List (Int × TD)) (i : Int) : Option TD := (ts.find? fun q => decide (q.1 = i)).map (·.2)
theorem dval_rows {f : Int × TD → D} : ∀ ts : List (Int × TD), dval (rowsG f ts) (.inl i) = (tieOf ts i).map fun t => f (i, t)
  | [] => rfl
  | q :: ts => by
    have ih := dval_rows (f := f) ts
    unfold dval tieOf rowsG at *
    rw [List.map_cons, List.find?_cons, List.find?_cons]
    by_cases c : q.1 = i
    · simp only [c, decide_true, Option.map_some]
      rw [← c]
    · rw [show decide ((Sum.inl q.1 : Key) = .inl i) = false from decide_eq_false fun e => c (Sum.inl.inj e), show decide (q.1 = i) = false from decide_eq_false c]
      exact ih
theorem g_tie_of (h : NetAt S n l d N) (ht : tieOf N.ties i = some t) : goF v_Net_tie_of [.cell n, .int i] ⟨sl, S⟩ = .ok (.d (tieD (i, t))) ⟨sl, S⟩ := by
  refine go_e ?_
  show Wp (b_Net_tie_of ⟨[some (.d (.cell n)), some (.d (.int i))], S⟩) _ _
  unfold b_Net_tie_of
  have h1 := h.n
  have h2 := h.d
  have h3 := fun s : SD => g_is_whole (s := s) (x := .int i) rfl
  have e := dval_rows (f := tieD) (i := i) N.ties
  rw [ht] at e
  have h4 : dIn (.int i) (.dct (rowsG tieD N.ties)) = some true := by
    show some (dval (rowsG tieD N.ties) (.inl i)).isSome = _
    rw [e]; rfl
  have h5 : dIx (.dct (rowsG tieD N.ties)) (.int i) = some (tieD (i, t)) := e
  have h6 := fun s : SD => inK_ok (s := s) (neg := true) h4
  have h7 := fun s : SD => ixK_ok (s := s) h5
  dsimp only [isWh] at h3
  walk_at "zn"
/-- numbers that rise -/
def Rise (rs : List (Int × TD)) : Prop := (rs.map (·.1)).Pairwise (· < ·)
theorem srt_rise {is : List Int} (h : is.Pairwise (· < ·)) : srt is = is :=
  (srt_is (ys := is) (List.Perm.refl _) (h.imp fun h => Int.le_of_lt h)).symm
theorem ikeys_rows {f : Int × TD → D} : ∀ ts : List (Int × TD), ikeys (rowsG f ts) = some (ts.map (·.1))
  | [] => rfl
  | q :: ts => by
    have ih := ikeys_rows (f := f) ts
    unfold rowsG at *
    rw [List.map_cons, ikeys, ih, List.map_cons]
theorem dints_ints (l : List Int) : dints (l.map D.int) = some l := by
  have := dints_map (fun i : Int => i) l
  simpa using this
theorem tieOf_mem : ∀ {ts : List (Int × TD)} (hr : Rise ts) {q : Int × TD}, q ∈ ts → tieOf ts q.1 = some q.2
  | [], _, q, h => by cases h
  | a :: ts, hr, q, h => by
    unfold Rise at hr
    rw [List.map_cons, List.pairwise_cons] at hr
    unfold tieOf
    rw [List.find?_cons]
    rcases List.mem_cons.mp h with rfl | h
    · simp
    · have c : a.1 ≠ q.1 := fun e => by
        have := hr.1 q.1 (List.mem_map.mpr ⟨q, h, rfl⟩)
        omega
      rw [show decide (a.1 = q.1) = false from decide_eq_false c]
      exact tieOf_mem hr.2 h
theorem g_ties (h : NetAt S n l d N) (hr : Rise N.ties) (hl : N.ties.length ≤ 40) : goF v_Net_ties [.cell n] ⟨sl, S⟩ = .ok (.own (.lst (N.ties.map tieD))) ⟨sl, S⟩ := by
  refine go_e ?_
  show Wp (b_Net_ties ⟨[some (.d (.cell n)), none], S⟩) _ _
  unfold b_Net_ties
  have h1 := h.n
  have h2 := h.d
  have e1 : dints ((rowsG tieD N.ties).map fun kv => dkey kv.1) = some (N.ties.map (·.1)) := by
    have : ((rowsG tieD N.ties).map fun kv => dkey kv.1) = (N.ties.map (·.1)).map D.int := by
      unfold rowsG
      rw [List.map_map, List.map_map]
      rfl
    rw [this]
    exact dints_ints _
  have h3 := fun s : SD => w_sortedL (s := s) (a := .own (.lst ((rowsG tieD N.ties).map fun kv => dkey kv.1))) rfl e1
  rw [srt_rise hr] at h3
  walk_at "zn"
  rw [lc_map (fun x => match x with | .int i => (match tieOf N.ties i with | some t => tieD (i, t) | none => .non) | _ => .non) rfl Nl.d1 trivial (fun x hx => ?_) (by show (List.map D.int _).length ≤ _; rw [List.length_map, List.length_map]; exact Nat.le_trans hl (by decide))]
  · walk_at "zn"
    rw [List.map_map, List.map_map]
    show some (Vl.own (.lst _)) = _
    congr 3
    refine List.map_congr_left fun q hq => ?_
    show (match tieOf N.ties q.1 with | some t => tieD (q.1, t) | none => .non) = tieD q
    rw [tieOf_mem hr hq]
  · obtain ⟨i, hi, rfl⟩ := List.mem_map.mp hx
    obtain ⟨q, hq, rfl⟩ := List.mem_map.mp hi
    have ht := tieOf_mem hr hq
    have e := dval_rows (f := tieD) (i := q.1) N.ties
    rw [ht] at e
    have h5 : dIx (.dct (rowsG tieD N.ties)) (.int q.1) = some (tieD q) := e
    have h7 := fun s : SD => ixK_ok (s := s) h5
    unfold Z.Turn
    walk_at "zn"
theorem g_put_place {w : Str} (h : NetAt S n l d N) (hw : isNm (.str w) = true) (hz : w.length ≤ 1000000) (hn : w ∉ N.names) (hl : N.names.length < 14) :
    goF v_Net_put_place [.cell n, .str w] ⟨sl, S⟩ = .ok (.d .non) ⟨sl, S.put l (.lst ((N.names ++ [w]).map .str))⟩ := by
  refine go_e ?_
  show Wp (b_Net_put_place ⟨[some (.d (.cell n)), some (.d (.str w))], S⟩) _ _
  unfold b_Net_put_place
  have h1 := h.n
  have h2 := h.l
  have h3 := fun s : SD => g_is_name (s := s) hz
  have h4 := fun s : SD => inK_ok (s := s) (neg := false) (in_names (w := w) (l := N.names))
  rw [decide_eq_false hn] at h4
  have h5 : ((((N.names.map D.str).length : Nat) : Int) = 14) = False := by
    rw [List.length_map]
    exact eq_false (by omega)
  have h7 : (N.names.map D.str).length < sizeLine := by rw [List.length_map]; exact Nat.lt_trans hl (by decide)
  walk_at "zn"
  simp only [List.map_append, List.map_cons, List.map_nil]
/-! deeds at rows -/
def putT (ts : List (Int × TD)) (i : Int) (t : TD) : List (Int × TD) := if (ts.any fun q => decide (q.1 = i)) = true then ts.map (fun q => if q.1 = i then (i, t) else q) else ts ++ [(i, t)]
def dropT (ts : List (Int × TD)) (i : Int) : List (Int × TD) := ts.filter fun q => decide (q.1 ≠ i)
theorem any_rows {f : Int × TD → D} (ts : List (Int × TD)) : ((rowsG f ts).any fun kv => decide (kv.1 = .inl i)) = ts.any fun q => decide (q.1 = i) := by
  unfold rowsG
  rw [List.any_map]
  congr 1
  funext q
  apply decide_eq_decide.mpr
  exact ⟨fun h => Sum.inl.inj h, fun h => by show (Sum.inl q.1 : Key) = _; rw [h]⟩
theorem dput_rows {f : Int × TD → D} (ts : List (Int × TD)) : dput (rowsG f ts) (.inl i) (f (i, t)) = rowsG f (putT ts i t) := by
  unfold dput putT
  rw [any_rows]
  split
  · unfold rowsG
    rw [List.map_map, List.map_map]
    refine List.map_congr_left fun q _ => ?_
    show (if (Sum.inl q.1 : Key) = .inl i then _ else _) = _
    by_cases c : q.1 = i
    · simp [c]
    · have c2 : ¬ (Sum.inl q.1 : Key) = .inl i := fun e => c (Sum.inl.inj e)
      simp [c, c2]
  · unfold rowsG
    rw [List.map_append]
    rfl
theorem ddrop_rows {f : Int × TD → D} (ts : List (Int × TD)) : ddrop (rowsG f ts) (.inl i) = rowsG f (dropT ts i) := by
  unfold ddrop dropT rowsG
  rw [List.filter_map]
  congr 1
  refine List.filter_congr fun q _ => ?_
  apply decide_eq_decide.mpr
  exact not_congr ⟨fun h => Sum.inl.inj h, fun h => by show (Sum.inl q.1 : Key) = _; rw [h]⟩
theorem NetAt.ne (h : NetAt S n l d N) : n ≠ l ∧ n ≠ d ∧ l ≠ d := by
  have h1 := h.n
  have h2 := h.l
  have h3 := h.d
  refine ⟨fun e => ?_, fun e => ?_, fun e => ?_⟩
  · rw [e, h2] at h1; cases h1
  · rw [e, h3] at h1; cases h1
  · rw [e, h3] at h2; cases h2
theorem pt1 : fput "number" x [] = ([("number", x)] : List (Str × D)) := rfl
theorem pt2 : fput "tail" x [("number", a)] = ([("number", a), ("tail", x)] : List (Str × D)) := rfl
variable {c e m : D}
theorem pt3 : fput "head" x [("number", a), ("tail", b)] = ([("number", a), ("tail", b), ("head", x)] : List (Str × D)) := rfl
theorem pt4 : fput "least" x [("number", a), ("tail", b), ("head", c)] = ([("number", a), ("tail", b), ("head", c), ("least", x)] : List (Str × D)) := rfl
theorem pt5 : fput "most" x [("number", a), ("tail", b), ("head", c), ("least", e)] = ([("number", a), ("tail", b), ("head", c), ("least", e), ("most", x)] : List (Str × D)) := rfl
theorem pt6 : fput "price" x [("number", a), ("tail", b), ("head", c), ("least", e), ("most", m)] = ([("number", a), ("tail", b), ("head", c), ("least", e), ("most", m), ("price", x)] : List (Str × D)) := rfl
theorem pn1 : fput "names" x [] = ([("names", x)] : List (Str × D)) := rfl
theorem pn2 : fput "rows" x [("names", a)] = ([("names", a), ("rows", x)] : List (Str × D)) := rfl
theorem pn3 : fput "last_given" x [("names", a), ("rows", b)] = ([("names", a), ("rows", b), ("last_given", x)] : List (Str × D)) := rfl
theorem sf_given {v : Vl} : sfK ["Net"] "last_given" (.int i) v s (some (.obj "Net" (netF l d g))) = (s.mod (.obj "Net" (netF l d i)) v).bind nxK := sfK_ok (by unfold netF; simp)
theorem g_Tie : goF v_Tie_init [.cell S.nx, .int i, .str t.tail, .str t.head, .int t.least, mostD t.most, .int t.price] ⟨sl, S.new (.obj "Tie" [])⟩ = .ok (.d .non) ⟨sl, S.new (tieD (i, t))⟩ := by
  refine go_e ?_
  show Wp (b_Tie_init ⟨[some (.d (.cell S.nx)), some (.d (.int i)), some (.d (.str t.tail)), some (.d (.str t.head)), some (.d (.int t.least)), some (.d (mostD t.most)), some (.d (.int t.price))], S.new (.obj "Tie" [])⟩) _ _
  unfold b_Tie_init
  simp only [↓Z.e_seq, ↓Z.e_asg, ↓Z.e_st_d, ↓Z.e_st_own, ↓Z.e_st_loc, ↓Z.e_next, ↓Z.e_break, ↓Z.e_cont, ↓Z.e_ifS, ↓Z.e_ret, ↓Z.e_retN, ↓Z.e_drop, ↓Z.e_never, ↓Z.e_c, ↓Z.e_var, ↓Z.e_z1, ↓Z.e_z2, ↓Z.e_via, ↓Z.e_a0, ↓Z.e_a, ↓Z.e_tup, ↓Z.e_lst, ↓Z.e_dnew, ↓Z.e_b, ↓Z.e_and, ↓Z.e_or, ↓Z.e_not, ↓Z.e_andV, ↓Z.e_orV, ↓Z.e_notV, ↓Z.e_if, ↓Z.e_call, ↓Z.e_meth, ↓Z.e_chain, ↓Z.e_no, ↓Z.e_pt, ↓Z.e_sl, Z.x_comp, Z.x_nx, Z.x_asg, Z.x_st, Z.x_if, Z.x_rt, Z.x_ret, Z.x_z2, Z.x_d, Z.x_via, Z.x_cons, Z.x_fix, Z.x_a, Z.x_tup, Z.x_lst, Z.x_ok, Z.x_not, Z.x_notV, Z.x_call, Z.x_self, Z.x_meth2, Z.x_meth1, Z.x_chain2, Z.x_chain1, Z.x_pt, Z.x_sl3, Z.x_sl2, Z.x_sl1, Z.bind_ok, Z.bind_bad, Z.bind_ite, Z.bind_bind, Z.seqK_nx, Z.seqK_rt, Z.seqK_bk, Z.seqK_ct, Z.told_d, Z.told_own, Z.told_loc, Z.toldK_own, Z.varK_own, Z.varK_d, Z.fix_d, Z.fix_own, Z.fix_loc, Z.fixK_own, Z.fixK_d, Z.celled_own, Z.celled_cell, Z.oB_bl, Z.chK_bl, Z.chainK_int, Z.contK_own, Z.cont_int, Z.cont_str, Z.cont_bl, Z.cont_non, Z.cont_lst, Z.cont_con, Z.cont_tup, Z.cont_dct, Z.cont_obj, Z.cont_cell, Z.cont_own, Z.cont_loc, Z.w_add, Z.addK_int, Z.addK_str, Z.addK_lst, Z.addK_tup, Z.w_sub, Z.w_mulG, Z.mulK_int, Z.mulK_lst, Z.w_mod, Z.w_div, Z.w_pow, Z.w_cmp, Z.w_neg, Z.w_min, Z.w_isi, Z.w_isN_n, Z.w_eq, Z.w_in, Z.w_ix, Z.w_len, Z.lenK_lst, Z.lenK_con, Z.lenK_dct, Z.w_fld, Z.isi_int, Z.isi_bl, Z.isi_str, Z.isi_non, Z.isi_lst, Z.isi_con, Z.isi_tup, Z.isi_dct, Z.isT, Z.w_isN_int, Z.w_isN_tup, Z.flv, ↓Z.e_lc, ↓Z.e_yes, ↓Z.e_itL, Z.x_itL_lst, Z.x_itL_con, ↓Z.e_itS, Z.x_itS, Z.wipe_mk, Z.zwipe_nil, Z.zwipe_cons, Z.w_dict, Z.dictK_dct, Z.w_list, Z.listK_lst, Z.listK_con, Z.listK_dct, Z.w_int_bl, Z.w_int_int, Z.w_sl, Z.slK_lst, Z.slK_con, ↓Z.e_rg1, Z.x_rg1, ↓Z.e_for, Z.x_turn, ↓Z.e_zip, Z.x_zip1, ↓Z.e_en, Z.x_en_lst, Z.w_unp, Z.unp2, Z.unp3, Z.unp4, Z.unp5, Z.setAll_cons, Z.setAll_nil, ↓Z.e_m1s, Z.x_m1s, Z.slK_str, Z.lenK_str, ↓Z.e_m2, Z.x_m2, Z.x_isL, Z.isLK_lst, Z.x_isD, Z.isDK_dct, Z.x_rv, Z.w_b2, Z.b2_append, Z.b2_extend, Z.w_b1, Z.b1_clear, Z.mod_cell, Z.mod_loc, Z.modK_own, ↓Z.e_sf, Z.x_sf1, Z.x_sf2, Z.x_sf3, ↓Z.e_mk, Z.x_mk, Z.x_sto, ↓Z.e_dp, Z.x_dp1, Z.x_dp2, Z.x_dp3, Z.x_dp4, Z.eqK_int, Z.eqK_str, Z.w_ne, Z.neK_nil, Z.neK_dct, Z.eqK_nil, Z.frz_new, Z.Sto.put_same, Z.put_put, Z.new_put, Z.new_get, Z.sfn0, Z.sfn1, Z.sfn2, Z.sfn3, Z.sfn4, Z.sfn5, Z.sfn6, Z.sfn7, Z.sfn8, decide_false, decide_true, Z.Wp_bad, Z.Wp_ok, Z.Wp_ite, List.set_cons_zero, List.set_cons_succ, List.getElem?_cons_zero, List.getElem?_cons_succ, List.cons_append, List.nil_append, List.append_nil, List.isEmpty_nil, List.isEmpty_cons, if_true, if_false, Bool.false_eq_true, true_implies, false_implies, implies_true, reduceCtorEq, Bool.not_true, Bool.not_false, eq_self, and_self, and_true, true_and, pt1, pt2, pt3, pt4, pt5, pt6]
  rfl
end
local macro_rules | `(tactic| walk_at "zm") => `(tactic| simp only [↓Z.e_seq, ↓Z.e_asg, ↓Z.e_st_d, ↓Z.e_st_own, ↓Z.e_st_loc, ↓Z.e_next, ↓Z.e_break, ↓Z.e_cont, ↓Z.e_ifS, ↓Z.e_ret, ↓Z.e_retN, ↓Z.e_drop, ↓Z.e_never, ↓Z.e_c, ↓Z.e_var, ↓Z.e_z1, ↓Z.e_z2, ↓Z.e_via, ↓Z.e_a0, ↓Z.e_a, ↓Z.e_tup, ↓Z.e_lst, ↓Z.e_dnew, ↓Z.e_b, ↓Z.e_and, ↓Z.e_or, ↓Z.e_not, ↓Z.e_andV, ↓Z.e_orV, ↓Z.e_notV, ↓Z.e_if, ↓Z.e_call, ↓Z.e_meth, ↓Z.e_chain, ↓Z.e_no, ↓Z.e_pt, ↓Z.e_sl, Z.x_comp, Z.x_nx, Z.x_asg, Z.x_st, Z.x_if, Z.x_rt, Z.x_ret, Z.x_z2, Z.x_d, Z.x_via, Z.x_cons, Z.x_fix, Z.x_a, Z.x_tup, Z.x_lst, Z.x_ok, Z.x_not, Z.x_notV, Z.x_call, Z.x_self, Z.x_meth2, Z.x_meth1, Z.x_chain2, Z.x_chain1, Z.x_pt, Z.x_sl3, Z.x_sl2, Z.x_sl1, Z.bind_ok, Z.bind_bad, Z.bind_ite, Z.bind_bind, Z.seqK_nx, Z.seqK_rt, Z.seqK_bk, Z.seqK_ct, Z.told_d, Z.told_own, Z.told_loc, Z.toldK_own, Z.varK_own, Z.varK_d, Z.fix_d, Z.fix_own, Z.fix_loc, Z.fixK_own, Z.fixK_d, Z.celled_own, Z.celled_cell, Z.oB_bl, Z.chK_bl, Z.chainK_int, Z.contK_own, Z.cont_int, Z.cont_str, Z.cont_bl, Z.cont_non, Z.cont_lst, Z.cont_con, Z.cont_tup, Z.cont_dct, Z.cont_obj, Z.cont_cell, Z.cont_own, Z.cont_loc, Z.w_add, Z.addK_int, Z.addK_str, Z.addK_lst, Z.addK_tup, Z.w_sub, Z.w_mulG, Z.mulK_int, Z.mulK_lst, Z.w_mod, Z.w_div, Z.w_pow, Z.w_cmp, Z.w_neg, Z.w_min, Z.w_isi, Z.w_isN_n, Z.w_eq, Z.w_in, Z.w_ix, Z.w_len, Z.lenK_lst, Z.lenK_con, Z.lenK_dct, Z.w_fld, Z.isi_int, Z.isi_bl, Z.isi_str, Z.isi_non, Z.isi_lst, Z.isi_con, Z.isi_tup, Z.isi_dct, Z.isT, Z.w_isN_int, Z.w_isN_tup, Z.flv, ↓Z.e_lc, ↓Z.e_yes, ↓Z.e_itL, Z.x_itL_lst, Z.x_itL_con, ↓Z.e_itS, Z.x_itS, Z.wipe_mk, Z.zwipe_nil, Z.zwipe_cons, Z.w_dict, Z.dictK_dct, Z.w_list, Z.listK_lst, Z.listK_con, Z.listK_dct, Z.w_int_bl, Z.w_int_int, Z.w_sl, Z.slK_lst, Z.slK_con, ↓Z.e_rg1, Z.x_rg1, ↓Z.e_for, Z.x_turn, ↓Z.e_zip, Z.x_zip1, ↓Z.e_en, Z.x_en_lst, Z.w_unp, Z.unp2, Z.unp3, Z.unp4, Z.unp5, Z.setAll_cons, Z.setAll_nil, ↓Z.e_m1s, Z.x_m1s, Z.slK_str, Z.lenK_str, ↓Z.e_m2, Z.x_m2, Z.x_isL, Z.isLK_lst, Z.x_isD, Z.isDK_dct, Z.x_rv, Z.w_b2, Z.b2_append, Z.b2_extend, Z.w_b1, Z.b1_clear, Z.mod_cell, Z.mod_loc, Z.modK_own, ↓Z.e_sf, Z.x_sf1, Z.x_sf2, Z.x_sf3, ↓Z.e_mk, Z.x_mk, Z.x_sto, ↓Z.e_dp, Z.x_dp1, Z.x_dp2, Z.x_dp3, Z.x_dp4, Z.eqK_int, Z.eqK_str, Z.w_ne, Z.neK_nil, Z.neK_dct, Z.eqK_nil, Z.frz_new, Z.Sto.put_same, Z.put_put, Z.new_put, Z.new_get, Z.sfn0, Z.sfn1, Z.sfn2, Z.sfn3, Z.sfn4, Z.sfn5, Z.sfn6, Z.sfn7, Z.sfn8, decide_false, decide_true, Z.Wp_bad, Z.Wp_ok, Z.Wp_ite, List.set_cons_zero, List.set_cons_succ, List.getElem?_cons_zero, List.getElem?_cons_succ, List.cons_append, List.nil_append, List.append_nil, List.isEmpty_nil, List.isEmpty_cons, if_true, if_false, Bool.false_eq_true, true_implies, false_implies, implies_true, reduceCtorEq, Bool.not_true, Bool.not_false, eq_self, and_self, and_true, true_and, Z.fldK_ok T.nf_names, Z.fldK_ok T.nf_rows, Z.fldK_ok T.nf_given, Z.fldK_ok T.tf_number, Z.fldK_ok T.tf_tail, Z.fldK_ok T.tf_head, Z.fldK_ok T.tf_least, Z.fldK_ok T.tf_most, Z.fldK_ok T.tf_price, Z.methK_obj T.mN_need_place, Z.methK_obj T.mN_put_numbered, Z.methK_obj T.mN_tie_of, T.sf_given, *])
section
variable {s : SD} {S : Sto} {sl : List (Option Vl)} {x y z : D} {n l d : Nat} {N : ND} {g i : Int} {t : TD} {a b : D}
structure TieOk (t : TD) : Prop where
  l0 : 0 ≤ t.least
  l1 : t.least ≤ M60
  m : rmOk t.least (mostD t.most) = true
  p0 : -M60 ≤ t.price
  p1 : t.price ≤ M60
theorem g_put_numbered (h : NetAt S n l d N) (hn : n < S.nx) (hd : d < S.nx) (hl : l < S.nx) (h1 : t.tail ∈ N.names) (h2 : t.head ∈ N.names) (h3 : t.tail ≠ t.head) (ok : TieOk t) (h4 : N.ties.length < 40) :
    goF v_Net_put_numbered [.cell n, .int i, .str t.tail, .str t.head, .int t.least, mostD t.most, .int t.price] ⟨sl, S⟩ = .ok (.d (.int i)) ⟨sl, (S.tick.put d (.dct (rowsG tieD (putT N.ties i t)))).put n (.obj "Net" (netF l d i))⟩ := by
  refine go_e ?_
  show Wp (b_Net_put_numbered ⟨[some (.d (.cell n)), some (.d (.int i)), some (.d (.str t.tail)), some (.d (.str t.head)), some (.d (.int t.least)), some (.d (mostD t.most)), some (.d (.int t.price))], S⟩) _ _
  unfold b_Net_put_numbered
  have q1 := h.n
  have q2 := h.l
  have q3 := h.d
  have k1 := fun sl => g_need_place (sl := sl) h h1
  have k2 := fun sl => g_need_place (sl := sl) h h2
  have k3 := fun s => g_need_room (s := s) ok.l0 ok.l1 ok.m
  have k4 := fun s => g_need_price (s := s) ok.p0 ok.p1
  have e3 := decide_eq_false h3
  have e4 : decide ((((rowsG tieD N.ties).length : Nat) : Int) = 40) = false := by
    refine decide_eq_false ?_
    unfold rowsG
    rw [List.length_map]
    omega
  have e5 : S.tick.get n = _ := (tick_ne (Nat.ne_of_lt hn)).trans q1
  have e6 : S.tick.get d = _ := (tick_ne (Nat.ne_of_lt hd)).trans q3
  have e7 := fun sl => mkR_ok (sl := sl) (S := S) (i := S.nx) (F := v_Tie_init) fun s => g_Tie (sl := s.sl) (S := S) (i := i) (t := t)
  have e8 : ∀ x : D, (S.tick.put d x).get n = some (.obj "Net" (netF l d N.given)) := fun x => (Sto.put_ne h.ne.2.1).trans e5
  have e9 := fun s a => sto_put (s := s) (a := a) (x := tieD (i, t)) (z := .int i) (ks := rowsG tieD N.ties) rfl (by unfold rowsG; rw [List.length_map]; exact Nat.lt_trans h4 (by decide))
  simp only [dput_rows] at e9
  walk_at "zm"
theorem g_put_tie (h : NetAt S n l d N) (hn : n < S.nx) (hd : d < S.nx) (hl : l < S.nx) (h1 : t.tail ∈ N.names) (h2 : t.head ∈ N.names) (h3 : t.tail ≠ t.head) (ok : TieOk t) (h4 : N.ties.length < 40) :
    goF v_Net_put_tie [.cell n, .str t.tail, .str t.head, .int t.least, mostD t.most, .int t.price] ⟨sl, S⟩ = .ok (.d (.int (N.given + 1))) ⟨sl, (S.tick.put d (.dct (rowsG tieD (putT N.ties (N.given + 1) t)))).put n (.obj "Net" (netF l d (N.given + 1)))⟩ := by
  refine go_e ?_
  show Wp (b_Net_put_tie ⟨[some (.d (.cell n)), some (.d (.str t.tail)), some (.d (.str t.head)), some (.d (.int t.least)), some (.d (mostD t.most)), some (.d (.int t.price))], S⟩) _ _
  unfold b_Net_put_tie
  have q1 := h.n
  have k1 := fun sl => g_put_numbered (sl := sl) (i := N.given + 1) h hn hd hl h1 h2 h3 ok h4
  walk_at "zm"
theorem g_drop_tie (h : NetAt S n l d N) (ht : tieOf N.ties i = some t) : goF v_Net_drop_tie [.cell n, .int i] ⟨sl, S⟩ = .ok (.d .non) ⟨sl, S.put d (.dct (rowsG tieD (dropT N.ties i)))⟩ := by
  refine go_e ?_
  show Wp (b_Net_drop_tie ⟨[some (.d (.cell n)), some (.d (.int i))], S⟩) _ _
  unfold b_Net_drop_tie
  have q1 := h.n
  have q3 := h.d
  have k1 := fun sl => g_tie_of (sl := sl) h ht
  have e := dval_rows (f := tieD) (i := i) N.ties
  rw [ht] at e
  have e1 := fun s a => b2_dpop (s := s) (a := a) (z := .int i) rfl e
  simp only [ddrop_rows] at e1
  walk_at "zm"
theorem g_put_row (h : NetAt S n l d N) (hn : n < S.nx) (hd : d < S.nx) : True := trivial
theorem g_set_room {le : Int} {mo : Option Int} (h : NetAt S n l d N) (hn : n < S.nx) (hd : d < S.nx) (ht : tieOf N.ties i = some t) (ok : TieOk { t with least := le, most := mo }) (h4 : N.ties.length ≤ 40) :
    goF v_Net_set_room [.cell n, .int i, .int le, mostD mo] ⟨sl, S⟩ = .ok (.d .non) ⟨sl, S.tick.put d (.dct (rowsG tieD (putT N.ties i { t with least := le, most := mo })))⟩ := by
  refine go_e ?_
  show Wp (b_Net_set_room ⟨[some (.d (.cell n)), some (.d (.int i)), some (.d (.int le)), some (.d (mostD mo)), none], S⟩) _ _
  unfold b_Net_set_room
  have q1 := h.n
  have q3 := h.d
  have k1 := fun sl => g_tie_of (sl := sl) h ht
  have k3 := fun s => g_need_room (s := s) ok.l0 ok.l1 ok.m
  have e5 : S.tick.get n = _ := (tick_ne (Nat.ne_of_lt hn)).trans q1
  have e6 : S.tick.get d = _ := (tick_ne (Nat.ne_of_lt hd)).trans q3
  have e7 := fun sl => mkR_ok (sl := sl) (S := S) (i := S.nx) (F := v_Tie_init) fun s => g_Tie (sl := s.sl) (S := S) (i := i) (t := { t with least := le, most := mo })
  have e9 := fun s a => sto_put (s := s) (a := a) (x := tieD (i, { t with least := le, most := mo })) (z := .int i) (ks := rowsG tieD N.ties) rfl (by unfold rowsG; rw [List.length_map]; exact Nat.lt_of_le_of_lt h4 (by decide))
  simp only [dput_rows] at e9
  dsimp only at e7 k3
  have e10 : tieD (i, t) = .obj "Tie" (tieF i t) := rfl
  rw [e10] at k1
  walk_at "zm"
theorem g_set_price {pr : Int} (h : NetAt S n l d N) (hn : n < S.nx) (hd : d < S.nx) (ht : tieOf N.ties i = some t) (p0 : -M60 ≤ pr) (p1 : pr ≤ M60) (h4 : N.ties.length ≤ 40) :
    goF v_Net_set_price [.cell n, .int i, .int pr] ⟨sl, S⟩ = .ok (.d .non) ⟨sl, S.tick.put d (.dct (rowsG tieD (putT N.ties i { t with price := pr })))⟩ := by
  refine go_e ?_
  show Wp (b_Net_set_price ⟨[some (.d (.cell n)), some (.d (.int i)), some (.d (.int pr)), none], S⟩) _ _
  unfold b_Net_set_price
  have q1 := h.n
  have q3 := h.d
  have k1 := fun sl => g_tie_of (sl := sl) h ht
  have k3 := fun s => g_need_price (s := s) p0 p1
  have e5 : S.tick.get n = _ := (tick_ne (Nat.ne_of_lt hn)).trans q1
  have e6 : S.tick.get d = _ := (tick_ne (Nat.ne_of_lt hd)).trans q3
  have e7 := fun sl => mkR_ok (sl := sl) (S := S) (i := S.nx) (F := v_Tie_init) fun s => g_Tie (sl := s.sl) (S := S) (i := i) (t := { t with price := pr })
  have e9 := fun s a => sto_put (s := s) (a := a) (x := tieD (i, { t with price := pr })) (z := .int i) (ks := rowsG tieD N.ties) rfl (by unfold rowsG; rw [List.length_map]; exact Nat.lt_of_le_of_lt h4 (by decide))
  simp only [dput_rows] at e9
  dsimp only at e7
  have e10 : tieD (i, t) = .obj "Tie" (tieF i t) := rfl
  rw [e10] at k1
  walk_at "zm"
/-- a new net -/
def netS (S : Sto) : Sto := { nx := S.nx + 3, get := fun j => if j = S.nx then some (.obj "Net" (netF (S.nx + 1) (S.nx + 2) 0)) else if j = S.nx + 1 then some (.lst []) else if j = S.nx + 2 then some (.dct []) else S.get j }
theorem g_Net_init : goF v_Net_init [.cell S.nx] ⟨sl, S.new (.obj "Net" [])⟩ = .ok (.d .non) ⟨sl, netS S⟩ := by
  refine go_e ?_
  show Wp (b_Net_init ⟨[some (.d (.cell S.nx))], S.new (.obj "Net" [])⟩) _ _
  unfold b_Net_init
  have e1 : ∀ S x, (Sto.new S x).nx = S.nx + 1 := fun _ _ => rfl
  have e2 : ∀ a b, ((S.new a).new b).get S.nx = some a := fun a b => by simp [Sto.new]
  have e3 : ∀ a b c e, ((((S.new a).new b).put S.nx c).new e).get S.nx = some c := fun a b c e => by rw [new_ne (by show S.nx ≠ S.nx + 1 + 1; omega), Sto.put_same]
  simp only [↓Z.e_seq, ↓Z.e_asg, ↓Z.e_st_d, ↓Z.e_st_own, ↓Z.e_st_loc, ↓Z.e_next, ↓Z.e_break, ↓Z.e_cont, ↓Z.e_ifS, ↓Z.e_ret, ↓Z.e_retN, ↓Z.e_drop, ↓Z.e_never, ↓Z.e_c, ↓Z.e_var, ↓Z.e_z1, ↓Z.e_z2, ↓Z.e_via, ↓Z.e_a0, ↓Z.e_a, ↓Z.e_tup, ↓Z.e_lst, ↓Z.e_dnew, ↓Z.e_b, ↓Z.e_and, ↓Z.e_or, ↓Z.e_not, ↓Z.e_andV, ↓Z.e_orV, ↓Z.e_notV, ↓Z.e_if, ↓Z.e_call, ↓Z.e_meth, ↓Z.e_chain, ↓Z.e_no, ↓Z.e_pt, ↓Z.e_sl, Z.x_comp, Z.x_nx, Z.x_asg, Z.x_st, Z.x_if, Z.x_rt, Z.x_ret, Z.x_z2, Z.x_d, Z.x_via, Z.x_cons, Z.x_fix, Z.x_a, Z.x_tup, Z.x_lst, Z.x_ok, Z.x_not, Z.x_notV, Z.x_call, Z.x_self, Z.x_meth2, Z.x_meth1, Z.x_chain2, Z.x_chain1, Z.x_pt, Z.x_sl3, Z.x_sl2, Z.x_sl1, Z.bind_ok, Z.bind_bad, Z.bind_ite, Z.bind_bind, Z.seqK_nx, Z.seqK_rt, Z.seqK_bk, Z.seqK_ct, Z.told_d, Z.told_own, Z.told_loc, Z.toldK_own, Z.varK_own, Z.varK_d, Z.fix_d, Z.fix_own, Z.fix_loc, Z.fixK_own, Z.fixK_d, Z.celled_own, Z.celled_cell, Z.oB_bl, Z.chK_bl, Z.chainK_int, Z.contK_own, Z.cont_int, Z.cont_str, Z.cont_bl, Z.cont_non, Z.cont_lst, Z.cont_con, Z.cont_tup, Z.cont_dct, Z.cont_obj, Z.cont_cell, Z.cont_own, Z.cont_loc, Z.w_add, Z.addK_int, Z.addK_str, Z.addK_lst, Z.addK_tup, Z.w_sub, Z.w_mulG, Z.mulK_int, Z.mulK_lst, Z.w_mod, Z.w_div, Z.w_pow, Z.w_cmp, Z.w_neg, Z.w_min, Z.w_isi, Z.w_isN_n, Z.w_eq, Z.w_in, Z.w_ix, Z.w_len, Z.lenK_lst, Z.lenK_con, Z.lenK_dct, Z.w_fld, Z.isi_int, Z.isi_bl, Z.isi_str, Z.isi_non, Z.isi_lst, Z.isi_con, Z.isi_tup, Z.isi_dct, Z.isT, Z.w_isN_int, Z.w_isN_tup, Z.flv, ↓Z.e_lc, ↓Z.e_yes, ↓Z.e_itL, Z.x_itL_lst, Z.x_itL_con, ↓Z.e_itS, Z.x_itS, Z.wipe_mk, Z.zwipe_nil, Z.zwipe_cons, Z.w_dict, Z.dictK_dct, Z.w_list, Z.listK_lst, Z.listK_con, Z.listK_dct, Z.w_int_bl, Z.w_int_int, Z.w_sl, Z.slK_lst, Z.slK_con, ↓Z.e_rg1, Z.x_rg1, ↓Z.e_for, Z.x_turn, ↓Z.e_zip, Z.x_zip1, ↓Z.e_en, Z.x_en_lst, Z.w_unp, Z.unp2, Z.unp3, Z.unp4, Z.unp5, Z.setAll_cons, Z.setAll_nil, ↓Z.e_m1s, Z.x_m1s, Z.slK_str, Z.lenK_str, ↓Z.e_m2, Z.x_m2, Z.x_isL, Z.isLK_lst, Z.x_isD, Z.isDK_dct, Z.x_rv, Z.w_b2, Z.b2_append, Z.b2_extend, Z.w_b1, Z.b1_clear, Z.mod_cell, Z.mod_loc, Z.modK_own, ↓Z.e_sf, Z.x_sf1, Z.x_sf2, Z.x_sf3, ↓Z.e_mk, Z.x_mk, Z.x_sto, ↓Z.e_dp, Z.x_dp1, Z.x_dp2, Z.x_dp3, Z.x_dp4, Z.eqK_int, Z.eqK_str, Z.w_ne, Z.neK_nil, Z.neK_dct, Z.eqK_nil, Z.frz_new, Z.Sto.put_same, Z.put_put, Z.new_put, Z.new_get, Z.sfn0, Z.sfn1, Z.sfn2, Z.sfn3, Z.sfn4, Z.sfn5, Z.sfn6, Z.sfn7, Z.sfn8, decide_false, decide_true, Z.Wp_bad, Z.Wp_ok, Z.Wp_ite, List.set_cons_zero, List.set_cons_succ, List.getElem?_cons_zero, List.getElem?_cons_succ, List.cons_append, List.nil_append, List.append_nil, List.isEmpty_nil, List.isEmpty_cons, if_true, if_false, Bool.false_eq_true, true_implies, false_implies, implies_true, reduceCtorEq, Bool.not_true, Bool.not_false, eq_self, and_self, and_true, true_and, pn1, pn2, pn3, e1, e2, e3, put_nx]
  unfold netS Sto.new Sto.put
  congr 1
  funext j
  by_cases c1 : j = S.nx
  · subst c1; simp [netF]
  · by_cases c2 : j = S.nx + 1
    · subst c2; simp
    · by_cases c3 : j = S.nx + 2
      · subst c3; simp
      · simp [c1, c2, c3]
def netC (S : Sto) (N : ND) : Sto := { nx := S.nx + 5, get := fun j => if j = S.nx then some (.obj "Net" (netF (S.nx + 3) (S.nx + 4) N.given)) else if j = S.nx + 1 then some (.lst []) else if j = S.nx + 2 then some (.dct []) else if j = S.nx + 3 then some (.lst (N.names.map .str)) else if j = S.nx + 4 then some (.dct (rowsG tieD N.ties)) else S.get j }
theorem pm1 : fput "names" x (netF l d g) = ([("names", x), ("rows", .cell d), ("last_given", .int g)] : List (Str × D)) := rfl
theorem pm2 : fput "rows" x ([("names", a), ("rows", b), ("last_given", y)] : List (Str × D)) = ([("names", a), ("rows", x), ("last_given", y)] : List (Str × D)) := rfl
theorem pm3 : fput "last_given" x ([("names", a), ("rows", b), ("last_given", y)] : List (Str × D)) = ([("names", a), ("rows", b), ("last_given", x)] : List (Str × D)) := rfl
theorem sfnet {f : Str} {v : Vl} : sfK ["Net"] f x v s (some (.obj "Net" (netF l d g))) = (s.mod (.obj "Net" (fput f x (netF l d g))) v).bind nxK := sfK_ok (by unfold netF; simp)
theorem g_copied (h : NetAt S n l d N) (hn : n < S.nx) (hl : l < S.nx) (hd : d < S.nx) : goF v_Net_copied [.cell n] ⟨sl, S⟩ = .ok (.d (.cell S.nx)) ⟨sl, netC S N⟩ := by
  refine go_e ?_
  show Wp (b_Net_copied ⟨[some (.d (.cell n)), none], S⟩) _ _
  unfold b_Net_copied
  have q1 := h.n
  have q2 := h.l
  have q3 := h.d
  have e1 : ∀ S x, (Sto.new S x).nx = S.nx + 1 := fun _ _ => rfl
  have e7 := fun sl => mkR_ok (sl := sl) (S := S) (i := S.nx) (F := v_Net_init) fun s => g_Net_init (sl := s.sl) (S := S)
  have f1 : ∀ j, j < S.nx → (netS S).get j = S.get j := fun j hj => by
    unfold netS
    simp [show j ≠ S.nx by omega, show j ≠ S.nx + 1 by omega, show j ≠ S.nx + 2 by omega]
  have e2 := (f1 n hn).trans q1
  have e3 := (f1 l hl).trans q2
  have x1 : (netS S).nx = S.nx + 3 := rfl
  have e4 : ∀ a, ((netS S).new a).get S.nx = some (.obj "Net" (netF (S.nx + 1) (S.nx + 2) 0)) := fun a => by simp [Sto.new, netS]
  have e5 : ∀ a c, (((netS S).new a).put S.nx c).get n = some (.obj "Net" (netF l d N.given)) := fun a c => by
    rw [Sto.put_ne (by omega), new_ne (by rw [x1]; omega), e2]
  have e6 : ∀ a c, (((netS S).new a).put S.nx c).get d = some (.dct (rowsG tieD N.ties)) := fun a c => by
    rw [Sto.put_ne (by omega), new_ne (by rw [x1]; omega), f1 d hd, q3]
  have e8 : ∀ a c e, ((((netS S).new a).put S.nx c).new e).get S.nx = some c := fun a c e => by
    rw [new_ne (by rw [put_nx, new_nx, x1]; omega), Sto.put_same]
  have e9 : ∀ a c e f, (((((netS S).new a).put S.nx c).new e).put S.nx f).get n = some (.obj "Net" (netF l d N.given)) := fun a c e f => by
    rw [Sto.put_ne (by omega), new_ne (by rw [put_nx, new_nx, x1]; omega), e5]
  simp only [↓Z.e_seq, ↓Z.e_asg, ↓Z.e_st_d, ↓Z.e_st_own, ↓Z.e_st_loc, ↓Z.e_next, ↓Z.e_break, ↓Z.e_cont, ↓Z.e_ifS, ↓Z.e_ret, ↓Z.e_retN, ↓Z.e_drop, ↓Z.e_never, ↓Z.e_c, ↓Z.e_var, ↓Z.e_z1, ↓Z.e_z2, ↓Z.e_via, ↓Z.e_a0, ↓Z.e_a, ↓Z.e_tup, ↓Z.e_lst, ↓Z.e_dnew, ↓Z.e_b, ↓Z.e_and, ↓Z.e_or, ↓Z.e_not, ↓Z.e_andV, ↓Z.e_orV, ↓Z.e_notV, ↓Z.e_if, ↓Z.e_call, ↓Z.e_meth, ↓Z.e_chain, ↓Z.e_no, ↓Z.e_pt, ↓Z.e_sl, Z.x_comp, Z.x_nx, Z.x_asg, Z.x_st, Z.x_if, Z.x_rt, Z.x_ret, Z.x_z2, Z.x_d, Z.x_via, Z.x_cons, Z.x_fix, Z.x_a, Z.x_tup, Z.x_lst, Z.x_ok, Z.x_not, Z.x_notV, Z.x_call, Z.x_self, Z.x_meth2, Z.x_meth1, Z.x_chain2, Z.x_chain1, Z.x_pt, Z.x_sl3, Z.x_sl2, Z.x_sl1, Z.bind_ok, Z.bind_bad, Z.bind_ite, Z.bind_bind, Z.seqK_nx, Z.seqK_rt, Z.seqK_bk, Z.seqK_ct, Z.told_d, Z.told_own, Z.told_loc, Z.toldK_own, Z.varK_own, Z.varK_d, Z.fix_d, Z.fix_own, Z.fix_loc, Z.fixK_own, Z.fixK_d, Z.celled_own, Z.celled_cell, Z.oB_bl, Z.chK_bl, Z.chainK_int, Z.contK_own, Z.cont_int, Z.cont_str, Z.cont_bl, Z.cont_non, Z.cont_lst, Z.cont_con, Z.cont_tup, Z.cont_dct, Z.cont_obj, Z.cont_cell, Z.cont_own, Z.cont_loc, Z.w_add, Z.addK_int, Z.addK_str, Z.addK_lst, Z.addK_tup, Z.w_sub, Z.w_mulG, Z.mulK_int, Z.mulK_lst, Z.w_mod, Z.w_div, Z.w_pow, Z.w_cmp, Z.w_neg, Z.w_min, Z.w_isi, Z.w_isN_n, Z.w_eq, Z.w_in, Z.w_ix, Z.w_len, Z.lenK_lst, Z.lenK_con, Z.lenK_dct, Z.w_fld, Z.isi_int, Z.isi_bl, Z.isi_str, Z.isi_non, Z.isi_lst, Z.isi_con, Z.isi_tup, Z.isi_dct, Z.isT, Z.w_isN_int, Z.w_isN_tup, Z.flv, ↓Z.e_lc, ↓Z.e_yes, ↓Z.e_itL, Z.x_itL_lst, Z.x_itL_con, ↓Z.e_itS, Z.x_itS, Z.wipe_mk, Z.zwipe_nil, Z.zwipe_cons, Z.w_dict, Z.dictK_dct, Z.w_list, Z.listK_lst, Z.listK_con, Z.listK_dct, Z.w_int_bl, Z.w_int_int, Z.w_sl, Z.slK_lst, Z.slK_con, ↓Z.e_rg1, Z.x_rg1, ↓Z.e_for, Z.x_turn, ↓Z.e_zip, Z.x_zip1, ↓Z.e_en, Z.x_en_lst, Z.w_unp, Z.unp2, Z.unp3, Z.unp4, Z.unp5, Z.setAll_cons, Z.setAll_nil, ↓Z.e_m1s, Z.x_m1s, Z.slK_str, Z.lenK_str, ↓Z.e_m2, Z.x_m2, Z.x_isL, Z.isLK_lst, Z.x_isD, Z.isDK_dct, Z.x_rv, Z.w_b2, Z.b2_append, Z.b2_extend, Z.w_b1, Z.b1_clear, Z.mod_cell, Z.mod_loc, Z.modK_own, ↓Z.e_sf, Z.x_sf1, Z.x_sf2, Z.x_sf3, ↓Z.e_mk, Z.x_mk, Z.x_sto, ↓Z.e_dp, Z.x_dp1, Z.x_dp2, Z.x_dp3, Z.x_dp4, Z.eqK_int, Z.eqK_str, Z.w_ne, Z.neK_nil, Z.neK_dct, Z.eqK_nil, Z.frz_new, Z.Sto.put_same, Z.put_put, Z.new_put, Z.new_get, Z.sfn0, Z.sfn1, Z.sfn2, Z.sfn3, Z.sfn4, Z.sfn5, Z.sfn6, Z.sfn7, Z.sfn8, decide_false, decide_true, Z.Wp_bad, Z.Wp_ok, Z.Wp_ite, List.set_cons_zero, List.set_cons_succ, List.getElem?_cons_zero, List.getElem?_cons_succ, List.cons_append, List.nil_append, List.append_nil, List.isEmpty_nil, List.isEmpty_cons, if_true, if_false, Bool.false_eq_true, true_implies, false_implies, implies_true, reduceCtorEq, Bool.not_true, Bool.not_false, eq_self, and_self, and_true, true_and, Z.fldK_ok T.nf_names, Z.fldK_ok T.nf_rows, Z.fldK_ok T.nf_given, pm1, pm2, pm3, sfnet, put_nx, *]
  unfold netC netS Sto.new Sto.put
  congr 1
  funext j
  by_cases c1 : j = S.nx
  · subst c1; simp [netF]
  · by_cases c2 : j = S.nx + 1
    · subst c2; simp
    · by_cases c3 : j = S.nx + 2
      · subst c3; simp
      · by_cases c4 : j = S.nx + 3
        · subst c4; simp
        · by_cases c5 : j = S.nx + 4
          · subst c5; simp
          · simp [c1, c2, c3, c4, c5]
end
end T

namespace T
open PySem PySem.Spec PyProof.Rows L2 M Z
open Classical
local macro_rules | `(tactic| walk_at "zi") => `(tactic| repeat (refine Z.iteW (by first | decide | omega | (refine M.CDivW_small ?_ ?_ <;> omega) | (refine M.CMulX_small ?_ ?_ ?_ ?_ <;> omega)) ?_))
section
variable {s : SD} {S : Sto} {sl : List (Option Vl)} {x y z : D} {n l d : Nat} {N : ND} {g i : Int} {t : TD} {a b : D}
theorem sq_bd {a b : Int} (h0 : 0 ≤ a) (h1 : a ≤ b) : 0 ≤ a * a ∧ a * a ≤ b * b := ⟨Int.mul_nonneg h0 h0, Int.mul_le_mul h1 h1 h0 (by omega)⟩
theorem g_draw (c k j : Int) (h0 : 0 ≤ k) (h1 : k ≤ 1000) (h2 : 0 ≤ j) (h3 : j ≤ 1000) : ∃ n : Int, 0 ≤ n ∧ n < 2147483648 ∧ ∀ s : SD, goF v_Ldraw [.int c, .int k, .int j] s = .ok (.d (.int n)) s := by
  have h4 := sq_bd (a := k + 3) (b := 1003) (by omega) (by omega)
  have h5 := sq_bd (a := j + 7) (b := 1007) (by omega) (by omega)
  refine ⟨(c % 2147483629 * 48271 + ((k + 3) * (k + 3) * 40692 + (j + 7) * (j + 7) * 69621)) % 2147483647 * 16807 % 2147483629 / 3, by omega, by omega, fun s => ?_⟩
  refine go_p ?_
  show Wp (b_Ldraw ⟨[some (.d (.int c)), some (.d (.int k)), some (.d (.int j)), none], s.st⟩) _ _
  unfold b_Ldraw
  walk_at "zs"
  walk_at "zi"
  trivial
theorem hM60 : M60 = 1000000000000000000000000000000000000000000000000000000000000 := rfl
theorem cp60 : CPowW 10 60 = True := eq_true ⟨by decide, by decide⟩
theorem pow60 : (10 : Int) ^ (60 : Int).toNat = M60 := by decide +kernel
theorem g_amount (c k j : Int) (h0 : 0 ≤ k) (h1 : k ≤ 1000) (h2 : 0 ≤ j) (h3 : j ≤ 1000) : ∃ n : Int, 0 ≤ n ∧ n ≤ M60 ∧ ∀ s : SD, goF v_Lamount [.int c, .int k, .int j] s = .ok (.d (.int n)) s := by
  obtain ⟨n, n0, n1, e1⟩ := g_draw c k j h0 h1 h2 h3
  have hM := hM60
  have hc0 : 0 ≤ (c + n) % (M60 + 1) := Int.emod_nonneg _ (by decide)
  have hc1 : (c + n) % (M60 + 1) < M60 + 1 := Int.emod_lt_of_pos _ (by decide)
  have hk : ∀ d : Int, 0 ≤ d → d < 4 → ∃ m : Int, (0 ≤ m ∧ m ≤ M60) ∧ dIx (.lst [.int (n / 4 % 4), .int (n / 4 % 1000), .int ((c + n) % (M60 + 1)), .int (M60 - n / 4 % 3)]) (.int d) = some (.int m) := by
    intro d d0 d1
    rcases (show d = 0 ∨ d = 1 ∨ d = 2 ∨ d = 3 by omega) with e | e | e | e <;> subst e
    · exact ⟨_, ⟨by omega, by omega⟩, rfl⟩
    · exact ⟨_, ⟨by omega, by omega⟩, rfl⟩
    · exact ⟨_, ⟨by omega, by omega⟩, rfl⟩
    · exact ⟨_, ⟨by omega, by omega⟩, rfl⟩
  obtain ⟨m, hm, em⟩ := hk (n % 4) (by omega) (by omega)
  refine ⟨m, hm.1, hm.2, fun s => go_p ?_⟩
  show Wp (b_Lamount ⟨[some (.d (.int c)), some (.d (.int k)), some (.d (.int j)), none, none], s.st⟩) _ _
  unfold b_Lamount
  have e2 := fun s : SD => ixK_ok (s := s) em
  have e3 := pow60
  have e4 := cp60
  walk_at "zs"
  walk_at "zi"
  trivial
theorem g_whole (i : Int) : goF v_Lwhole [.int i, .int i] s = .ok (.d (.bl true)) s := by
  refine go_p ?_
  show Wp (b_Lwhole ⟨[some (.d (.int i)), some (.d (.int i))], s.st⟩) _ _
  unfold b_Lwhole
  walk_at "zs"
/-- a tie's row -/
def row6 (q : Int × TD) : D := .tup [.int q.1, .str q.2.tail, .str q.2.head, .int q.2.least, mostD q.2.most, .int q.2.price]
theorem isn_most {s : SD} (m : Option Int) : oIsN true (.d (mostD m)) (.d .non) s = .ok (.d (.bl m.isSome)) s := by cases m <;> rfl
theorem g_row (q : Int × TD) : goF v_Lrow [tieD q] s = .ok (.d (row6 q)) s := by
  obtain ⟨i, t⟩ := q
  refine go_p ?_
  show Wp (b_Lrow ⟨[some (.d (.obj "Tie" (tieF i t))), none, none, none], s.st⟩) _ _
  unfold b_Lrow
  have k0 : ∀ s : SD, ixK s (some (row6 (i, t))) (some (.int 0)) = .ok (.d (.int i)) s := fun s => ixK_ok rfl
  have k1 : ∀ s : SD, ixK s (some (row6 (i, t))) (some (.int 1)) = .ok (.d (.str t.tail)) s := fun s => ixK_ok rfl
  have k2 : ∀ s : SD, ixK s (some (row6 (i, t))) (some (.int 2)) = .ok (.d (.str t.head)) s := fun s => ixK_ok rfl
  have k3 : ∀ s : SD, ixK s (some (row6 (i, t))) (some (.int 3)) = .ok (.d (.int t.least)) s := fun s => ixK_ok rfl
  have k4 : ∀ s : SD, ixK s (some (row6 (i, t))) (some (.int 4)) = .ok (.d (mostD t.most)) s := fun s => ixK_ok rfl
  have k5 : ∀ s : SD, ixK s (some (row6 (i, t))) (some (.int 5)) = .ok (.d (.int t.price)) s := fun s => ixK_ok rfl
  unfold row6 at k0 k1 k2 k3 k4 k5
  dsimp only at k0 k1 k2 k3 k4 k5
  have fin : ∀ (sl : List (Option Vl)) (ns : List Int), ns.length ≤ 4 → sl = [some (.d (.obj "Tie" (tieF i t))), some (.d (.tup [.int i, .str t.tail, .str t.head, .int t.least, mostD t.most, .int t.price])), some (.d (.lst (ns.map .int))), none] →
      lcK (zSt 3) (zOr (zB (z1 (oIsi .bool) (zVar 3))) (zNot (zB (z1 (oIsi .int) (zVar 3))))) (zVar 3) [3] ⟨[.d (.lst (ns.map .int))], fun _ => True, ns.map .int⟩ ⟨sl, s.st⟩ = .ok (.own (.lst [])) ⟨sl, s.st⟩ := by
    rintro sl ns hl rfl
    rw [lc_pure (fun _ => false) id rfl Nl.d1 trivial (fun x hx => ?_) (by show (ns.map D.int).length ≤ _; rw [List.length_map]; exact Nat.le_trans hl (by decide))]
    · rw [List.filter_eq_nil_iff.mpr fun _ _ => by decide]
      rfl
    · obtain ⟨j, _, rfl⟩ := List.mem_map.mp hx
      unfold Z.Turn
      walk_at "zs"
  cases hm : t.most with
  | none =>
    have hmo : mostD t.most = .non := by rw [hm]; rfl
    rw [hmo] at k0 k1 k2 k3 k4 k5 fin
    have f1 := fin _ [i, t.least, t.price] (by show 3 ≤ 4; decide) rfl
    simp only [List.map_cons, List.map_nil] at f1
    have z0 : (-(2 ^ 63) ≤ (0 : Int) ∧ (0 : Int) < 2 ^ 63 ∧ [D.non].length * (0 : Int).toNat ≤ sizeLine) = True := eq_true (by decide)
    have z1 : (List.replicate (0 : Int).toNat [D.non]).flatten = [] := rfl
    have z2 : ([D.int i, D.int t.least, D.int t.price].length + ([] : List D).length ≤ sizeLine) = True := eq_true (by show 3 ≤ sizeLine; decide)
    clear hm
    simp only [↓Z.e_seq, ↓Z.e_asg, ↓Z.e_st_d, ↓Z.e_st_own, ↓Z.e_st_loc, ↓Z.e_next, ↓Z.e_break, ↓Z.e_cont, ↓Z.e_ifS, ↓Z.e_ret, ↓Z.e_retN, ↓Z.e_drop, ↓Z.e_never, ↓Z.e_c, ↓Z.e_var, ↓Z.e_z1, ↓Z.e_z2, ↓Z.e_via, ↓Z.e_a0, ↓Z.e_a, ↓Z.e_tup, ↓Z.e_lst, ↓Z.e_dnew, ↓Z.e_b, ↓Z.e_and, ↓Z.e_or, ↓Z.e_not, ↓Z.e_andV, ↓Z.e_orV, ↓Z.e_notV, ↓Z.e_if, ↓Z.e_call, ↓Z.e_meth, ↓Z.e_chain, ↓Z.e_no, ↓Z.e_pt, ↓Z.e_sl, Z.x_comp, Z.x_nx, Z.x_asg, Z.x_st, Z.x_if, Z.x_rt, Z.x_ret, Z.x_z2, Z.x_d, Z.x_via, Z.x_cons, Z.x_fix, Z.x_a, Z.x_tup, Z.x_lst, Z.x_ok, Z.x_not, Z.x_notV, Z.x_call, Z.x_self, Z.x_meth2, Z.x_meth1, Z.x_chain2, Z.x_chain1, Z.x_pt, Z.x_sl3, Z.x_sl2, Z.x_sl1, Z.bind_ok, Z.bind_bad, Z.bind_ite, Z.bind_bind, Z.seqK_nx, Z.seqK_rt, Z.seqK_bk, Z.seqK_ct, Z.told_d, Z.told_own, Z.told_loc, Z.toldK_own, Z.varK_own, Z.varK_d, Z.fix_d, Z.fix_own, Z.fix_loc, Z.fixK_own, Z.fixK_d, Z.celled_own, Z.celled_cell, Z.oB_bl, Z.chK_bl, Z.chainK_int, Z.contK_own, Z.cont_int, Z.cont_str, Z.cont_bl, Z.cont_non, Z.cont_lst, Z.cont_con, Z.cont_tup, Z.cont_dct, Z.cont_obj, Z.cont_cell, Z.cont_own, Z.cont_loc, Z.w_add, Z.addK_int, Z.addK_str, Z.addK_lst, Z.addK_tup, Z.w_sub, Z.w_mulG, Z.mulK_int, Z.mulK_lst, Z.w_mod, Z.w_div, Z.w_pow, Z.w_cmp, Z.w_neg, Z.w_min, Z.w_isi, Z.w_isN_n, Z.w_eq, Z.w_in, Z.w_ix, Z.w_len, Z.lenK_lst, Z.lenK_con, Z.lenK_dct, Z.w_fld, Z.isi_int, Z.isi_bl, Z.isi_str, Z.isi_non, Z.isi_lst, Z.isi_con, Z.isi_tup, Z.isi_dct, Z.isT, Z.w_isN_int, Z.w_isN_tup, Z.flv, ↓Z.e_lc, ↓Z.e_yes, ↓Z.e_itL, Z.x_itL_lst, Z.x_itL_con, ↓Z.e_itS, Z.x_itS, Z.wipe_mk, Z.zwipe_nil, Z.zwipe_cons, Z.w_dict, Z.dictK_dct, Z.w_list, Z.listK_lst, Z.listK_con, Z.listK_dct, Z.w_int_bl, Z.w_int_int, Z.w_sl, Z.slK_lst, Z.slK_con, ↓Z.e_rg1, Z.x_rg1, ↓Z.e_for, Z.x_turn, ↓Z.e_zip, Z.x_zip1, ↓Z.e_en, Z.x_en_lst, Z.w_unp, Z.unp2, Z.unp3, Z.unp4, Z.unp5, Z.setAll_cons, Z.setAll_nil, ↓Z.e_m1s, Z.x_m1s, Z.slK_str, Z.lenK_str, ↓Z.e_m2, Z.x_m2, Z.x_isL, Z.isLK_lst, Z.x_isD, Z.isDK_dct, Z.x_rv, Z.w_b2, Z.b2_append, Z.b2_extend, Z.w_b1, Z.b1_clear, Z.mod_cell, Z.mod_loc, Z.modK_own, ↓Z.e_sf, Z.x_sf1, Z.x_sf2, Z.x_sf3, ↓Z.e_mk, Z.x_mk, Z.x_sto, ↓Z.e_dp, Z.x_dp1, Z.x_dp2, Z.x_dp3, Z.x_dp4, Z.eqK_int, Z.eqK_str, Z.w_ne, Z.neK_nil, Z.neK_dct, Z.eqK_nil, Z.frz_new, Z.Sto.put_same, Z.put_put, Z.new_put, Z.new_get, Z.sfn0, Z.sfn1, Z.sfn2, Z.sfn3, Z.sfn4, Z.sfn5, Z.sfn6, Z.sfn7, Z.sfn8, decide_false, decide_true, Z.Wp_bad, Z.Wp_ok, Z.Wp_ite, List.set_cons_zero, List.set_cons_succ, List.getElem?_cons_zero, List.getElem?_cons_succ, List.cons_append, List.nil_append, List.append_nil, List.isEmpty_nil, List.isEmpty_cons, if_true, if_false, Bool.false_eq_true, true_implies, false_implies, implies_true, reduceCtorEq, Bool.not_true, Bool.not_false, eq_self, and_self, and_true, true_and, Z.fldK_ok T.tf_number, Z.fldK_ok T.tf_tail, Z.fldK_ok T.tf_head, Z.fldK_ok T.tf_least, Z.fldK_ok T.tf_most, Z.fldK_ok T.tf_price, *]
    show some (Vl.d (.tup _)) = some (Vl.d (.tup [_, _, _, _, mostD t.most, _]))
    rw [hmo]
  | some m =>
    have hmo : mostD t.most = .int m := by rw [hm]; rfl
    rw [hmo] at k0 k1 k2 k3 k4 k5 fin
    have f1 := fin _ [i, t.least, t.price, m] (by show 4 ≤ 4; decide) rfl
    simp only [List.map_cons, List.map_nil] at f1
    have z0 : (-(2 ^ 63) ≤ (1 : Int) ∧ (1 : Int) < 2 ^ 63 ∧ [D.int m].length * (1 : Int).toNat ≤ sizeLine) = True := eq_true ⟨by decide, by decide, by show 1 * 1 ≤ sizeLine; decide⟩
    have z1 : (List.replicate (1 : Int).toNat [D.int m]).flatten = [D.int m] := rfl
    have z2 : ([D.int i, D.int t.least, D.int t.price].length + [D.int m].length ≤ sizeLine) = True := eq_true (by show 4 ≤ sizeLine; decide)
    clear hm
    simp only [↓Z.e_seq, ↓Z.e_asg, ↓Z.e_st_d, ↓Z.e_st_own, ↓Z.e_st_loc, ↓Z.e_next, ↓Z.e_break, ↓Z.e_cont, ↓Z.e_ifS, ↓Z.e_ret, ↓Z.e_retN, ↓Z.e_drop, ↓Z.e_never, ↓Z.e_c, ↓Z.e_var, ↓Z.e_z1, ↓Z.e_z2, ↓Z.e_via, ↓Z.e_a0, ↓Z.e_a, ↓Z.e_tup, ↓Z.e_lst, ↓Z.e_dnew, ↓Z.e_b, ↓Z.e_and, ↓Z.e_or, ↓Z.e_not, ↓Z.e_andV, ↓Z.e_orV, ↓Z.e_notV, ↓Z.e_if, ↓Z.e_call, ↓Z.e_meth, ↓Z.e_chain, ↓Z.e_no, ↓Z.e_pt, ↓Z.e_sl, Z.x_comp, Z.x_nx, Z.x_asg, Z.x_st, Z.x_if, Z.x_rt, Z.x_ret, Z.x_z2, Z.x_d, Z.x_via, Z.x_cons, Z.x_fix, Z.x_a, Z.x_tup, Z.x_lst, Z.x_ok, Z.x_not, Z.x_notV, Z.x_call, Z.x_self, Z.x_meth2, Z.x_meth1, Z.x_chain2, Z.x_chain1, Z.x_pt, Z.x_sl3, Z.x_sl2, Z.x_sl1, Z.bind_ok, Z.bind_bad, Z.bind_ite, Z.bind_bind, Z.seqK_nx, Z.seqK_rt, Z.seqK_bk, Z.seqK_ct, Z.told_d, Z.told_own, Z.told_loc, Z.toldK_own, Z.varK_own, Z.varK_d, Z.fix_d, Z.fix_own, Z.fix_loc, Z.fixK_own, Z.fixK_d, Z.celled_own, Z.celled_cell, Z.oB_bl, Z.chK_bl, Z.chainK_int, Z.contK_own, Z.cont_int, Z.cont_str, Z.cont_bl, Z.cont_non, Z.cont_lst, Z.cont_con, Z.cont_tup, Z.cont_dct, Z.cont_obj, Z.cont_cell, Z.cont_own, Z.cont_loc, Z.w_add, Z.addK_int, Z.addK_str, Z.addK_lst, Z.addK_tup, Z.w_sub, Z.w_mulG, Z.mulK_int, Z.mulK_lst, Z.w_mod, Z.w_div, Z.w_pow, Z.w_cmp, Z.w_neg, Z.w_min, Z.w_isi, Z.w_isN_n, Z.w_eq, Z.w_in, Z.w_ix, Z.w_len, Z.lenK_lst, Z.lenK_con, Z.lenK_dct, Z.w_fld, Z.isi_int, Z.isi_bl, Z.isi_str, Z.isi_non, Z.isi_lst, Z.isi_con, Z.isi_tup, Z.isi_dct, Z.isT, Z.w_isN_int, Z.w_isN_tup, Z.flv, ↓Z.e_lc, ↓Z.e_yes, ↓Z.e_itL, Z.x_itL_lst, Z.x_itL_con, ↓Z.e_itS, Z.x_itS, Z.wipe_mk, Z.zwipe_nil, Z.zwipe_cons, Z.w_dict, Z.dictK_dct, Z.w_list, Z.listK_lst, Z.listK_con, Z.listK_dct, Z.w_int_bl, Z.w_int_int, Z.w_sl, Z.slK_lst, Z.slK_con, ↓Z.e_rg1, Z.x_rg1, ↓Z.e_for, Z.x_turn, ↓Z.e_zip, Z.x_zip1, ↓Z.e_en, Z.x_en_lst, Z.w_unp, Z.unp2, Z.unp3, Z.unp4, Z.unp5, Z.setAll_cons, Z.setAll_nil, ↓Z.e_m1s, Z.x_m1s, Z.slK_str, Z.lenK_str, ↓Z.e_m2, Z.x_m2, Z.x_isL, Z.isLK_lst, Z.x_isD, Z.isDK_dct, Z.x_rv, Z.w_b2, Z.b2_append, Z.b2_extend, Z.w_b1, Z.b1_clear, Z.mod_cell, Z.mod_loc, Z.modK_own, ↓Z.e_sf, Z.x_sf1, Z.x_sf2, Z.x_sf3, ↓Z.e_mk, Z.x_mk, Z.x_sto, ↓Z.e_dp, Z.x_dp1, Z.x_dp2, Z.x_dp3, Z.x_dp4, Z.eqK_int, Z.eqK_str, Z.w_ne, Z.neK_nil, Z.neK_dct, Z.eqK_nil, Z.frz_new, Z.Sto.put_same, Z.put_put, Z.new_put, Z.new_get, Z.sfn0, Z.sfn1, Z.sfn2, Z.sfn3, Z.sfn4, Z.sfn5, Z.sfn6, Z.sfn7, Z.sfn8, decide_false, decide_true, Z.Wp_bad, Z.Wp_ok, Z.Wp_ite, List.set_cons_zero, List.set_cons_succ, List.getElem?_cons_zero, List.getElem?_cons_succ, List.cons_append, List.nil_append, List.append_nil, List.isEmpty_nil, List.isEmpty_cons, if_true, if_false, Bool.false_eq_true, true_implies, false_implies, implies_true, reduceCtorEq, Bool.not_true, Bool.not_false, eq_self, and_self, and_true, true_and, Z.fldK_ok T.tf_number, Z.fldK_ok T.tf_tail, Z.fldK_ok T.tf_head, Z.fldK_ok T.tf_least, Z.fldK_ok T.tf_most, Z.fldK_ok T.tf_price, *]
    show some (Vl.d (.tup _)) = some (Vl.d (.tup [_, _, _, _, mostD t.most, _]))
    rw [hmo]
end
end T

namespace T
open PySem PySem.Spec PyProof.Rows L2 M Z A
open Classical
open TL (tl)
local macro_rules | `(tactic| walk_at "zi") => `(tactic| repeat (refine Z.iteW (by first | decide | omega | (refine M.CDivW_small ?_ ?_ <;> omega) | (refine M.CMulX_small ?_ ?_ ?_ ?_ <;> omega)) ?_))
/-- of small letters alone -/
def Al (z : Str) : Prop := ∀ c ∈ tl z, c ∈ tl "abcdefghijklmnopqrstuvwxyz"
theorem al_signs {z : Str} (h : Al z) : areSigns z "abcdefghijklmnopqrstuvwxyz" = true := List.all_eq_true.mpr fun c hc => decide_eq_true (h c hc)
theorem al_name {z : Str} (h : Al z) (h1 : 1 ≤ z.length) (h2 : z.length ≤ 12) : isNm (.str z) = true := by
  show (decide (1 ≤ z.length) && decide (z.length ≤ 12) && areSigns z "abcdefghijklmnopqrstuvwxyz") = true
  rw [decide_eq_true h1, decide_eq_true h2, al_signs h]
  rfl
theorem al_cat {x y : Str} (h : Al x) (h2 : Al y) : Al (x ++ y) := fun c hc => by
  rw [tl_cat] at hc
  rcases List.mem_append.mp hc with hc | hc
  · exact h c hc
  · exact h2 c hc
theorem al_cut {x : Str} (lo hi : Option Int) (h : Al x) : Al (cutS x lo hi) := fun c hc => by
  rw [tl_cut] at hc
  exact h c (List.mem_of_mem_drop (List.mem_of_mem_take hc))
theorem al_one {i : Int} {c : Nat} (h : atI (tl "abcdefghijklmnopqrstuvwxyz") i = some c) : Al ⟨#[c]⟩ := fun d hd => by
  have e : d = c := List.mem_singleton.mp hd
  subst e
  unfold atI at h
  cases q : ixN (tl "abcdefghijklmnopqrstuvwxyz").length i with
  | none => rw [q] at h; cases h
  | some j => rw [q] at h; exact List.mem_of_getElem? h
theorem al_join {ws : List Str} (h : ∀ x ∈ ws, Al x) : Al (Txt.join "" ws) := fun c hc => by
  rw [tl_join0] at hc
  obtain ⟨l, hl, hc⟩ := List.mem_flatten.mp hc
  obtain ⟨x, hx, e⟩ := List.mem_map.mp hl
  exact h x hx c (by rw [e]; exact hc)
theorem len_to {z : Str} {i : Int} (h : 0 ≤ i) : (cutS z none (some i)).length = min i.toNat z.length := by
  rw [tl_len, tl_to _ _ h, List.length_take, ← tl_len]
theorem len_from {z : Str} {i : Int} (h : 0 ≤ i) : (cutS z (some i) none).length = z.length - i.toNat := by
  rw [tl_len, tl_from _ _ h, List.length_drop, ← tl_len]
theorem sum_le : ∀ (ws : List Str) (k : Nat), (∀ x ∈ ws, x.length ≤ k) → (ws.map (·.length)).sum ≤ ws.length * k
  | [], _, _ => Nat.zero_le _
  | x :: r, k, h => by
    have h1 := h x List.mem_cons_self
    have h2 := sum_le r k fun y hy => h y (List.mem_cons_of_mem _ hy)
    rw [List.map_cons, List.sum_cons, List.length_cons, Nat.succ_mul]
    omega
theorem cutD_to (xs : List D) {i : Int} (h : 0 ≤ i) : Z.cutD xs none (some i) = xs.take i.toNat := by
  unfold Z.cutD
  rw [sIx_int _ _ _ h]
  show (xs.drop 0).take (min i.toNat xs.length - 0) = _
  rw [List.drop_zero, Nat.sub_zero]
  by_cases c : i.toNat ≤ xs.length
  · rw [Nat.min_eq_left c]
  · rw [Nat.min_eq_right (by omega), List.take_of_length_le (Nat.le_refl _), List.take_of_length_le (by omega)]
/-- a letter by its place -/
def ltr (i : Int) : Str := match atI (tl "abcdefghijklmnopqrstuvwxyz") i with
  | some c => ⟨#[c]⟩
  | none => ""
theorem ltr_ok {i : Int} (h0 : 0 ≤ i) (h1 : i < 26) : dIx (.str "abcdefghijklmnopqrstuvwxyz") (.int i) = some (.str (ltr i)) ∧ (ltr i).length = 1 ∧ Al (ltr i) := by
  have h2 : i < ((tl "abcdefghijklmnopqrstuvwxyz").length : Nat) := by rw [show (tl "abcdefghijklmnopqrstuvwxyz").length = 26 by decide +kernel]; exact h1
  have h3 := atI_in (xs := tl "abcdefghijklmnopqrstuvwxyz") 0 h0 h2
  have e : ltr i = ⟨#[(tl "abcdefghijklmnopqrstuvwxyz").getD i.toNat 0]⟩ := by unfold ltr; rw [h3]
  refine ⟨?_, by rw [e]; rfl, by rw [e]; exact al_one h3⟩
  show (if (Str.ofString "abcdefghijklmnopqrstuvwxyz").length ≤ sizeLine then (atI (tl "abcdefghijklmnopqrstuvwxyz") i).map fun c => D.str ⟨#[c]⟩ else none) = _
  rw [if_pos (by decide +kernel), h3, e]
  rfl
theorem up_map (g : Int → Str) (m : Nat) : (Z.upTo 0 m).map (fun x => match x with | .int j => D.str (g j) | _ => .non) = ((List.range m).map fun (i : Nat) => g (i : Int)).map D.str := by
  unfold Z.upTo
  rw [List.map_map, List.map_map]
  refine List.map_congr_left fun i _ => ?_
  show D.str (g (0 + (i : Int))) = D.str (g i)
  rw [Int.zero_add]
theorem up_len (m : Nat) : (Z.upTo 0 m).length = m := by unfold Z.upTo; simp
theorem up_mem {m : Nat} {x : D} (h : x ∈ Z.upTo 0 m) : ∃ j : Int, 0 ≤ j ∧ j < m ∧ x = .int j := by
  unfold Z.upTo at h
  obtain ⟨i, hi, rfl⟩ := List.mem_map.mp h
  have := List.mem_range.mp hi
  exact ⟨0 + (i : Int), by omega, by omega, rfl⟩
/-- each text that is none of those ahead of it -/
def firsts (ws : List Str) : List Str := (ws.zipIdx.filter fun q => !decide (q.1 ∈ ws.take q.2)).map (·.1)
theorem firsts_mem {ws : List Str} : ∀ z ∈ firsts ws, z ∈ ws := fun z hz => by
  unfold firsts at hz
  obtain ⟨q, hq, rfl⟩ := List.mem_map.mp hz
  have := (List.mem_filter.mp hq).1
  exact List.fst_mem_of_mem_zipIdx this
theorem firsts_ne {ws : List Str} (h : 1 ≤ ws.length) : firsts ws ≠ [] := fun e => by
  cases ws with
  | nil => simp at h
  | cons a r =>
    unfold firsts at e
    rw [List.zipIdx_cons, List.filter_cons_of_pos (by simp)] at e
    cases e
def fp (ws : List Str) : D → Bool
  | .tup [.int j, .str z] => !decide (z ∈ ws.take j.toNat)
  | _ => false
def ff : D → D
  | .tup [_, z] => z
  | _ => .non
theorem places_strs (ws : List Str) : places (ws.map D.str) = ws.zipIdx.map fun q => .tup [.int (q.2 : Nat), .str q.1] := by
  unfold places
  rw [List.zipIdx_map, List.map_map]
  rfl
theorem firsts_eq (ws : List Str) : ((places (ws.map D.str)).filter (fp ws)).map ff = (firsts ws).map D.str := by
  rw [places_strs, List.filter_map, List.map_map]
  unfold firsts
  rw [List.map_map]
  rfl
section
variable {s : SD} {S : Sto} {sl : List (Option Vl)} {x y z : D}
theorem nl0 : Nl [] := fun e he => by cases he
variable {v0 v1 v2 v3 v4 v5 v6 v7 v8 : Option Vl}
theorem comp1 {n : Int} (n0 : 0 ≤ n) (n1 : n < 2147483648) {S : Sto} : lcK (zSt 7) zYes (z2 oIx (zVar 1) (z2 oMod (z2 oAdd (z2 oDiv (zVar 2) (zC (.int 7))) (z2 oMul (z2 oAdd (zC (.int 3)) (z2 oMod (zVar 2) (zC (.int 5)))) (zVar 7))) (zC (.int 26)))) [7] ⟨[], fun _ => True, Z.upTo 0 (12 : Int).toNat⟩
      ⟨[v0, some (.d (.str "abcdefghijklmnopqrstuvwxyz")), some (.d (.int n)), v3, v4, v5, v6, v7, v8], S⟩ = .ok (.own (.lst (((List.range 12).map fun (i : Nat) => ltr ((n / 7 + (3 + n % 5) * (i : Int)) % 26)).map D.str))) ⟨[v0, some (.d (.str "abcdefghijklmnopqrstuvwxyz")), some (.d (.int n)), v3, v4, v5, v6, none, v8], S⟩ := by
  rw [lc_map (fun x => match x with | .int j => D.str (ltr ((n / 7 + (3 + n % 5) * j) % 26)) | _ => .non) rfl nl0 trivial (fun x hx => ?_) (by show (Z.upTo 0 12).length ≤ _; rw [up_len]; decide)]
  · show R.ok (Vl.own (.lst ((Z.upTo 0 12).map _))) _ = _
    rw [up_map (fun j => ltr ((n / 7 + (3 + n % 5) * j) % 26)) 12]
    rfl
  · obtain ⟨j, j0, j1, rfl⟩ := up_mem hx
    have j1 : j < 12 := j1
    have hb : 0 ≤ (3 + n % 5) * j ∧ (3 + n % 5) * j ≤ 7 * 12 := ⟨Int.mul_nonneg (by omega) (by omega), Int.mul_le_mul (by omega) (by omega) (by omega) (by omega)⟩
    have e := (ltr_ok (i := (n / 7 + (3 + n % 5) * j) % 26) (Int.emod_nonneg _ (by decide)) (Int.emod_lt_of_pos _ (by decide))).1
    have e2 := fun s : SD => ixK_ok (s := s) e
    unfold Z.Turn
    walk_at "zs"
    walk_at "zi"
    trivial
def w2f (n at_ : Int) (fr : Str) (j : Int) : Str := cutS fr none (some at_) ++ ltr ((n / 2000 + 5 * j) % 26) ++ cutS fr (some at_) none
theorem comp2 {n at_ : Int} {fr : Str} (n0 : 0 ≤ n) (n1 : n < 2147483648) (hfl : fr.length ≤ 7) (a0 : 0 ≤ at_) (a1 : at_ ≤ fr.length) {S : Sto} : lcK (zSt 7) zYes (z2 oAdd (z2 oAdd (zSl (zVar 4) zNo (zPt (zVar 5))) (z2 oIx (zVar 1) (z2 oMod (z2 oAdd (z2 oDiv (zVar 2) (zC (.int 2000))) (z2 oMul (zC (.int 5)) (zVar 7))) (zC (.int 26))))) (zSl (zVar 4) (zPt (zVar 5)) zNo)) [7] ⟨[], fun _ => True, Z.upTo 0 (18 : Int).toNat⟩
      ⟨[v0, some (.d (.str "abcdefghijklmnopqrstuvwxyz")), some (.d (.int n)), v3, some (.d (.str fr)), some (.d (.int at_)), v6, v7, v8], S⟩ = .ok (.own (.lst (((List.range 18).map fun (i : Nat) => w2f n at_ fr (i : Int)).map D.str))) ⟨[v0, some (.d (.str "abcdefghijklmnopqrstuvwxyz")), some (.d (.int n)), v3, some (.d (.str fr)), some (.d (.int at_)), v6, none, v8], S⟩ := by
  rw [lc_map (fun x => match x with | .int j => D.str (w2f n at_ fr j) | _ => .non) rfl nl0 trivial (fun x hx => ?_) (by show (Z.upTo 0 18).length ≤ _; rw [up_len]; decide)]
  · show R.ok (Vl.own (.lst ((Z.upTo 0 18).map _))) _ = _
    rw [up_map (fun j => w2f n at_ fr j) 18]
    rfl
  · obtain ⟨j, j0, j1, rfl⟩ := up_mem hx
    have j1 : j < 18 := j1
    obtain ⟨e, l1, _⟩ := (ltr_ok (i := (n / 2000 + 5 * j) % 26) (Int.emod_nonneg _ (by decide)) (Int.emod_lt_of_pos _ (by decide)))
    have e2 := fun s : SD => ixK_ok (s := s) e
    have hc1 := len_to (z := fr) a0
    have hc2 := len_from (z := fr) a0
    have z0 : (fr.length ≤ sizeLine) = True := eq_true (Nat.le_trans hfl (by decide))
    have z1 : ((cutS fr none (some at_)).length + (ltr ((n / 2000 + 5 * j) % 26)).length ≤ sizeLine) = True := eq_true (Nat.le_trans (show _ ≤ 100 by omega) (by decide))
    have z2 : ((cutS fr none (some at_) ++ ltr ((n / 2000 + 5 * j) % 26)).length + (cutS fr (some at_) none).length ≤ sizeLine) = True := eq_true (Nat.le_trans (show _ ≤ 100 by rw [A.len_cat]; omega) (by decide))
    clear hc1 hc2 l1
    unfold Z.Turn w2f
    walk_at "zs"
    walk_at "zi"
    trivial
theorem comp3 {bs : Str} (hb : bs.length = 12) {S : Sto} : lcK (zSt 7) zYes (zSl (zVar 3) zNo (zPt (z2 oAdd (zVar 7) (zC (.int 1))))) [7] ⟨[], fun _ => True, Z.upTo 0 (12 : Int).toNat⟩
      ⟨[v0, v1, v2, some (.d (.str bs)), v4, v5, v6, v7, v8], S⟩ = .ok (.own (.lst (((List.range 12).map fun (i : Nat) => cutS bs none (some ((i : Int) + 1))).map D.str))) ⟨[v0, v1, v2, some (.d (.str bs)), v4, v5, v6, none, v8], S⟩ := by
  rw [lc_map (fun x => match x with | .int j => D.str (cutS bs none (some (j + 1))) | _ => .non) rfl nl0 trivial (fun x hx => ?_) (by show (Z.upTo 0 12).length ≤ _; rw [up_len]; decide)]
  · show R.ok (Vl.own (.lst ((Z.upTo 0 12).map _))) _ = _
    rw [up_map (fun j => cutS bs none (some (j + 1))) 12]
    rfl
  · obtain ⟨j, j0, j1, rfl⟩ := up_mem hx
    have z0 : (bs.length ≤ sizeLine) = True := eq_true (by rw [hb]; decide)
    clear hb
    unfold Z.Turn
    walk_at "zs"
theorem comp4 {ws : List Str} (hl : ws.length ≤ 30) {S : Sto} : lcK (zUnp [7, 8]) (zB (z2 (oIn true) (zVar 8) (zSl (zVar 6) zNo (zPt (zVar 7))))) (zVar 8) [7, 8] ⟨[.d (.lst (ws.map D.str))], fun _ => True, places (ws.map D.str)⟩
      ⟨[v0, v1, v2, v3, v4, v5, some (.d (.lst (ws.map D.str))), v7, v8], S⟩ = .ok (.own (.lst ((firsts ws).map D.str))) ⟨[v0, v1, v2, v3, v4, v5, some (.d (.lst (ws.map D.str))), none, none], S⟩ := by
  rw [lc_pure (fp ws) ff rfl Nl.d1 trivial (fun x hx => ?_) (by rw [places_strs]; show (List.map _ _).length ≤ _; rw [List.length_map, List.length_zipIdx]; exact Nat.le_trans hl (by decide))]
  · show R.ok (Vl.own (.lst (((places (ws.map D.str)).filter (fp ws)).map ff))) _ = _
    rw [firsts_eq]
    rfl
  · have hx : x ∈ places (ws.map D.str) := hx
    rw [places_strs] at hx
    obtain ⟨⟨z, j⟩, hq, rfl⟩ := List.mem_map.mp hx
    have e1 : Z.cutD (ws.map D.str) none (some ((j : Nat) : Int)) = (ws.take j).map D.str := by
      rw [cutD_to _ (by omega), Int.toNat_natCast, List.map_take]
    have e2 : ∀ s : SD, unpK [7, 8] s (some (.tup [.int (j : Nat), .str z])) = .ok () { s with sl := setAll [7, 8] [.int (j : Nat), .str z] s.sl } := fun s => rfl
    have e3 := fun s : SD => inK_ok (s := s) (neg := true) (in_names (w := z) (l := ws.take j))
    have e4 : fp ws (.tup [.int (j : Nat), .str z]) = !decide (z ∈ ws.take j) := rfl
    unfold Z.Turn
    simp only [↓Z.e_seq, ↓Z.e_asg, ↓Z.e_st_d, ↓Z.e_st_own, ↓Z.e_st_loc, ↓Z.e_next, ↓Z.e_break, ↓Z.e_cont, ↓Z.e_ifS, ↓Z.e_ret, ↓Z.e_retN, ↓Z.e_drop, ↓Z.e_never, ↓Z.e_c, ↓Z.e_var, ↓Z.e_z1, ↓Z.e_z2, ↓Z.e_via, ↓Z.e_a0, ↓Z.e_a, ↓Z.e_tup, ↓Z.e_lst, ↓Z.e_dnew, ↓Z.e_b, ↓Z.e_and, ↓Z.e_or, ↓Z.e_not, ↓Z.e_andV, ↓Z.e_orV, ↓Z.e_notV, ↓Z.e_if, ↓Z.e_call, ↓Z.e_meth, ↓Z.e_chain, ↓Z.e_no, ↓Z.e_pt, ↓Z.e_sl, Z.x_comp, Z.x_nx, Z.x_asg, Z.x_st, Z.x_if, Z.x_rt, Z.x_ret, Z.x_z2, Z.x_d, Z.x_via, Z.x_cons, Z.x_fix, Z.x_a, Z.x_tup, Z.x_lst, Z.x_ok, Z.x_not, Z.x_notV, Z.x_call, Z.x_self, Z.x_meth2, Z.x_meth1, Z.x_chain2, Z.x_chain1, Z.x_pt, Z.x_sl3, Z.x_sl2, Z.x_sl1, Z.bind_ok, Z.bind_bad, Z.bind_ite, Z.bind_bind, Z.seqK_nx, Z.seqK_rt, Z.seqK_bk, Z.seqK_ct, Z.told_d, Z.told_own, Z.told_loc, Z.toldK_own, Z.varK_own, Z.varK_d, Z.fix_d, Z.fix_own, Z.fix_loc, Z.fixK_own, Z.fixK_d, Z.celled_own, Z.celled_cell, Z.oB_bl, Z.chK_bl, Z.chainK_int, Z.contK_own, Z.cont_int, Z.cont_str, Z.cont_bl, Z.cont_non, Z.cont_lst, Z.cont_con, Z.cont_tup, Z.cont_dct, Z.cont_obj, Z.cont_cell, Z.cont_own, Z.cont_loc, Z.w_add, Z.addK_int, Z.addK_str, Z.addK_lst, Z.addK_tup, Z.w_sub, Z.w_mulG, Z.mulK_int, Z.mulK_lst, Z.w_mod, Z.w_div, Z.w_pow, Z.w_cmp, Z.w_neg, Z.w_min, Z.w_isi, Z.w_isN_n, Z.w_eq, Z.w_in, Z.w_ix, Z.w_len, Z.lenK_lst, Z.lenK_con, Z.lenK_dct, Z.w_fld, Z.isi_int, Z.isi_bl, Z.isi_str, Z.isi_non, Z.isi_lst, Z.isi_con, Z.isi_tup, Z.isi_dct, Z.isT, Z.w_isN_int, Z.w_isN_tup, Z.flv, ↓Z.e_lc, ↓Z.e_yes, ↓Z.e_itL, Z.x_itL_lst, Z.x_itL_con, ↓Z.e_itS, Z.x_itS, Z.wipe_mk, Z.zwipe_nil, Z.zwipe_cons, Z.w_dict, Z.dictK_dct, Z.w_list, Z.listK_lst, Z.listK_con, Z.listK_dct, Z.w_int_bl, Z.w_int_int, Z.w_sl, Z.slK_lst, Z.slK_con, ↓Z.e_rg1, Z.x_rg1, ↓Z.e_for, Z.x_turn, ↓Z.e_zip, Z.x_zip1, ↓Z.e_en, Z.x_en_lst, Z.w_unp, Z.unp2, Z.unp3, Z.unp4, Z.unp5, Z.setAll_cons, Z.setAll_nil, ↓Z.e_m1s, Z.x_m1s, Z.slK_str, Z.lenK_str, ↓Z.e_m2, Z.x_m2, Z.x_isL, Z.isLK_lst, Z.x_isD, Z.isDK_dct, Z.x_rv, Z.w_b2, Z.b2_append, Z.b2_extend, Z.w_b1, Z.b1_clear, Z.mod_cell, Z.mod_loc, Z.modK_own, ↓Z.e_sf, Z.x_sf1, Z.x_sf2, Z.x_sf3, ↓Z.e_mk, Z.x_mk, Z.x_sto, ↓Z.e_dp, Z.x_dp1, Z.x_dp2, Z.x_dp3, Z.x_dp4, Z.eqK_int, Z.eqK_str, Z.w_ne, Z.neK_nil, Z.neK_dct, Z.eqK_nil, Z.frz_new, Z.Sto.put_same, Z.put_put, Z.new_put, Z.new_get, Z.sfn0, Z.sfn1, Z.sfn2, Z.sfn3, Z.sfn4, Z.sfn5, Z.sfn6, Z.sfn7, Z.sfn8, decide_false, decide_true, Z.Wp_bad, Z.Wp_ok, Z.Wp_ite, List.set_cons_zero, List.set_cons_succ, List.getElem?_cons_zero, List.getElem?_cons_succ, List.cons_append, List.nil_append, List.append_nil, List.isEmpty_nil, List.isEmpty_cons, if_true, if_false, Bool.false_eq_true, true_implies, false_implies, implies_true, reduceCtorEq, Bool.not_true, Bool.not_false, eq_self, and_self, and_true, true_and, e1, e2, e3, e4]
    exact fun _ => rfl
theorem w2_ok {n at_ : Int} {fr : Str} (hfa : Al fr) (a0 : 0 ≤ at_) (a1 : at_ ≤ fr.length) (j : Int) : (w2f n at_ fr j).length = fr.length + 1 ∧ Al (w2f n at_ fr j) := by
  obtain ⟨_, l1, l2⟩ := ltr_ok (i := (n / 2000 + 5 * j) % 26) (Int.emod_nonneg _ (by decide)) (Int.emod_lt_of_pos _ (by decide))
  have hc1 := len_to (z := fr) a0
  have hc2 := len_from (z := fr) a0
  unfold w2f
  refine ⟨?_, al_cat (al_cat (al_cut _ _ hfa) l2) (al_cut _ _ hfa)⟩
  rw [A.len_cat, A.len_cat, hc1, hc2, l1]
  omega
abbrev NmOk (z : Str) : Prop := Al z ∧ 1 ≤ z.length ∧ z.length ≤ 12
theorem g_pool (c : Int) : ∃ ns : List Str, ns ≠ [] ∧ (∀ z ∈ ns, NmOk z) ∧ ns.length ≤ 18 ∧ ∀ s : SD, goF v_Lpool [.int c] s = .ok (.own (.lst (ns.map .str))) s := by
  obtain ⟨n, n0, n1, e1⟩ := g_draw c 70 1 (by decide) (by decide) (by decide) (by decide)
  have w1 : ∀ z ∈ ((List.range 12).map fun (i : Nat) => ltr ((n / 7 + (3 + n % 5) * (i : Int)) % 26)), z.length = 1 ∧ Al z := fun z hz => by
    obtain ⟨i, _, rfl⟩ := List.mem_map.mp hz
    exact (ltr_ok (Int.emod_nonneg _ (by decide)) (Int.emod_lt_of_pos _ (by decide))).2
  have l1 : ((List.range 12).map fun (i : Nat) => ltr ((n / 7 + (3 + n % 5) * (i : Int)) % 26)).length = 12 := by rw [List.length_map, List.length_range]
  have k1 := fun (v0 v3 v4 v5 v6 v7 v8 : Option Vl) (S : Sto) => comp1 (v0 := v0) (v3 := v3) (v4 := v4) (v5 := v5) (v6 := v6) (v7 := v7) (v8 := v8) n0 n1 (S := S)
  generalize ((List.range 12).map fun (i : Nat) => ltr ((n / 7 + (3 + n % 5) * (i : Int)) % 26)) = ws1 at w1 k1 l1
  have hsum := sum_le ws1 1 fun x hx => by rw [(w1 x hx).1]; exact Nat.le_refl _
  have hbl : (Txt.join "" ws1).length = 12 := by
    rw [len_join0, List.map_congr_left (g := fun _ => 1) fun x hx => (w1 x hx).1, List.map_const', List.sum_replicate_nat, l1]
  have hba := al_join fun x hx => (w1 x hx).2
  have k2 := fun s : SD => join_own (s := s) (z := "") (ds := ws1.map D.str) (ys := ws1) (by simpa using dstrs_map (fun z : Str => z) ws1) (by rw [show (Str.ofString "").length = 0 by decide +kernel]; omega)
  generalize Txt.join "" ws1 = bs at hbl hba k2
  have hfa := al_cut none (some (n % 8)) hba
  have hfl : (cutS bs none (some (n % 8))).length ≤ 7 := by rw [len_to (by omega)]; omega
  generalize efr : cutS bs none (some (n % 8)) = fr at hfa hfl
  have hat0 : 0 ≤ n / 200 % ((fr.length : Int) + 1) := Int.emod_nonneg _ (by omega)
  have hat1 : n / 200 % ((fr.length : Int) + 1) ≤ fr.length := Int.le_of_lt_add_one (Int.emod_lt_of_pos _ (by omega))
  have hat2 : (0 < (fr.length : Int) + 1) = True := eq_true (by omega)
  generalize eat : n / 200 % ((fr.length : Int) + 1) = at_ at hat0 hat1
  have w2 : ∀ z ∈ ((List.range 18).map fun (i : Nat) => w2f n at_ fr (i : Int)), NmOk z := fun z hz => by
    obtain ⟨i, _, rfl⟩ := List.mem_map.mp hz
    have := w2_ok (n := n) hfa hat0 hat1 i
    exact ⟨this.2, by omega, by omega⟩
  have l2 : ((List.range 18).map fun (i : Nat) => w2f n at_ fr (i : Int)).length = 18 := by rw [List.length_map, List.length_range]
  have k3 := fun (v0 v3 v6 v7 v8 : Option Vl) (S : Sto) => comp2 (v0 := v0) (v3 := v3) (v6 := v6) (v7 := v7) (v8 := v8) n0 n1 hfl hat0 hat1 (S := S)
  generalize ((List.range 18).map fun (i : Nat) => w2f n at_ fr (i : Int)) = ws2 at w2 l2 k3
  have w3 : ∀ z ∈ ((List.range 12).map fun (i : Nat) => cutS bs none (some ((i : Int) + 1))), NmOk z := fun z hz => by
    obtain ⟨i, hi, rfl⟩ := List.mem_map.mp hz
    have := List.mem_range.mp hi
    refine ⟨al_cut _ _ hba, ?_, ?_⟩
    · rw [len_to (by omega), hbl]; omega
    · rw [len_to (by omega), hbl]; omega
  have l3 : ((List.range 12).map fun (i : Nat) => cutS bs none (some ((i : Int) + 1))).length = 12 := by rw [List.length_map, List.length_range]
  have k4 := fun (v0 v1 v2 v4 v5 v6 v7 v8 : Option Vl) (S : Sto) => comp3 (v0 := v0) (v1 := v1) (v2 := v2) (v4 := v4) (v5 := v5) (v6 := v6) (v7 := v7) (v8 := v8) hbl (S := S)
  generalize ((List.range 12).map fun (i : Nat) => cutS bs none (some ((i : Int) + 1))) = ws3 at w3 l3 k4
  have fin : ∀ ws : List Str, (∀ z ∈ ws, NmOk z) → 1 ≤ ws.length → (firsts ws).take 18 ≠ [] ∧ (∀ z ∈ (firsts ws).take 18, NmOk z) ∧ ((firsts ws).take 18).length ≤ 18 := fun ws h1 h2 => by
    refine ⟨fun e => ?_, fun z hz => h1 z (firsts_mem z (List.mem_of_mem_take hz)), by rw [List.length_take]; omega⟩
    rw [List.take_eq_nil_iff] at e
    rcases e with e | e
    · cases e
    · exact firsts_ne h2 e
  have z0 : (bs.length ≤ sizeLine) = True := eq_true (by rw [hbl]; decide)
  have z1 : (fr.length ≤ sizeLine) = True := eq_true (Nat.le_trans hfl (by decide))
  have z2 : ((ws3.map D.str).length + (ws2.map D.str).length ≤ sizeLine) = True := eq_true (by rw [List.length_map, List.length_map, l3, l2]; decide)
  have z3 : ∀ j : Int, CDivW j 7 = True := fun j => eq_true (M.CDivW_small (by decide) (by decide))
  have z4 : ∀ j : Int, CDivW j 200 = True := fun j => eq_true (M.CDivW_small (by decide) (by decide))
  have z5 : ∀ j : Int, CDivW j 9 = True := fun j => eq_true (M.CDivW_small (by decide) (by decide))
  have z6 : ((0 : Int) < 8) = True := by simp
  have z7 : ((0 : Int) < 3) = True := by simp
  have z8 : (-(2 ^ 62) ≤ (12 : Int) ∧ (12 : Int) < 2 ^ 62) = True := eq_true (by decide)
  have z9 : (-(2 ^ 62) ≤ (18 : Int) ∧ (18 : Int) < 2 ^ 62) = True := eq_true (by decide)
  by_cases c9 : n / 9 % 3 = 1
  · obtain ⟨f1, f2, f3⟩ := fin (ws3 ++ ws2) (fun z hz => (List.mem_append.mp hz).elim (w3 z) (w2 z)) (by rw [List.length_append]; omega)
    refine ⟨_, f1, f2, f3, fun s => ?_⟩
    have k5 := fun (v0 v1 v2 v3 v4 v5 v7 v8 : Option Vl) (S : Sto) => comp4 (v0 := v0) (v1 := v1) (v2 := v2) (v3 := v3) (v4 := v4) (v5 := v5) (v7 := v7) (v8 := v8) (ws := ws3 ++ ws2) (by rw [List.length_append]; omega) (S := S)
    rw [List.map_append] at k5
    refine go_p ?_
    show Wp (b_Lpool ⟨[some (.d (.int c)), none, none, none, none, none, none, none, none], s.st⟩) _ _
    unfold b_Lpool
    have z10 : decide (n / 9 % 3 = 1) = true := decide_eq_true c9
    clear hsum hbl w1 w2 w3 l1 l2 l3 fin f1 f2 f3 hba hfa hfl hat0 hat1 n0 n1 c9
    simp only [↓Z.e_seq, ↓Z.e_asg, ↓Z.e_st_d, ↓Z.e_st_own, ↓Z.e_st_loc, ↓Z.e_next, ↓Z.e_break, ↓Z.e_cont, ↓Z.e_ifS, ↓Z.e_ret, ↓Z.e_retN, ↓Z.e_drop, ↓Z.e_never, ↓Z.e_c, ↓Z.e_var, ↓Z.e_z1, ↓Z.e_z2, ↓Z.e_via, ↓Z.e_a0, ↓Z.e_a, ↓Z.e_tup, ↓Z.e_lst, ↓Z.e_dnew, ↓Z.e_b, ↓Z.e_and, ↓Z.e_or, ↓Z.e_not, ↓Z.e_andV, ↓Z.e_orV, ↓Z.e_notV, ↓Z.e_if, ↓Z.e_call, ↓Z.e_meth, ↓Z.e_chain, ↓Z.e_no, ↓Z.e_pt, ↓Z.e_sl, Z.x_comp, Z.x_nx, Z.x_asg, Z.x_st, Z.x_if, Z.x_rt, Z.x_ret, Z.x_z2, Z.x_d, Z.x_via, Z.x_cons, Z.x_fix, Z.x_a, Z.x_tup, Z.x_lst, Z.x_ok, Z.x_not, Z.x_notV, Z.x_call, Z.x_self, Z.x_meth2, Z.x_meth1, Z.x_chain2, Z.x_chain1, Z.x_pt, Z.x_sl3, Z.x_sl2, Z.x_sl1, Z.bind_ok, Z.bind_bad, Z.bind_ite, Z.bind_bind, Z.seqK_nx, Z.seqK_rt, Z.seqK_bk, Z.seqK_ct, Z.told_d, Z.told_own, Z.told_loc, Z.toldK_own, Z.varK_own, Z.varK_d, Z.fix_d, Z.fix_own, Z.fix_loc, Z.fixK_own, Z.fixK_d, Z.celled_own, Z.celled_cell, Z.oB_bl, Z.chK_bl, Z.chainK_int, Z.contK_own, Z.cont_int, Z.cont_str, Z.cont_bl, Z.cont_non, Z.cont_lst, Z.cont_con, Z.cont_tup, Z.cont_dct, Z.cont_obj, Z.cont_cell, Z.cont_own, Z.cont_loc, Z.w_add, Z.addK_int, Z.addK_str, Z.addK_lst, Z.addK_tup, Z.w_sub, Z.w_mulG, Z.mulK_int, Z.mulK_lst, Z.w_mod, Z.w_div, Z.w_pow, Z.w_cmp, Z.w_neg, Z.w_min, Z.w_isi, Z.w_isN_n, Z.w_eq, Z.w_in, Z.w_ix, Z.w_len, Z.lenK_lst, Z.lenK_con, Z.lenK_dct, Z.w_fld, Z.isi_int, Z.isi_bl, Z.isi_str, Z.isi_non, Z.isi_lst, Z.isi_con, Z.isi_tup, Z.isi_dct, Z.isT, Z.w_isN_int, Z.w_isN_tup, Z.flv, ↓Z.e_lc, ↓Z.e_yes, ↓Z.e_itL, Z.x_itL_lst, Z.x_itL_con, ↓Z.e_itS, Z.x_itS, Z.wipe_mk, Z.zwipe_nil, Z.zwipe_cons, Z.w_dict, Z.dictK_dct, Z.w_list, Z.listK_lst, Z.listK_con, Z.listK_dct, Z.w_int_bl, Z.w_int_int, Z.w_sl, Z.slK_lst, Z.slK_con, ↓Z.e_rg1, Z.x_rg1, ↓Z.e_for, Z.x_turn, ↓Z.e_zip, Z.x_zip1, ↓Z.e_en, Z.x_en_lst, Z.w_unp, Z.unp2, Z.unp3, Z.unp4, Z.unp5, Z.setAll_cons, Z.setAll_nil, ↓Z.e_m1s, Z.x_m1s, Z.slK_str, Z.lenK_str, ↓Z.e_m2, Z.x_m2, Z.x_isL, Z.isLK_lst, Z.x_isD, Z.isDK_dct, Z.x_rv, Z.w_b2, Z.b2_append, Z.b2_extend, Z.w_b1, Z.b1_clear, Z.mod_cell, Z.mod_loc, Z.modK_own, ↓Z.e_sf, Z.x_sf1, Z.x_sf2, Z.x_sf3, ↓Z.e_mk, Z.x_mk, Z.x_sto, ↓Z.e_dp, Z.x_dp1, Z.x_dp2, Z.x_dp3, Z.x_dp4, Z.eqK_int, Z.eqK_str, Z.w_ne, Z.neK_nil, Z.neK_dct, Z.eqK_nil, Z.frz_new, Z.Sto.put_same, Z.put_put, Z.new_put, Z.new_get, Z.sfn0, Z.sfn1, Z.sfn2, Z.sfn3, Z.sfn4, Z.sfn5, Z.sfn6, Z.sfn7, Z.sfn8, decide_false, decide_true, Z.Wp_bad, Z.Wp_ok, Z.Wp_ite, List.set_cons_zero, List.set_cons_succ, List.getElem?_cons_zero, List.getElem?_cons_succ, List.cons_append, List.nil_append, List.append_nil, List.isEmpty_nil, List.isEmpty_cons, if_true, if_false, Bool.false_eq_true, true_implies, false_implies, implies_true, reduceCtorEq, Bool.not_true, Bool.not_false, eq_self, and_self, and_true, true_and, *]
    rw [cutD_to _ (by decide), List.map_take]
    rfl
  · obtain ⟨f1, f2, f3⟩ := fin ws2 w2 (by omega)
    refine ⟨_, f1, f2, f3, fun s => ?_⟩
    have k5 := fun (v0 v1 v2 v3 v4 v5 v7 v8 : Option Vl) (S : Sto) => comp4 (v0 := v0) (v1 := v1) (v2 := v2) (v3 := v3) (v4 := v4) (v5 := v5) (v7 := v7) (v8 := v8) (ws := ws2) (by omega) (S := S)
    refine go_p ?_
    show Wp (b_Lpool ⟨[some (.d (.int c)), none, none, none, none, none, none, none, none], s.st⟩) _ _
    unfold b_Lpool
    have z10 : decide (n / 9 % 3 = 1) = false := decide_eq_false c9
    clear hsum hbl w1 w2 w3 l1 l2 l3 fin f1 f2 f3 hba hfa hfl hat0 hat1 n0 n1 c9
    simp only [↓Z.e_seq, ↓Z.e_asg, ↓Z.e_st_d, ↓Z.e_st_own, ↓Z.e_st_loc, ↓Z.e_next, ↓Z.e_break, ↓Z.e_cont, ↓Z.e_ifS, ↓Z.e_ret, ↓Z.e_retN, ↓Z.e_drop, ↓Z.e_never, ↓Z.e_c, ↓Z.e_var, ↓Z.e_z1, ↓Z.e_z2, ↓Z.e_via, ↓Z.e_a0, ↓Z.e_a, ↓Z.e_tup, ↓Z.e_lst, ↓Z.e_dnew, ↓Z.e_b, ↓Z.e_and, ↓Z.e_or, ↓Z.e_not, ↓Z.e_andV, ↓Z.e_orV, ↓Z.e_notV, ↓Z.e_if, ↓Z.e_call, ↓Z.e_meth, ↓Z.e_chain, ↓Z.e_no, ↓Z.e_pt, ↓Z.e_sl, Z.x_comp, Z.x_nx, Z.x_asg, Z.x_st, Z.x_if, Z.x_rt, Z.x_ret, Z.x_z2, Z.x_d, Z.x_via, Z.x_cons, Z.x_fix, Z.x_a, Z.x_tup, Z.x_lst, Z.x_ok, Z.x_not, Z.x_notV, Z.x_call, Z.x_self, Z.x_meth2, Z.x_meth1, Z.x_chain2, Z.x_chain1, Z.x_pt, Z.x_sl3, Z.x_sl2, Z.x_sl1, Z.bind_ok, Z.bind_bad, Z.bind_ite, Z.bind_bind, Z.seqK_nx, Z.seqK_rt, Z.seqK_bk, Z.seqK_ct, Z.told_d, Z.told_own, Z.told_loc, Z.toldK_own, Z.varK_own, Z.varK_d, Z.fix_d, Z.fix_own, Z.fix_loc, Z.fixK_own, Z.fixK_d, Z.celled_own, Z.celled_cell, Z.oB_bl, Z.chK_bl, Z.chainK_int, Z.contK_own, Z.cont_int, Z.cont_str, Z.cont_bl, Z.cont_non, Z.cont_lst, Z.cont_con, Z.cont_tup, Z.cont_dct, Z.cont_obj, Z.cont_cell, Z.cont_own, Z.cont_loc, Z.w_add, Z.addK_int, Z.addK_str, Z.addK_lst, Z.addK_tup, Z.w_sub, Z.w_mulG, Z.mulK_int, Z.mulK_lst, Z.w_mod, Z.w_div, Z.w_pow, Z.w_cmp, Z.w_neg, Z.w_min, Z.w_isi, Z.w_isN_n, Z.w_eq, Z.w_in, Z.w_ix, Z.w_len, Z.lenK_lst, Z.lenK_con, Z.lenK_dct, Z.w_fld, Z.isi_int, Z.isi_bl, Z.isi_str, Z.isi_non, Z.isi_lst, Z.isi_con, Z.isi_tup, Z.isi_dct, Z.isT, Z.w_isN_int, Z.w_isN_tup, Z.flv, ↓Z.e_lc, ↓Z.e_yes, ↓Z.e_itL, Z.x_itL_lst, Z.x_itL_con, ↓Z.e_itS, Z.x_itS, Z.wipe_mk, Z.zwipe_nil, Z.zwipe_cons, Z.w_dict, Z.dictK_dct, Z.w_list, Z.listK_lst, Z.listK_con, Z.listK_dct, Z.w_int_bl, Z.w_int_int, Z.w_sl, Z.slK_lst, Z.slK_con, ↓Z.e_rg1, Z.x_rg1, ↓Z.e_for, Z.x_turn, ↓Z.e_zip, Z.x_zip1, ↓Z.e_en, Z.x_en_lst, Z.w_unp, Z.unp2, Z.unp3, Z.unp4, Z.unp5, Z.setAll_cons, Z.setAll_nil, ↓Z.e_m1s, Z.x_m1s, Z.slK_str, Z.lenK_str, ↓Z.e_m2, Z.x_m2, Z.x_isL, Z.isLK_lst, Z.x_isD, Z.isDK_dct, Z.x_rv, Z.w_b2, Z.b2_append, Z.b2_extend, Z.w_b1, Z.b1_clear, Z.mod_cell, Z.mod_loc, Z.modK_own, ↓Z.e_sf, Z.x_sf1, Z.x_sf2, Z.x_sf3, ↓Z.e_mk, Z.x_mk, Z.x_sto, ↓Z.e_dp, Z.x_dp1, Z.x_dp2, Z.x_dp3, Z.x_dp4, Z.eqK_int, Z.eqK_str, Z.w_ne, Z.neK_nil, Z.neK_dct, Z.eqK_nil, Z.frz_new, Z.Sto.put_same, Z.put_put, Z.new_put, Z.new_get, Z.sfn0, Z.sfn1, Z.sfn2, Z.sfn3, Z.sfn4, Z.sfn5, Z.sfn6, Z.sfn7, Z.sfn8, decide_false, decide_true, Z.Wp_bad, Z.Wp_ok, Z.Wp_ite, List.set_cons_zero, List.set_cons_succ, List.getElem?_cons_zero, List.getElem?_cons_succ, List.cons_append, List.nil_append, List.append_nil, List.isEmpty_nil, List.isEmpty_cons, if_true, if_false, Bool.false_eq_true, true_implies, false_implies, implies_true, reduceCtorEq, Bool.not_true, Bool.not_false, eq_self, and_self, and_true, true_and, *]
    rw [cutD_to _ (by decide), List.map_take]
    rfl
end
end T

namespace T
open PySem PySem.Spec PyProof.Rows L2 M Z A
open Classical
local macro_rules | `(tactic| walk_at "zi") => `(tactic| repeat (refine Z.iteW (by first | decide | omega | (refine M.CDivW_small ?_ ?_ <;> omega) | (refine M.CMulX_small ?_ ?_ ?_ ?_ <;> omega)) ?_))
/-! the law's model -/
def row5 (q : Int × TD) : D := .tup [.str q.2.tail, .str q.2.head, .int q.2.least, mostD q.2.most, .int q.2.price]
def modF (ml md : Nat) (g : Int) : List (Key × D) := [(.inr "names", .cell ml), (.inr "ties", .cell md), (.inr "given", .int g)]
structure ModAt (S : Sto) (m ml md : Nat) (N : ND) : Prop where
  m : S.get m = some (.dct (modF ml md N.given))
  l : S.get ml = some (.lst (N.names.map .str))
  d : S.get md = some (.dct (rowsG row5 N.ties))
structure Good (N : ND) : Prop where
  nd : N.names.Nodup
  nm : ∀ z ∈ N.names, NmOk z
  nl : N.names.length ≤ 14
  rise : Rise N.ties
  tl : N.ties.length ≤ 40
  ts : ∀ q ∈ N.ties, q.1 ≤ N.given ∧ TieOk q.2
  tn : ∀ q ∈ N.ties, NmOk q.2.tail ∧ NmOk q.2.head
theorem name_at {ns : List Str} {i : Int} (h0 : 0 ≤ i) (h1 : i < ns.length) : ∃ z, z ∈ ns ∧ dIx (.lst (ns.map .str)) (.int i) = some (.str z) ∧ ns[i.toNat]? = some z := by
  have h2 : i.toNat < ns.length := by omega
  refine ⟨ns[i.toNat], List.getElem_mem h2, ?_, List.getElem?_eq_getElem h2⟩
  show atI (ns.map D.str) i = _
  rw [atI_in (D.str "") h0 (by rw [List.length_map]; exact h1), List.getD_eq_getElem?_getD, List.getElem?_map, List.getElem?_eq_getElem h2]
  rfl
theorem nodup_ne {ns : List Str} (h : ns.Nodup) {i j : Nat} {x y : Str} (hi : ns[i]? = some x) (hj : ns[j]? = some y) (hne : i ≠ j) : x ≠ y := fun e => by
  subst e
  obtain ⟨a, ha⟩ := List.getElem?_eq_some_iff.mp hi
  obtain ⟨b, hb⟩ := List.getElem?_eq_some_iff.mp hj
  rcases Nat.lt_or_gt_of_ne hne with hlt | hlt
  · exact List.pairwise_iff_getElem.mp h i j a b hlt (ha.trans hb.symm)
  · exact List.pairwise_iff_getElem.mp h j i b a hlt (hb.trans ha.symm)
theorem shift_ne {m a L : Int} (h0 : 0 ≤ a) (h1 : a < L - 1) : (m + 1 + a) % L ≠ m % L := fun e => by
  have h := Int.emod_eq_emod_iff_emod_sub_eq_zero.mp e
  rw [show m + 1 + a - m = 1 + a by omega, Int.emod_eq_of_lt (by omega) (by omega)] at h
  omega
/-- the six cells, apart -/
structure Six (S : Sto) (n l d m ml md : Nat) : Prop where
  b1 : n < S.nx
  b2 : l < S.nx
  b3 : d < S.nx
  b4 : m < S.nx
  b5 : ml < S.nx
  b6 : md < S.nx
  a1 : n ≠ m ∧ n ≠ ml ∧ n ≠ md
  a2 : l ≠ m ∧ l ≠ ml ∧ l ≠ md
  a3 : d ≠ m ∧ d ≠ ml ∧ d ≠ md
  a4 : m ≠ ml ∧ m ≠ md ∧ ml ≠ md
  a5 : n ≠ l ∧ n ≠ d ∧ l ≠ d
/-- what a deed does to the store -/
structure Did (S S' : Sto) (n l d m ml md : Nat) (N' : ND) : Prop where
  nx : S.nx ≤ S'.nx
  fr : ∀ i, i < S.nx → i ≠ n → i ≠ l → i ≠ d → i ≠ m → i ≠ ml → i ≠ md → S'.get i = S.get i
  net : NetAt S' n l d N'
  mod : ModAt S' m ml md N'
  good : Good N'
section
variable {s : SD} {S : Sto} {sl : List (Option Vl)} {x y z : D} {n l d m ml md : Nat} {N : ND} {g i c k : Int} {t : TD} {a b : D}
theorem mx_names {s : SD} : ixK s (some (.dct (modF ml md g))) (some (.str "names")) = .ok (.d (.cell ml)) s := rfl
theorem mx_ties {s : SD} : ixK s (some (.dct (modF ml md g))) (some (.str "ties")) = .ok (.d (.cell md)) s := rfl
theorem mx_given {s : SD} : ixK s (some (.dct (modF ml md g))) (some (.str "given")) = .ok (.d (.int g)) s := rfl
theorem mp_given {s : SD} {a : Vl} : stK' (fDput (.int i)) a (.str "given") s (some (.dct (modF ml md g))) = s.mod (.dct (modF ml md i)) a := by
  rw [sto_put (k := .inr "given") rfl (by show 3 < sizeLine; decide)]
  rfl
theorem pick3 {a : Int} (h0 : 0 ≤ a) (h1 : a ≤ M60) (j : Int) : ∃ v : Int, 0 ≤ v ∧ v ≤ M60 ∧ dIx (.lst [.int 0, .int 0, .int a]) (.int (j % 3)) = some (.int v) := by
  have hM := hM60
  rcases (show j % 3 = 0 ∨ j % 3 = 1 ∨ j % 3 = 2 by omega) with e | e | e <;> rw [e]
  · exact ⟨0, by omega, by omega, rfl⟩
  · exact ⟨0, by omega, by omega, rfl⟩
  · exact ⟨a, h0, h1, rfl⟩
theorem pickM {le a : Int} (l1 : le ≤ M60) (a0 : 0 ≤ a) (j : Int) : ∃ mo : Option Int, rmOk le (mostD mo) = true ∧ dIx (.lst [.non, .int M60, .int (if le + a < M60 then le + a else M60)]) (.int (j % 3)) = some (mostD mo) := by
  rcases (show j % 3 = 0 ∨ j % 3 = 1 ∨ j % 3 = 2 by omega) with e | e | e <;> rw [e]
  · exact ⟨none, rfl, rfl⟩
  · exact ⟨some M60, by simp [rmOk, mostD, l1], rfl⟩
  · refine ⟨some (if le + a < M60 then le + a else M60), ?_, rfl⟩
    simp only [rmOk, mostD, Bool.and_eq_true, decide_eq_true_eq]
    split <;> omega
theorem pickS {p : Int} (p0 : 0 ≤ p) (p1 : p ≤ M60) (j : Int) : ∃ v : Int, (v = 1 ∨ v = -1) ∧ dIx (.lst [.int 1, .int (-1)]) (.int (j % 2)) = some (.int v) := by
  rcases (show j % 2 = 0 ∨ j % 2 = 1 by omega) with e | e <;> rw [e]
  · exact ⟨1, .inl rfl, rfl⟩
  · exact ⟨-1, .inr rfl, rfl⟩
theorem rise_put {ts : List (Int × TD)} (hr : Rise ts) (hg : ∀ q ∈ ts, q.1 ≤ g) : putT ts (g + 1) t = ts ++ [(g + 1, t)] ∧ Rise (ts ++ [(g + 1, t)]) := by
  refine ⟨?_, ?_⟩
  · unfold putT
    rw [if_neg]
    intro e
    obtain ⟨q, hq, e⟩ := List.any_eq_true.mp e
    have := hg q hq
    have := of_decide_eq_true e
    omega
  · unfold Rise
    rw [List.map_append, List.pairwise_append]
    refine ⟨hr, by simp, fun a ha b hb => ?_⟩
    obtain ⟨q, hq, rfl⟩ := List.mem_map.mp ha
    rw [List.mem_singleton.mp (show b ∈ [g + 1] from hb)]
    have := hg q hq
    omega
theorem Good.put (h : Good N) (ok : TieOk t) (h1 : t.tail ∈ N.names) (h2 : t.head ∈ N.names) (hl : N.ties.length < 40) : Good ⟨N.names, putT N.ties (N.given + 1) t, N.given + 1⟩ := by
  obtain ⟨e1, e2⟩ := rise_put (g := N.given) (t := t) h.rise fun q hq => (h.ts q hq).1
  refine ⟨h.nd, h.nm, h.nl, ?_, ?_, fun q hq => ?_, fun q hq => ?_⟩
  · show Rise (putT _ _ _); rw [e1]; exact e2
  · show (putT _ _ _).length ≤ 40; rw [e1, List.length_append]; exact hl
  · have hq : q ∈ putT N.ties (N.given + 1) t := hq
    rw [e1] at hq
    rcases List.mem_append.mp hq with hq | hq
    · obtain ⟨h1, h2⟩ := h.ts q hq
      exact ⟨by show q.1 ≤ N.given + 1; omega, h2⟩
    · rw [List.mem_singleton.mp hq]
      exact ⟨Int.le_refl _, ok⟩
  · have hq : q ∈ putT N.ties (N.given + 1) t := hq
    rw [e1] at hq
    rcases List.mem_append.mp hq with hq | hq
    · exact h.tn q hq
    · rw [List.mem_singleton.mp hq]
      exact ⟨h.nm _ h1, h.nm _ h2⟩
def putS (S : Sto) (n l d m ml md : Nat) (N : ND) (t : TD) : Sto :=
  (((S.tick.put d (.dct (rowsG tieD (putT N.ties (N.given + 1) t)))).put n (.obj "Net" (netF l d (N.given + 1)))).put m (.dct (modF ml md (N.given + 1)))).put md (.dct (rowsG row5 (putT N.ties (N.given + 1) t)))
theorem put_did (h6 : Six S n l d m ml md) (hN : NetAt S n l d N) (hM : ModAt S m ml md N) (hG : Good N) (ok : TieOk t) (t1 : t.tail ∈ N.names) (t2 : t.head ∈ N.names) (hl : N.ties.length < 40) : Did S (putS S n l d m ml md N t) n l d m ml md ⟨N.names, putT N.ties (N.given + 1) t, N.given + 1⟩ := by
  obtain ⟨b1, b2, b3, b4, b5, b6, ⟨a1, a2, a3⟩, ⟨a4, a5, a6⟩, ⟨a7, a8, a9⟩, ⟨a10, a11, a12⟩, ⟨a13, a14, a15⟩⟩ := h6
  refine ⟨Nat.le_succ _, fun i hi c1 c2 c3 c4 c5 c6 => ?_, ⟨?_, ?_, ?_⟩, ⟨?_, ?_, ?_⟩, hG.put ok t1 t2 hl⟩
  · unfold putS
    rw [Sto.put_ne c6, Sto.put_ne c4, Sto.put_ne c1, Sto.put_ne c3, tick_ne (by omega)]
  · unfold putS
    rw [Sto.put_ne a3, Sto.put_ne a1, Sto.put_same]
  · unfold putS
    rw [Sto.put_ne a6, Sto.put_ne a4, Sto.put_ne (Ne.symm a13), Sto.put_ne a15, tick_ne (by omega)]
    exact hN.l
  · unfold putS
    rw [Sto.put_ne a9, Sto.put_ne a7, Sto.put_ne (Ne.symm a14), Sto.put_same]
  · unfold putS
    rw [Sto.put_ne a11, Sto.put_same]
  · unfold putS
    rw [Sto.put_ne a12, Sto.put_ne (Ne.symm a10), Sto.put_ne (Ne.symm a2), Sto.put_ne (Ne.symm a8), tick_ne (by omega)]
    exact hM.l
  · unfold putS
    rw [Sto.put_same]
theorem sp_row {s : SD} {a : Vl} {ts : List (Int × TD)} (hl : ts.length ≤ 40) : stK' (fDput (row5 (i, t))) a (.int i) s (some (.dct (rowsG row5 ts))) = s.mod (.dct (rowsG row5 (putT ts i t))) a := by
  rw [sto_put (k := .inl i) rfl (by unfold rowsG; rw [List.length_map]; exact Nat.lt_of_le_of_lt hl (by decide)), dput_rows]
theorem mN_put_tie : fval (netF l d g) "put_tie" = none := rfl
theorem g_Lput_tie (h6 : Six S n l d m ml md) (hN : NetAt S n l d N) (hM : ModAt S m ml md N) (hG : Good N) (h2 : 2 ≤ N.names.length) (hl : N.ties.length < 40) (k0 : 0 ≤ k) (k1 : k ≤ 1000) :
    ∃ S' N', Did S S' n l d m ml md N' ∧ ∀ sl, goF v_Lput_tie [.cell n, .cell m, .int c, .int k] ⟨sl, S⟩ = .ok (.d (.bl true)) ⟨sl, S'⟩ := by
  have hM0 := hM60
  obtain ⟨j, j0, j1, e1⟩ := g_draw c k 2 k0 k1 (by decide) (by decide)
  obtain ⟨p3, p30, p31, e3⟩ := g_amount c k 3 k0 k1 (by decide) (by decide)
  obtain ⟨p4, p40, p41, e4⟩ := g_amount c k 4 k0 k1 (by decide) (by decide)
  obtain ⟨p5, p50, p51, e5⟩ := g_amount c k 5 k0 k1 (by decide) (by decide)
  have hL : ((N.names.length : Nat) : Int) ≠ 0 := by omega
  have hL1 : ((N.names.length : Nat) : Int) - 1 ≠ 0 := by omega
  obtain ⟨tail, ht, et, et2⟩ := name_at (ns := N.names) (i := j % (N.names.length : Int)) (Int.emod_nonneg _ (by omega)) (Int.emod_lt_of_pos _ (by omega))
  obtain ⟨head, hh, eh, eh2⟩ := name_at (ns := N.names) (i := (j + 1 + j / 14 % ((N.names.length : Int) - 1)) % (N.names.length : Int)) (Int.emod_nonneg _ (by omega)) (Int.emod_lt_of_pos _ (by omega))
  have hne : tail ≠ head := nodup_ne hG.nd et2 eh2 fun e => by
    have q1 := Int.emod_nonneg j hL
    have q2 := Int.emod_nonneg (j + 1 + j / 14 % ((N.names.length : Int) - 1)) hL
    exact shift_ne (m := j) (L := N.names.length) (Int.emod_nonneg (j / 14) hL1) (Int.emod_lt_of_pos (j / 14) (by omega)) (by omega)
  obtain ⟨le, le0, le1, ele⟩ := pick3 p30 p31 (j / 200)
  obtain ⟨mo, hmo, emo⟩ := pickM le1 p40 (j / 600)
  obtain ⟨v, hv, ev⟩ := pickS p50 p51 (j / 1800)
  have q1 := hM.m
  have q2 := hM.l
  have q3 := hM.d
  have q4 := hN.n
  have r1 := fun s : SD => ixK_ok (s := s) et
  have r2 := fun s : SD => ixK_ok (s := s) eh
  have r3 := fun s : SD => ixK_ok (s := s) ele
  have r4 := fun s : SD => ixK_ok (s := s) emo
  have r5 := fun s : SD => ixK_ok (s := s) ev
  have fin : ∀ t : TD, t.tail = tail → t.head = head → TieOk t → (∀ sl, goF v_Lput_tie [.cell n, .cell m, .int c, .int k] ⟨sl, S⟩ = .ok (.d (.bl true)) ⟨sl, putS S n l d m ml md N t⟩) →
      ∃ S' N', Did S S' n l d m ml md N' ∧ ∀ sl, goF v_Lput_tie [.cell n, .cell m, .int c, .int k] ⟨sl, S⟩ = .ok (.d (.bl true)) ⟨sl, S'⟩ := fun t e1 e2 ok h => ⟨_, _, put_did h6 hN hM hG ok (e1 ▸ ht) (e2 ▸ hh) hl, h⟩
  have put := fun (t : TD) (h1 : t.tail = tail) (h2 : t.head = head) (ok : TieOk t) sl => g_put_tie (sl := sl) hN h6.b1 h6.b3 h6.b2 (h1 ▸ ht) (h2 ▸ hh) (by rw [h1, h2]; exact hne) ok hl
  obtain ⟨b1, b2, b3, b4, b5, b6, ⟨a1, a2, a3⟩, ⟨a4, a5, a6⟩, ⟨a7, a8, a9⟩, ⟨a10, a11, a12⟩, ⟨a13, a14, a15⟩⟩ := h6
  have f1 : ∀ x y, ((S.tick.put d x).put n y).get m = some (.dct (modF ml md N.given)) := fun x y => by rw [Sto.put_ne (Ne.symm a1), Sto.put_ne (Ne.symm a7), tick_ne (by omega), q1]
  have f2 : ∀ x y z, (((S.tick.put d x).put n y).put m z).get md = some (.dct (rowsG row5 N.ties)) := fun x y z => by rw [Sto.put_ne (Ne.symm a11), Sto.put_ne (Ne.symm a3), Sto.put_ne (Ne.symm a9), tick_ne (by omega), q3]
  have f3 : ∀ x y z w, ((((S.tick.put d x).put n y).put m z).put md w).get m = some z := fun x y z w => by rw [Sto.put_ne a11, Sto.put_same]
  have z1 : (0 < (N.names.length : Int)) = True := eq_true (by omega)
  have z2 : (0 < (N.names.length : Int) - 1) = True := eq_true (by omega)
  have z3 : ∀ i : Int, CDivW i 14 = True := fun i => eq_true (M.CDivW_small (by decide) (by decide))
  have z4 : ∀ i : Int, CDivW i 200 = True := fun i => eq_true (M.CDivW_small (by decide) (by decide))
  have z5 : ∀ i : Int, CDivW i 600 = True := fun i => eq_true (M.CDivW_small (by decide) (by decide))
  have z6 : ∀ i : Int, CDivW i 1800 = True := fun i => eq_true (M.CDivW_small (by decide) (by decide))
  have z7 : ∀ i : Int, CDivW i 3600 = True := fun i => eq_true (M.CDivW_small (by decide) (by decide))
  have z8 : ((0 : Int) < 3) = True := by simp
  have z9 : ((0 : Int) < 2) = True := by simp
  have z10 : ((0 : Int) < 4) = True := by simp
  have z11 : CMulX p5 v = True := eq_true (by rcases hv with rfl | rfl <;> exact M.CMulX_small (by omega) (by omega) (by omega) (by omega))
  have hg := fun (s : SD) i => g_whole (s := s) i
  by_cases c1 : j / 3600 % 4 = 0
  · refine fin ⟨tail, head, 0, none, 0⟩ rfl rfl (⟨Int.le_refl _, by show (0 : Int) ≤ M60; decide, rfl, by show -M60 ≤ (0 : Int); decide, by show (0 : Int) ≤ M60; decide⟩ : TieOk ⟨tail, head, 0, none, 0⟩) fun sl => go_e ?_
    have pt := put ⟨tail, head, 0, none, 0⟩ rfl rfl (⟨Int.le_refl _, by show (0 : Int) ≤ M60; decide, rfl, by show -M60 ≤ (0 : Int); decide, by show (0 : Int) ≤ M60; decide⟩ : TieOk ⟨tail, head, 0, none, 0⟩)
    have d1 := decide_eq_true c1
    have sp : ∀ s a, stK' (fDput (.tup [.str tail, .str head, .int 0, .non, .int 0])) a (.int (N.given + 1)) s (some (.dct (rowsG row5 N.ties))) = s.mod (.dct (rowsG row5 (putT N.ties (N.given + 1) ⟨tail, head, 0, none, 0⟩))) a := fun s a => sp_row (t := ⟨tail, head, 0, none, 0⟩) (by omega)
    simp only [mostD] at pt
    show Wp (b_Lput_tie ⟨[some (.d (.cell n)), some (.d (.cell m)), some (.d (.int c)), some (.d (.int k)), none, none, none, none, none, none, none, none], S⟩) _ _
    unfold b_Lput_tie
    clear put fin hv hmo ht hh hne et et2 eh eh2 ele emo ev hM hN hG a1 a2 a3 a4 a5 a6 a7 a8 a9 a10 a11 a12 a13 a14 a15 b1 b2 b3 b4 b5 b6 c1 le0 le1 p30 p31 p40 p41 p50 p51 j0 j1 hL hL1 h2 hl k0 k1 hM0
    simp only [↓Z.e_seq, ↓Z.e_asg, ↓Z.e_st_d, ↓Z.e_st_own, ↓Z.e_st_loc, ↓Z.e_next, ↓Z.e_break, ↓Z.e_cont, ↓Z.e_ifS, ↓Z.e_ret, ↓Z.e_retN, ↓Z.e_drop, ↓Z.e_never, ↓Z.e_c, ↓Z.e_var, ↓Z.e_z1, ↓Z.e_z2, ↓Z.e_via, ↓Z.e_a0, ↓Z.e_a, ↓Z.e_tup, ↓Z.e_lst, ↓Z.e_dnew, ↓Z.e_b, ↓Z.e_and, ↓Z.e_or, ↓Z.e_not, ↓Z.e_andV, ↓Z.e_orV, ↓Z.e_notV, ↓Z.e_if, ↓Z.e_call, ↓Z.e_meth, ↓Z.e_chain, ↓Z.e_no, ↓Z.e_pt, ↓Z.e_sl, Z.x_comp, Z.x_nx, Z.x_asg, Z.x_st, Z.x_if, Z.x_rt, Z.x_ret, Z.x_z2, Z.x_d, Z.x_via, Z.x_cons, Z.x_fix, Z.x_a, Z.x_tup, Z.x_lst, Z.x_ok, Z.x_not, Z.x_notV, Z.x_call, Z.x_self, Z.x_meth2, Z.x_meth1, Z.x_chain2, Z.x_chain1, Z.x_pt, Z.x_sl3, Z.x_sl2, Z.x_sl1, Z.bind_ok, Z.bind_bad, Z.bind_ite, Z.bind_bind, Z.seqK_nx, Z.seqK_rt, Z.seqK_bk, Z.seqK_ct, Z.told_d, Z.told_own, Z.told_loc, Z.toldK_own, Z.varK_own, Z.varK_d, Z.fix_d, Z.fix_own, Z.fix_loc, Z.fixK_own, Z.fixK_d, Z.celled_own, Z.celled_cell, Z.oB_bl, Z.chK_bl, Z.chainK_int, Z.contK_own, Z.cont_int, Z.cont_str, Z.cont_bl, Z.cont_non, Z.cont_lst, Z.cont_con, Z.cont_tup, Z.cont_dct, Z.cont_obj, Z.cont_cell, Z.cont_own, Z.cont_loc, Z.w_add, Z.addK_int, Z.addK_str, Z.addK_lst, Z.addK_tup, Z.w_sub, Z.w_mulG, Z.mulK_int, Z.mulK_lst, Z.w_mod, Z.w_div, Z.w_pow, Z.w_cmp, Z.w_neg, Z.w_min, Z.w_isi, Z.w_isN_n, Z.w_eq, Z.w_in, Z.w_ix, Z.w_len, Z.lenK_lst, Z.lenK_con, Z.lenK_dct, Z.w_fld, Z.isi_int, Z.isi_bl, Z.isi_str, Z.isi_non, Z.isi_lst, Z.isi_con, Z.isi_tup, Z.isi_dct, Z.isT, Z.w_isN_int, Z.w_isN_tup, Z.flv, ↓Z.e_lc, ↓Z.e_yes, ↓Z.e_itL, Z.x_itL_lst, Z.x_itL_con, ↓Z.e_itS, Z.x_itS, Z.wipe_mk, Z.zwipe_nil, Z.zwipe_cons, Z.w_dict, Z.dictK_dct, Z.w_list, Z.listK_lst, Z.listK_con, Z.listK_dct, Z.w_int_bl, Z.w_int_int, Z.w_sl, Z.slK_lst, Z.slK_con, ↓Z.e_rg1, Z.x_rg1, ↓Z.e_for, Z.x_turn, ↓Z.e_zip, Z.x_zip1, ↓Z.e_en, Z.x_en_lst, Z.w_unp, Z.unp2, Z.unp3, Z.unp4, Z.unp5, Z.setAll_cons, Z.setAll_nil, ↓Z.e_m1s, Z.x_m1s, Z.slK_str, Z.lenK_str, ↓Z.e_m2, Z.x_m2, Z.x_isL, Z.isLK_lst, Z.x_isD, Z.isDK_dct, Z.x_rv, Z.w_b2, Z.b2_append, Z.b2_extend, Z.w_b1, Z.b1_clear, Z.mod_cell, Z.mod_loc, Z.modK_own, ↓Z.e_sf, Z.x_sf1, Z.x_sf2, Z.x_sf3, ↓Z.e_mk, Z.x_mk, Z.x_sto, ↓Z.e_dp, Z.x_dp1, Z.x_dp2, Z.x_dp3, Z.x_dp4, Z.eqK_int, Z.eqK_str, Z.w_ne, Z.neK_nil, Z.neK_dct, Z.eqK_nil, Z.frz_new, Z.Sto.put_same, Z.put_put, Z.new_put, Z.new_get, Z.sfn0, Z.sfn1, Z.sfn2, Z.sfn3, Z.sfn4, Z.sfn5, Z.sfn6, Z.sfn7, Z.sfn8, decide_false, decide_true, Z.Wp_bad, Z.Wp_ok, Z.Wp_ite, List.set_cons_zero, List.set_cons_succ, List.getElem?_cons_zero, List.getElem?_cons_succ, List.cons_append, List.nil_append, List.append_nil, List.isEmpty_nil, List.isEmpty_cons, if_true, if_false, Bool.false_eq_true, true_implies, false_implies, implies_true, reduceCtorEq, Bool.not_true, Bool.not_false, eq_self, and_self, and_true, true_and, mx_names, mx_ties, mx_given, mp_given, List.length_map, cp60, pow60, Z.methK_obj T.mN_put_tie, *]
    rfl
  have d1 := decide_eq_false c1
  by_cases c2 : j / 3600 % 4 = 1
  · have ok : TieOk ⟨tail, head, le, mo, 0⟩ := ⟨le0, le1, hmo, by show -M60 ≤ (0 : Int); decide, by show (0 : Int) ≤ M60; decide⟩
    refine fin ⟨tail, head, le, mo, 0⟩ rfl rfl ok fun sl => go_e ?_
    have pt := put ⟨tail, head, le, mo, 0⟩ rfl rfl ok
    have d2 := decide_eq_true c2
    have sp : ∀ s a, stK' (fDput (.tup [.str tail, .str head, .int le, mostD mo, .int 0])) a (.int (N.given + 1)) s (some (.dct (rowsG row5 N.ties))) = s.mod (.dct (rowsG row5 (putT N.ties (N.given + 1) ⟨tail, head, le, mo, 0⟩))) a := fun s a => sp_row (t := ⟨tail, head, le, mo, 0⟩) (by omega)
    dsimp only at pt
    show Wp (b_Lput_tie ⟨[some (.d (.cell n)), some (.d (.cell m)), some (.d (.int c)), some (.d (.int k)), none, none, none, none, none, none, none, none], S⟩) _ _
    unfold b_Lput_tie
    clear put fin hv hmo ht hh hne et et2 eh eh2 ele emo ev hM hN hG a1 a2 a3 a4 a5 a6 a7 a8 a9 a10 a11 a12 a13 a14 a15 b1 b2 b3 b4 b5 b6 c1 c2 le0 le1 p30 p31 p40 p41 p50 p51 j0 j1 hL hL1 h2 hl k0 k1 hM0 ok
    simp only [↓Z.e_seq, ↓Z.e_asg, ↓Z.e_st_d, ↓Z.e_st_own, ↓Z.e_st_loc, ↓Z.e_next, ↓Z.e_break, ↓Z.e_cont, ↓Z.e_ifS, ↓Z.e_ret, ↓Z.e_retN, ↓Z.e_drop, ↓Z.e_never, ↓Z.e_c, ↓Z.e_var, ↓Z.e_z1, ↓Z.e_z2, ↓Z.e_via, ↓Z.e_a0, ↓Z.e_a, ↓Z.e_tup, ↓Z.e_lst, ↓Z.e_dnew, ↓Z.e_b, ↓Z.e_and, ↓Z.e_or, ↓Z.e_not, ↓Z.e_andV, ↓Z.e_orV, ↓Z.e_notV, ↓Z.e_if, ↓Z.e_call, ↓Z.e_meth, ↓Z.e_chain, ↓Z.e_no, ↓Z.e_pt, ↓Z.e_sl, Z.x_comp, Z.x_nx, Z.x_asg, Z.x_st, Z.x_if, Z.x_rt, Z.x_ret, Z.x_z2, Z.x_d, Z.x_via, Z.x_cons, Z.x_fix, Z.x_a, Z.x_tup, Z.x_lst, Z.x_ok, Z.x_not, Z.x_notV, Z.x_call, Z.x_self, Z.x_meth2, Z.x_meth1, Z.x_chain2, Z.x_chain1, Z.x_pt, Z.x_sl3, Z.x_sl2, Z.x_sl1, Z.bind_ok, Z.bind_bad, Z.bind_ite, Z.bind_bind, Z.seqK_nx, Z.seqK_rt, Z.seqK_bk, Z.seqK_ct, Z.told_d, Z.told_own, Z.told_loc, Z.toldK_own, Z.varK_own, Z.varK_d, Z.fix_d, Z.fix_own, Z.fix_loc, Z.fixK_own, Z.fixK_d, Z.celled_own, Z.celled_cell, Z.oB_bl, Z.chK_bl, Z.chainK_int, Z.contK_own, Z.cont_int, Z.cont_str, Z.cont_bl, Z.cont_non, Z.cont_lst, Z.cont_con, Z.cont_tup, Z.cont_dct, Z.cont_obj, Z.cont_cell, Z.cont_own, Z.cont_loc, Z.w_add, Z.addK_int, Z.addK_str, Z.addK_lst, Z.addK_tup, Z.w_sub, Z.w_mulG, Z.mulK_int, Z.mulK_lst, Z.w_mod, Z.w_div, Z.w_pow, Z.w_cmp, Z.w_neg, Z.w_min, Z.w_isi, Z.w_isN_n, Z.w_eq, Z.w_in, Z.w_ix, Z.w_len, Z.lenK_lst, Z.lenK_con, Z.lenK_dct, Z.w_fld, Z.isi_int, Z.isi_bl, Z.isi_str, Z.isi_non, Z.isi_lst, Z.isi_con, Z.isi_tup, Z.isi_dct, Z.isT, Z.w_isN_int, Z.w_isN_tup, Z.flv, ↓Z.e_lc, ↓Z.e_yes, ↓Z.e_itL, Z.x_itL_lst, Z.x_itL_con, ↓Z.e_itS, Z.x_itS, Z.wipe_mk, Z.zwipe_nil, Z.zwipe_cons, Z.w_dict, Z.dictK_dct, Z.w_list, Z.listK_lst, Z.listK_con, Z.listK_dct, Z.w_int_bl, Z.w_int_int, Z.w_sl, Z.slK_lst, Z.slK_con, ↓Z.e_rg1, Z.x_rg1, ↓Z.e_for, Z.x_turn, ↓Z.e_zip, Z.x_zip1, ↓Z.e_en, Z.x_en_lst, Z.w_unp, Z.unp2, Z.unp3, Z.unp4, Z.unp5, Z.setAll_cons, Z.setAll_nil, ↓Z.e_m1s, Z.x_m1s, Z.slK_str, Z.lenK_str, ↓Z.e_m2, Z.x_m2, Z.x_isL, Z.isLK_lst, Z.x_isD, Z.isDK_dct, Z.x_rv, Z.w_b2, Z.b2_append, Z.b2_extend, Z.w_b1, Z.b1_clear, Z.mod_cell, Z.mod_loc, Z.modK_own, ↓Z.e_sf, Z.x_sf1, Z.x_sf2, Z.x_sf3, ↓Z.e_mk, Z.x_mk, Z.x_sto, ↓Z.e_dp, Z.x_dp1, Z.x_dp2, Z.x_dp3, Z.x_dp4, Z.eqK_int, Z.eqK_str, Z.w_ne, Z.neK_nil, Z.neK_dct, Z.eqK_nil, Z.frz_new, Z.Sto.put_same, Z.put_put, Z.new_put, Z.new_get, Z.sfn0, Z.sfn1, Z.sfn2, Z.sfn3, Z.sfn4, Z.sfn5, Z.sfn6, Z.sfn7, Z.sfn8, decide_false, decide_true, Z.Wp_bad, Z.Wp_ok, Z.Wp_ite, List.set_cons_zero, List.set_cons_succ, List.getElem?_cons_zero, List.getElem?_cons_succ, List.cons_append, List.nil_append, List.append_nil, List.isEmpty_nil, List.isEmpty_cons, if_true, if_false, Bool.false_eq_true, true_implies, false_implies, implies_true, reduceCtorEq, Bool.not_true, Bool.not_false, eq_self, and_self, and_true, true_and, mx_names, mx_ties, mx_given, mp_given, List.length_map, cp60, pow60, Z.methK_obj T.mN_put_tie, *]
    rfl
  have d2 := decide_eq_false c2
  have ok : TieOk ⟨tail, head, le, mo, p5 * v⟩ := ⟨le0, le1, hmo, by show -M60 ≤ p5 * v; rcases hv with rfl | rfl <;> omega, by show p5 * v ≤ M60; rcases hv with rfl | rfl <;> omega⟩
  refine fin ⟨tail, head, le, mo, p5 * v⟩ rfl rfl ok fun sl => go_e ?_
  have pt := put ⟨tail, head, le, mo, p5 * v⟩ rfl rfl ok
  have sp : ∀ s a, stK' (fDput (.tup [.str tail, .str head, .int le, mostD mo, .int (p5 * v)])) a (.int (N.given + 1)) s (some (.dct (rowsG row5 N.ties))) = s.mod (.dct (rowsG row5 (putT N.ties (N.given + 1) ⟨tail, head, le, mo, p5 * v⟩))) a := fun s a => sp_row (t := ⟨tail, head, le, mo, p5 * v⟩) (by omega)
  dsimp only at pt
  show Wp (b_Lput_tie ⟨[some (.d (.cell n)), some (.d (.cell m)), some (.d (.int c)), some (.d (.int k)), none, none, none, none, none, none, none, none], S⟩) _ _
  unfold b_Lput_tie
  clear put fin hv hmo ht hh hne et et2 eh eh2 ele emo ev hM hN hG a1 a2 a3 a4 a5 a6 a7 a8 a9 a10 a11 a12 a13 a14 a15 b1 b2 b3 b4 b5 b6 c1 c2 le0 le1 p30 p31 p40 p41 p50 p51 j0 j1 hL hL1 h2 hl k0 k1 hM0 ok
  simp only [↓Z.e_seq, ↓Z.e_asg, ↓Z.e_st_d, ↓Z.e_st_own, ↓Z.e_st_loc, ↓Z.e_next, ↓Z.e_break, ↓Z.e_cont, ↓Z.e_ifS, ↓Z.e_ret, ↓Z.e_retN, ↓Z.e_drop, ↓Z.e_never, ↓Z.e_c, ↓Z.e_var, ↓Z.e_z1, ↓Z.e_z2, ↓Z.e_via, ↓Z.e_a0, ↓Z.e_a, ↓Z.e_tup, ↓Z.e_lst, ↓Z.e_dnew, ↓Z.e_b, ↓Z.e_and, ↓Z.e_or, ↓Z.e_not, ↓Z.e_andV, ↓Z.e_orV, ↓Z.e_notV, ↓Z.e_if, ↓Z.e_call, ↓Z.e_meth, ↓Z.e_chain, ↓Z.e_no, ↓Z.e_pt, ↓Z.e_sl, Z.x_comp, Z.x_nx, Z.x_asg, Z.x_st, Z.x_if, Z.x_rt, Z.x_ret, Z.x_z2, Z.x_d, Z.x_via, Z.x_cons, Z.x_fix, Z.x_a, Z.x_tup, Z.x_lst, Z.x_ok, Z.x_not, Z.x_notV, Z.x_call, Z.x_self, Z.x_meth2, Z.x_meth1, Z.x_chain2, Z.x_chain1, Z.x_pt, Z.x_sl3, Z.x_sl2, Z.x_sl1, Z.bind_ok, Z.bind_bad, Z.bind_ite, Z.bind_bind, Z.seqK_nx, Z.seqK_rt, Z.seqK_bk, Z.seqK_ct, Z.told_d, Z.told_own, Z.told_loc, Z.toldK_own, Z.varK_own, Z.varK_d, Z.fix_d, Z.fix_own, Z.fix_loc, Z.fixK_own, Z.fixK_d, Z.celled_own, Z.celled_cell, Z.oB_bl, Z.chK_bl, Z.chainK_int, Z.contK_own, Z.cont_int, Z.cont_str, Z.cont_bl, Z.cont_non, Z.cont_lst, Z.cont_con, Z.cont_tup, Z.cont_dct, Z.cont_obj, Z.cont_cell, Z.cont_own, Z.cont_loc, Z.w_add, Z.addK_int, Z.addK_str, Z.addK_lst, Z.addK_tup, Z.w_sub, Z.w_mulG, Z.mulK_int, Z.mulK_lst, Z.w_mod, Z.w_div, Z.w_pow, Z.w_cmp, Z.w_neg, Z.w_min, Z.w_isi, Z.w_isN_n, Z.w_eq, Z.w_in, Z.w_ix, Z.w_len, Z.lenK_lst, Z.lenK_con, Z.lenK_dct, Z.w_fld, Z.isi_int, Z.isi_bl, Z.isi_str, Z.isi_non, Z.isi_lst, Z.isi_con, Z.isi_tup, Z.isi_dct, Z.isT, Z.w_isN_int, Z.w_isN_tup, Z.flv, ↓Z.e_lc, ↓Z.e_yes, ↓Z.e_itL, Z.x_itL_lst, Z.x_itL_con, ↓Z.e_itS, Z.x_itS, Z.wipe_mk, Z.zwipe_nil, Z.zwipe_cons, Z.w_dict, Z.dictK_dct, Z.w_list, Z.listK_lst, Z.listK_con, Z.listK_dct, Z.w_int_bl, Z.w_int_int, Z.w_sl, Z.slK_lst, Z.slK_con, ↓Z.e_rg1, Z.x_rg1, ↓Z.e_for, Z.x_turn, ↓Z.e_zip, Z.x_zip1, ↓Z.e_en, Z.x_en_lst, Z.w_unp, Z.unp2, Z.unp3, Z.unp4, Z.unp5, Z.setAll_cons, Z.setAll_nil, ↓Z.e_m1s, Z.x_m1s, Z.slK_str, Z.lenK_str, ↓Z.e_m2, Z.x_m2, Z.x_isL, Z.isLK_lst, Z.x_isD, Z.isDK_dct, Z.x_rv, Z.w_b2, Z.b2_append, Z.b2_extend, Z.w_b1, Z.b1_clear, Z.mod_cell, Z.mod_loc, Z.modK_own, ↓Z.e_sf, Z.x_sf1, Z.x_sf2, Z.x_sf3, ↓Z.e_mk, Z.x_mk, Z.x_sto, ↓Z.e_dp, Z.x_dp1, Z.x_dp2, Z.x_dp3, Z.x_dp4, Z.eqK_int, Z.eqK_str, Z.w_ne, Z.neK_nil, Z.neK_dct, Z.eqK_nil, Z.frz_new, Z.Sto.put_same, Z.put_put, Z.new_put, Z.new_get, Z.sfn0, Z.sfn1, Z.sfn2, Z.sfn3, Z.sfn4, Z.sfn5, Z.sfn6, Z.sfn7, Z.sfn8, decide_false, decide_true, Z.Wp_bad, Z.Wp_ok, Z.Wp_ite, List.set_cons_zero, List.set_cons_succ, List.getElem?_cons_zero, List.getElem?_cons_succ, List.cons_append, List.nil_append, List.append_nil, List.isEmpty_nil, List.isEmpty_cons, if_true, if_false, Bool.false_eq_true, true_implies, false_implies, implies_true, reduceCtorEq, Bool.not_true, Bool.not_false, eq_self, and_self, and_true, true_and, mx_names, mx_ties, mx_given, mp_given, List.length_map, cp60, pow60, Z.methK_obj T.mN_put_tie, *]
  rfl
end
end T

namespace T
open PySem PySem.Spec PyProof.Rows L2 M Z A
open Classical
section
variable {s : SD} {S : Sto} {sl : List (Option Vl)} {x y z : D} {n l d m ml md : Nat} {N : ND} {g i c k : Int} {t : TD} {a b : D} {q : Int × TD}
theorem NetAt.put {j : Nat} (h : NetAt S n l d N) (h1 : n ≠ j) (h2 : l ≠ j) (h3 : d ≠ j) : NetAt (S.put j x) n l d N := ⟨(Sto.put_ne h1).trans h.n, (Sto.put_ne h2).trans h.l, (Sto.put_ne h3).trans h.d⟩
theorem num_at {ts : List (Int × TD)} {j : Int} (h : ts ≠ []) : ∃ q, q ∈ ts ∧ dIx (.lst ((ts.map (·.1)).map .int)) (.int (j % (ts.length : Int))) = some (.int q.1) := by
  have h0 : 0 < ts.length := List.length_pos_iff.mpr h
  have e0 := Int.emod_nonneg j (show (ts.length : Int) ≠ 0 by omega)
  have e1 := Int.emod_lt_of_pos j (show 0 < (ts.length : Int) by omega)
  have h2 : (j % (ts.length : Int)).toNat < ts.length := by omega
  refine ⟨ts[(j % (ts.length : Int)).toNat], List.getElem_mem h2, ?_⟩
  show atI _ _ = _
  rw [atI_in (D.int 0) e0 (by rw [List.length_map, List.length_map]; exact e1), List.getD_eq_getElem?_getD, List.getElem?_map, List.getElem?_map, List.getElem?_eq_getElem h2]
  rfl
theorem row_at {f : Int × TD → D} {ts : List (Int × TD)} (hr : Rise ts) (hq : q ∈ ts) : dval (rowsG f ts) (.inl q.1) = some (f q) := by
  rw [dval_rows, tieOf_mem hr hq]
  rfl
theorem rise_drop {ts : List (Int × TD)} (hr : Rise ts) : Rise (dropT ts i) := by
  unfold Rise dropT at *
  exact hr.sublist (List.Sublist.map _ List.filter_sublist)
theorem putT_in {ts : List (Int × TD)} (hq : q ∈ ts) : putT ts q.1 t = ts.map fun p => if p.1 = q.1 then (q.1, t) else p := by
  unfold putT
  rw [if_pos]
  exact List.any_eq_true.mpr ⟨q, hq, decide_eq_true rfl⟩
theorem putT_keys {ts : List (Int × TD)} (hq : q ∈ ts) : (putT ts q.1 t).map (·.1) = ts.map (·.1) := by
  rw [putT_in hq, List.map_map]
  refine List.map_congr_left fun p _ => ?_
  show (if p.1 = q.1 then (q.1, t) else p).1 = p.1
  split
  · rename_i e; exact e.symm
  · rfl
theorem Good.set (h : Good N) (hq : q ∈ N.ties) (ok : TieOk t) (t1 : t.tail = q.2.tail) (t2 : t.head = q.2.head) : Good ⟨N.names, putT N.ties q.1 t, N.given⟩ := by
  refine ⟨h.nd, h.nm, h.nl, ?_, ?_, fun p hp => ?_, fun p hp => ?_⟩
  · show Rise (putT _ _ _)
    unfold Rise
    rw [putT_keys hq]
    exact h.rise
  · show (putT _ _ _).length ≤ 40
    rw [putT_in hq, List.length_map]
    exact h.tl
  · have hp : p ∈ putT N.ties q.1 t := hp
    rw [putT_in hq] at hp
    obtain ⟨p0, h0, rfl⟩ := List.mem_map.mp hp
    split
    · exact ⟨(h.ts q hq).1, ok⟩
    · exact h.ts p0 h0
  · have hp : p ∈ putT N.ties q.1 t := hp
    rw [putT_in hq] at hp
    obtain ⟨p0, h0, rfl⟩ := List.mem_map.mp hp
    split
    · show NmOk t.tail ∧ NmOk t.head
      rw [t1, t2]; exact h.tn q hq
    · exact h.tn p0 h0
theorem Good.drop (h : Good N) : Good ⟨N.names, dropT N.ties i, N.given⟩ :=
  ⟨h.nd, h.nm, h.nl, rise_drop h.rise, Nat.le_trans (List.length_filter_le _ _) h.tl, fun p hp => h.ts p (List.mem_filter.mp (show p ∈ List.filter _ _ from hp)).1, fun p hp => h.tn p (List.mem_filter.mp (show p ∈ List.filter _ _ from hp)).1⟩
def chS (S S1 : Sto) (d md : Nat) (ts : List (Int × TD)) : Sto := S1.put d (.dct (rowsG tieD ts))
theorem ch_did {S1 : Sto} {ts : List (Int × TD)} (h6 : Six S n l d m ml md) (hN : NetAt S n l d N) (hM : ModAt S m ml md N) (h1 : S1 = S.put md (.dct (rowsG row5 ts)) ∨ S1 = (S.put md (.dct (rowsG row5 ts))).tick) (hG : Good ⟨N.names, ts, N.given⟩) :
    Did S (S1.put d (.dct (rowsG tieD ts))) n l d m ml md ⟨N.names, ts, N.given⟩ := by
  obtain ⟨b1, b2, b3, b4, b5, b6, ⟨a1, a2, a3⟩, ⟨a4, a5, a6⟩, ⟨a7, a8, a9⟩, ⟨a10, a11, a12⟩, ⟨a13, a14, a15⟩⟩ := h6
  have gt : ∀ i, i < S.nx → S1.get i = (S.put md (.dct (rowsG row5 ts))).get i := fun i hi => by
    rcases h1 with rfl | rfl
    · rfl
    · exact tick_ne (by rw [put_nx]; omega)
  refine ⟨?_, fun i hi c1 c2 c3 c4 c5 c6 => ?_, ⟨?_, ?_, ?_⟩, ⟨?_, ?_, ?_⟩, hG⟩
  · rcases h1 with rfl | rfl
    · exact Nat.le_refl _
    · exact Nat.le_succ _
  · rw [Sto.put_ne c3, gt i hi, Sto.put_ne c6]
  · rw [Sto.put_ne a14, gt n b1, Sto.put_ne a3]; exact hN.n
  · rw [Sto.put_ne a15, gt l b2, Sto.put_ne a6]; exact hN.l
  · exact Sto.put_same
  · rw [Sto.put_ne (Ne.symm a7), gt m b4, Sto.put_ne a11]; exact hM.m
  · rw [Sto.put_ne (Ne.symm a8), gt ml b5, Sto.put_ne a12]; exact hM.l
  · rw [Sto.put_ne (Ne.symm a9), gt md b6, Sto.put_same]
theorem mN_drop_tie : fval (netF l d g) "drop_tie" = none := rfl
theorem mN_set_room : fval (netF l d g) "set_room" = none := rfl
theorem mN_set_price : fval (netF l d g) "set_price" = none := rfl
theorem pickL {le a : Int} (l1 : le ≤ M60) (a0 : 0 ≤ a) (j : Int) : ∃ mo : Option Int, rmOk le (mostD mo) = true ∧ dIx (.lst [.non, .int le, .int (if le + a < M60 then le + a else M60)]) (.int (j % 3)) = some (mostD mo) := by
  rcases (show j % 3 = 0 ∨ j % 3 = 1 ∨ j % 3 = 2 by omega) with e | e | e <;> rw [e]
  · exact ⟨none, rfl, rfl⟩
  · exact ⟨some le, by simp [rmOk, mostD, l1], rfl⟩
  · refine ⟨some (if le + a < M60 then le + a else M60), ?_, rfl⟩
    simp only [rmOk, mostD, Bool.and_eq_true, decide_eq_true_eq]
    split <;> omega
theorem isn_non {s : SD} : oIsN false (.d .non) (.d .non) s = .ok (.d (.bl true)) s := rfl
theorem g_Lchanged {w : Int} (h6 : Six S n l d m ml md) (hN : NetAt S n l d N) (hM : ModAt S m ml md N) (hG : Good N) (h0 : N.ties ≠ []) (k0 : 0 ≤ k) (k1 : k ≤ 1000) :
    ∃ S' N', Did S S' n l d m ml md N' ∧ ∀ sl, goF v_Lchanged [.cell n, .cell m, .int c, .int k, .int w] ⟨sl, S⟩ = .ok (.d (.bl true)) ⟨sl, S'⟩ := by
  have hM0 := hM60
  obtain ⟨j, j0, j1, e1⟩ := g_draw c k 6 k0 k1 (by decide) (by decide)
  obtain ⟨p7, p70, p71, e7⟩ := g_amount c k 7 k0 k1 (by decide) (by decide)
  obtain ⟨p8, p80, p81, e8⟩ := g_amount c k 8 k0 k1 (by decide) (by decide)
  obtain ⟨p9, p90, p91, e9⟩ := g_amount c k 9 k0 k1 (by decide) (by decide)
  obtain ⟨q, hq, eq⟩ := num_at (j := j) h0
  have hl : 0 < N.ties.length := List.length_pos_iff.mpr h0
  have q1 := hM.m
  have q3 := hM.d
  have q4 := hN.n
  have s0 := fun s h => w_sorted (s := s) (a := .d (.cell md)) (ks := rowsG row5 N.ties) h (ikeys_rows N.ties) (by rw [List.length_map]; exact Nat.lt_of_le_of_lt hG.tl (by decide))
  rw [srt_rise hG.rise] at s0
  have s1 : ∀ sl, oSorted (.d (.cell md)) ⟨sl, S⟩ = .ok (.own (.lst ((N.ties.map (·.1)).map D.int))) ⟨sl, S⟩ := fun sl => s0 ⟨sl, S⟩ q3
  have r1 := fun s : SD => ixK_ok (s := s) eq
  have ln : ((rowsG row5 N.ties).length : Int) = N.ties.length := by unfold rowsG; rw [List.length_map]
  have rw5 := row_at (f := row5) hG.rise hq
  have r2 : ∀ s : SD, ixK s (some (.dct (rowsG row5 N.ties))) (some (.int q.1)) = .ok (.d (.tup [.str q.2.tail, .str q.2.head, .int q.2.least, mostD q.2.most, .int q.2.price])) s := fun s => ixK_ok rw5
  have okq := (hG.ts q hq).2
  have ht := tieOf_mem hG.rise hq
  have z1 : (0 < (N.ties.length : Int)) = True := eq_true (by omega)
  have z3 : ∀ i : Int, CDivW i 40 = True := fun i => eq_true (M.CDivW_small (by decide) (by decide))
  have z4 : ∀ i : Int, CDivW i 120 = True := fun i => eq_true (M.CDivW_small (by decide) (by decide))
  have z8 : ((0 : Int) < 3) = True := by simp
  have z9 : ((0 : Int) < 2) = True := by simp
  have s6 := h6
  obtain ⟨b1, b2, b3, b4, b5, b6, ⟨a1, a2, a3⟩, ⟨a4, a5, a6⟩, ⟨a7, a8, a9⟩, ⟨a10, a11, a12⟩, ⟨a13, a14, a15⟩⟩ := h6
  have f1 : ∀ x, (S.put md x).get n = some (.obj "Net" (netF l d N.given)) := fun x => (Sto.put_ne a3).trans q4
  have f2 : ∀ x, (S.put md x).get m = some (.dct (modF ml md N.given)) := fun x => (Sto.put_ne a11).trans q1
  by_cases c1 : w = 0
  · refine ⟨_, _, ch_did s6 hN hM (.inl rfl) (hG.drop (i := q.1)), fun sl => go_e ?_⟩
    have pt := fun sl x => g_drop_tie (sl := sl) (i := q.1) (hN.put (j := md) (x := x) a3 a6 a9) ht
    have d1 := decide_eq_true c1
    have dp := fun s a => b2_dpop (s := s) (a := a) (z := .int q.1) (k := .inl q.1) rfl rw5
    simp only [ddrop_rows] at dp
    show Wp (b_Lchanged ⟨[some (.d (.cell n)), some (.d (.cell m)), some (.d (.int c)), some (.d (.int k)), some (.d (.int w)), none, none, none, none, none, none, none], S⟩) _ _
    unfold b_Lchanged
    clear s0 eq rw5 okq ht a1 a2 a3 a4 a5 a6 a7 a8 a9 a10 a11 a12 a13 a14 a15 b1 b2 b3 b4 b5 b6 c1 p70 p71 p80 p81 p90 p91 j0 j1 hM0 hl h0 hN hM hG hq s6 k0 k1
    simp only [↓Z.e_seq, ↓Z.e_asg, ↓Z.e_st_d, ↓Z.e_st_own, ↓Z.e_st_loc, ↓Z.e_next, ↓Z.e_break, ↓Z.e_cont, ↓Z.e_ifS, ↓Z.e_ret, ↓Z.e_retN, ↓Z.e_drop, ↓Z.e_never, ↓Z.e_c, ↓Z.e_var, ↓Z.e_z1, ↓Z.e_z2, ↓Z.e_via, ↓Z.e_a0, ↓Z.e_a, ↓Z.e_tup, ↓Z.e_lst, ↓Z.e_dnew, ↓Z.e_b, ↓Z.e_and, ↓Z.e_or, ↓Z.e_not, ↓Z.e_andV, ↓Z.e_orV, ↓Z.e_notV, ↓Z.e_if, ↓Z.e_call, ↓Z.e_meth, ↓Z.e_chain, ↓Z.e_no, ↓Z.e_pt, ↓Z.e_sl, Z.x_comp, Z.x_nx, Z.x_asg, Z.x_st, Z.x_if, Z.x_rt, Z.x_ret, Z.x_z2, Z.x_d, Z.x_via, Z.x_cons, Z.x_fix, Z.x_a, Z.x_tup, Z.x_lst, Z.x_ok, Z.x_not, Z.x_notV, Z.x_call, Z.x_self, Z.x_meth2, Z.x_meth1, Z.x_chain2, Z.x_chain1, Z.x_pt, Z.x_sl3, Z.x_sl2, Z.x_sl1, Z.bind_ok, Z.bind_bad, Z.bind_ite, Z.bind_bind, Z.seqK_nx, Z.seqK_rt, Z.seqK_bk, Z.seqK_ct, Z.told_d, Z.told_own, Z.told_loc, Z.toldK_own, Z.varK_own, Z.varK_d, Z.fix_d, Z.fix_own, Z.fix_loc, Z.fixK_own, Z.fixK_d, Z.celled_own, Z.celled_cell, Z.oB_bl, Z.chK_bl, Z.chainK_int, Z.contK_own, Z.cont_int, Z.cont_str, Z.cont_bl, Z.cont_non, Z.cont_lst, Z.cont_con, Z.cont_tup, Z.cont_dct, Z.cont_obj, Z.cont_cell, Z.cont_own, Z.cont_loc, Z.w_add, Z.addK_int, Z.addK_str, Z.addK_lst, Z.addK_tup, Z.w_sub, Z.w_mulG, Z.mulK_int, Z.mulK_lst, Z.w_mod, Z.w_div, Z.w_pow, Z.w_cmp, Z.w_neg, Z.w_min, Z.w_isi, Z.w_isN_n, Z.w_eq, Z.w_in, Z.w_ix, Z.w_len, Z.lenK_lst, Z.lenK_con, Z.lenK_dct, Z.w_fld, Z.isi_int, Z.isi_bl, Z.isi_str, Z.isi_non, Z.isi_lst, Z.isi_con, Z.isi_tup, Z.isi_dct, Z.isT, Z.w_isN_int, Z.w_isN_tup, Z.flv, ↓Z.e_lc, ↓Z.e_yes, ↓Z.e_itL, Z.x_itL_lst, Z.x_itL_con, ↓Z.e_itS, Z.x_itS, Z.wipe_mk, Z.zwipe_nil, Z.zwipe_cons, Z.w_dict, Z.dictK_dct, Z.w_list, Z.listK_lst, Z.listK_con, Z.listK_dct, Z.w_int_bl, Z.w_int_int, Z.w_sl, Z.slK_lst, Z.slK_con, ↓Z.e_rg1, Z.x_rg1, ↓Z.e_for, Z.x_turn, ↓Z.e_zip, Z.x_zip1, ↓Z.e_en, Z.x_en_lst, Z.w_unp, Z.unp2, Z.unp3, Z.unp4, Z.unp5, Z.setAll_cons, Z.setAll_nil, ↓Z.e_m1s, Z.x_m1s, Z.slK_str, Z.lenK_str, ↓Z.e_m2, Z.x_m2, Z.x_isL, Z.isLK_lst, Z.x_isD, Z.isDK_dct, Z.x_rv, Z.w_b2, Z.b2_append, Z.b2_extend, Z.w_b1, Z.b1_clear, Z.mod_cell, Z.mod_loc, Z.modK_own, ↓Z.e_sf, Z.x_sf1, Z.x_sf2, Z.x_sf3, ↓Z.e_mk, Z.x_mk, Z.x_sto, ↓Z.e_dp, Z.x_dp1, Z.x_dp2, Z.x_dp3, Z.x_dp4, Z.eqK_int, Z.eqK_str, Z.w_ne, Z.neK_nil, Z.neK_dct, Z.eqK_nil, Z.frz_new, Z.Sto.put_same, Z.put_put, Z.new_put, Z.new_get, Z.sfn0, Z.sfn1, Z.sfn2, Z.sfn3, Z.sfn4, Z.sfn5, Z.sfn6, Z.sfn7, Z.sfn8, decide_false, decide_true, Z.Wp_bad, Z.Wp_ok, Z.Wp_ite, List.set_cons_zero, List.set_cons_succ, List.getElem?_cons_zero, List.getElem?_cons_succ, List.cons_append, List.nil_append, List.append_nil, List.isEmpty_nil, List.isEmpty_cons, if_true, if_false, Bool.false_eq_true, true_implies, false_implies, implies_true, reduceCtorEq, Bool.not_true, Bool.not_false, eq_self, and_self, and_true, true_and, mx_names, mx_ties, mx_given, mp_given, ln, isn_non, Z.methK_obj T.mN_drop_tie, *]
  have d1 := decide_eq_false c1
  by_cases c2 : w = 1
  · obtain ⟨mo, hmo, emo⟩ := pickL p71 p80 (j / 40)
    have ok : TieOk { q.2 with least := p7, most := mo } := ⟨p70, p71, hmo, okq.p0, okq.p1⟩
    refine ⟨_, _, ch_did s6 hN hM (.inr rfl) (hG.set hq ok rfl rfl), fun sl => go_e ?_⟩
    have pt := fun sl x => g_set_room (sl := sl) (i := q.1) (hN.put (j := md) (x := x) a3 a6 a9) b1 b3 ht ok hG.tl
    have d2 := decide_eq_true c2
    have r3 := fun s : SD => ixK_ok (s := s) emo
    have sp : ∀ s a, stK' (fDput (.tup [.str q.2.tail, .str q.2.head, .int p7, mostD mo, .int q.2.price])) a (.int q.1) s (some (.dct (rowsG row5 N.ties))) = s.mod (.dct (rowsG row5 (putT N.ties q.1 { q.2 with least := p7, most := mo }))) a := fun s a => sp_row (t := { q.2 with least := p7, most := mo }) hG.tl
    show Wp (b_Lchanged ⟨[some (.d (.cell n)), some (.d (.cell m)), some (.d (.int c)), some (.d (.int k)), some (.d (.int w)), none, none, none, none, none, none, none], S⟩) _ _
    unfold b_Lchanged
    clear s0 eq rw5 okq ht a1 a2 a3 a4 a5 a6 a7 a8 a9 a10 a11 a12 a13 a14 a15 b1 b2 b3 b4 b5 b6 c1 c2 p70 p71 p80 p81 p90 p91 j0 j1 hM0 hl h0 hN hM hG hq s6 k0 k1 hmo emo ok
    simp only [↓Z.e_seq, ↓Z.e_asg, ↓Z.e_st_d, ↓Z.e_st_own, ↓Z.e_st_loc, ↓Z.e_next, ↓Z.e_break, ↓Z.e_cont, ↓Z.e_ifS, ↓Z.e_ret, ↓Z.e_retN, ↓Z.e_drop, ↓Z.e_never, ↓Z.e_c, ↓Z.e_var, ↓Z.e_z1, ↓Z.e_z2, ↓Z.e_via, ↓Z.e_a0, ↓Z.e_a, ↓Z.e_tup, ↓Z.e_lst, ↓Z.e_dnew, ↓Z.e_b, ↓Z.e_and, ↓Z.e_or, ↓Z.e_not, ↓Z.e_andV, ↓Z.e_orV, ↓Z.e_notV, ↓Z.e_if, ↓Z.e_call, ↓Z.e_meth, ↓Z.e_chain, ↓Z.e_no, ↓Z.e_pt, ↓Z.e_sl, Z.x_comp, Z.x_nx, Z.x_asg, Z.x_st, Z.x_if, Z.x_rt, Z.x_ret, Z.x_z2, Z.x_d, Z.x_via, Z.x_cons, Z.x_fix, Z.x_a, Z.x_tup, Z.x_lst, Z.x_ok, Z.x_not, Z.x_notV, Z.x_call, Z.x_self, Z.x_meth2, Z.x_meth1, Z.x_chain2, Z.x_chain1, Z.x_pt, Z.x_sl3, Z.x_sl2, Z.x_sl1, Z.bind_ok, Z.bind_bad, Z.bind_ite, Z.bind_bind, Z.seqK_nx, Z.seqK_rt, Z.seqK_bk, Z.seqK_ct, Z.told_d, Z.told_own, Z.told_loc, Z.toldK_own, Z.varK_own, Z.varK_d, Z.fix_d, Z.fix_own, Z.fix_loc, Z.fixK_own, Z.fixK_d, Z.celled_own, Z.celled_cell, Z.oB_bl, Z.chK_bl, Z.chainK_int, Z.contK_own, Z.cont_int, Z.cont_str, Z.cont_bl, Z.cont_non, Z.cont_lst, Z.cont_con, Z.cont_tup, Z.cont_dct, Z.cont_obj, Z.cont_cell, Z.cont_own, Z.cont_loc, Z.w_add, Z.addK_int, Z.addK_str, Z.addK_lst, Z.addK_tup, Z.w_sub, Z.w_mulG, Z.mulK_int, Z.mulK_lst, Z.w_mod, Z.w_div, Z.w_pow, Z.w_cmp, Z.w_neg, Z.w_min, Z.w_isi, Z.w_isN_n, Z.w_eq, Z.w_in, Z.w_ix, Z.w_len, Z.lenK_lst, Z.lenK_con, Z.lenK_dct, Z.w_fld, Z.isi_int, Z.isi_bl, Z.isi_str, Z.isi_non, Z.isi_lst, Z.isi_con, Z.isi_tup, Z.isi_dct, Z.isT, Z.w_isN_int, Z.w_isN_tup, Z.flv, ↓Z.e_lc, ↓Z.e_yes, ↓Z.e_itL, Z.x_itL_lst, Z.x_itL_con, ↓Z.e_itS, Z.x_itS, Z.wipe_mk, Z.zwipe_nil, Z.zwipe_cons, Z.w_dict, Z.dictK_dct, Z.w_list, Z.listK_lst, Z.listK_con, Z.listK_dct, Z.w_int_bl, Z.w_int_int, Z.w_sl, Z.slK_lst, Z.slK_con, ↓Z.e_rg1, Z.x_rg1, ↓Z.e_for, Z.x_turn, ↓Z.e_zip, Z.x_zip1, ↓Z.e_en, Z.x_en_lst, Z.w_unp, Z.unp2, Z.unp3, Z.unp4, Z.unp5, Z.setAll_cons, Z.setAll_nil, ↓Z.e_m1s, Z.x_m1s, Z.slK_str, Z.lenK_str, ↓Z.e_m2, Z.x_m2, Z.x_isL, Z.isLK_lst, Z.x_isD, Z.isDK_dct, Z.x_rv, Z.w_b2, Z.b2_append, Z.b2_extend, Z.w_b1, Z.b1_clear, Z.mod_cell, Z.mod_loc, Z.modK_own, ↓Z.e_sf, Z.x_sf1, Z.x_sf2, Z.x_sf3, ↓Z.e_mk, Z.x_mk, Z.x_sto, ↓Z.e_dp, Z.x_dp1, Z.x_dp2, Z.x_dp3, Z.x_dp4, Z.eqK_int, Z.eqK_str, Z.w_ne, Z.neK_nil, Z.neK_dct, Z.eqK_nil, Z.frz_new, Z.Sto.put_same, Z.put_put, Z.new_put, Z.new_get, Z.sfn0, Z.sfn1, Z.sfn2, Z.sfn3, Z.sfn4, Z.sfn5, Z.sfn6, Z.sfn7, Z.sfn8, decide_false, decide_true, Z.Wp_bad, Z.Wp_ok, Z.Wp_ite, List.set_cons_zero, List.set_cons_succ, List.getElem?_cons_zero, List.getElem?_cons_succ, List.cons_append, List.nil_append, List.append_nil, List.isEmpty_nil, List.isEmpty_cons, if_true, if_false, Bool.false_eq_true, true_implies, false_implies, implies_true, reduceCtorEq, Bool.not_true, Bool.not_false, eq_self, and_self, and_true, true_and, mx_names, mx_ties, mx_given, mp_given, ln, isn_non, cp60, pow60, Z.methK_obj T.mN_set_room, *]
  have d2 := decide_eq_false c2
  obtain ⟨v, hv, ev⟩ := pickS p90 p91 (j / 120)
  have z11 : CMulX p9 v = True := eq_true (by rcases hv with rfl | rfl <;> exact M.CMulX_small (by omega) (by omega) (by omega) (by omega))
  have o1 : -M60 ≤ p9 * v := by rcases hv with rfl | rfl <;> omega
  have o2 : p9 * v ≤ M60 := by rcases hv with rfl | rfl <;> omega
  have ok : TieOk { q.2 with price := p9 * v } := ⟨okq.l0, okq.l1, okq.m, o1, o2⟩
  refine ⟨_, _, ch_did s6 hN hM (.inr rfl) (hG.set hq ok rfl rfl), fun sl => go_e ?_⟩
  have pt := fun sl x => g_set_price (sl := sl) (i := q.1) (hN.put (j := md) (x := x) a3 a6 a9) b1 b3 ht o1 o2 hG.tl
  have r3 := fun s : SD => ixK_ok (s := s) ev
  have sp : ∀ s a, stK' (fDput (.tup [.str q.2.tail, .str q.2.head, .int q.2.least, mostD q.2.most, .int (p9 * v)])) a (.int q.1) s (some (.dct (rowsG row5 N.ties))) = s.mod (.dct (rowsG row5 (putT N.ties q.1 { q.2 with price := p9 * v }))) a := fun s a => sp_row (t := { q.2 with price := p9 * v }) hG.tl
  show Wp (b_Lchanged ⟨[some (.d (.cell n)), some (.d (.cell m)), some (.d (.int c)), some (.d (.int k)), some (.d (.int w)), none, none, none, none, none, none, none], S⟩) _ _
  unfold b_Lchanged
  clear s0 eq rw5 okq ht a1 a2 a3 a4 a5 a6 a7 a8 a9 a10 a11 a12 a13 a14 a15 b1 b2 b3 b4 b5 b6 c1 c2 p70 p71 p80 p81 p90 p91 j0 j1 hM0 hl h0 hN hM hG hq s6 k0 k1 hv ev ok o1 o2
  simp only [↓Z.e_seq, ↓Z.e_asg, ↓Z.e_st_d, ↓Z.e_st_own, ↓Z.e_st_loc, ↓Z.e_next, ↓Z.e_break, ↓Z.e_cont, ↓Z.e_ifS, ↓Z.e_ret, ↓Z.e_retN, ↓Z.e_drop, ↓Z.e_never, ↓Z.e_c, ↓Z.e_var, ↓Z.e_z1, ↓Z.e_z2, ↓Z.e_via, ↓Z.e_a0, ↓Z.e_a, ↓Z.e_tup, ↓Z.e_lst, ↓Z.e_dnew, ↓Z.e_b, ↓Z.e_and, ↓Z.e_or, ↓Z.e_not, ↓Z.e_andV, ↓Z.e_orV, ↓Z.e_notV, ↓Z.e_if, ↓Z.e_call, ↓Z.e_meth, ↓Z.e_chain, ↓Z.e_no, ↓Z.e_pt, ↓Z.e_sl, Z.x_comp, Z.x_nx, Z.x_asg, Z.x_st, Z.x_if, Z.x_rt, Z.x_ret, Z.x_z2, Z.x_d, Z.x_via, Z.x_cons, Z.x_fix, Z.x_a, Z.x_tup, Z.x_lst, Z.x_ok, Z.x_not, Z.x_notV, Z.x_call, Z.x_self, Z.x_meth2, Z.x_meth1, Z.x_chain2, Z.x_chain1, Z.x_pt, Z.x_sl3, Z.x_sl2, Z.x_sl1, Z.bind_ok, Z.bind_bad, Z.bind_ite, Z.bind_bind, Z.seqK_nx, Z.seqK_rt, Z.seqK_bk, Z.seqK_ct, Z.told_d, Z.told_own, Z.told_loc, Z.toldK_own, Z.varK_own, Z.varK_d, Z.fix_d, Z.fix_own, Z.fix_loc, Z.fixK_own, Z.fixK_d, Z.celled_own, Z.celled_cell, Z.oB_bl, Z.chK_bl, Z.chainK_int, Z.contK_own, Z.cont_int, Z.cont_str, Z.cont_bl, Z.cont_non, Z.cont_lst, Z.cont_con, Z.cont_tup, Z.cont_dct, Z.cont_obj, Z.cont_cell, Z.cont_own, Z.cont_loc, Z.w_add, Z.addK_int, Z.addK_str, Z.addK_lst, Z.addK_tup, Z.w_sub, Z.w_mulG, Z.mulK_int, Z.mulK_lst, Z.w_mod, Z.w_div, Z.w_pow, Z.w_cmp, Z.w_neg, Z.w_min, Z.w_isi, Z.w_isN_n, Z.w_eq, Z.w_in, Z.w_ix, Z.w_len, Z.lenK_lst, Z.lenK_con, Z.lenK_dct, Z.w_fld, Z.isi_int, Z.isi_bl, Z.isi_str, Z.isi_non, Z.isi_lst, Z.isi_con, Z.isi_tup, Z.isi_dct, Z.isT, Z.w_isN_int, Z.w_isN_tup, Z.flv, ↓Z.e_lc, ↓Z.e_yes, ↓Z.e_itL, Z.x_itL_lst, Z.x_itL_con, ↓Z.e_itS, Z.x_itS, Z.wipe_mk, Z.zwipe_nil, Z.zwipe_cons, Z.w_dict, Z.dictK_dct, Z.w_list, Z.listK_lst, Z.listK_con, Z.listK_dct, Z.w_int_bl, Z.w_int_int, Z.w_sl, Z.slK_lst, Z.slK_con, ↓Z.e_rg1, Z.x_rg1, ↓Z.e_for, Z.x_turn, ↓Z.e_zip, Z.x_zip1, ↓Z.e_en, Z.x_en_lst, Z.w_unp, Z.unp2, Z.unp3, Z.unp4, Z.unp5, Z.setAll_cons, Z.setAll_nil, ↓Z.e_m1s, Z.x_m1s, Z.slK_str, Z.lenK_str, ↓Z.e_m2, Z.x_m2, Z.x_isL, Z.isLK_lst, Z.x_isD, Z.isDK_dct, Z.x_rv, Z.w_b2, Z.b2_append, Z.b2_extend, Z.w_b1, Z.b1_clear, Z.mod_cell, Z.mod_loc, Z.modK_own, ↓Z.e_sf, Z.x_sf1, Z.x_sf2, Z.x_sf3, ↓Z.e_mk, Z.x_mk, Z.x_sto, ↓Z.e_dp, Z.x_dp1, Z.x_dp2, Z.x_dp3, Z.x_dp4, Z.eqK_int, Z.eqK_str, Z.w_ne, Z.neK_nil, Z.neK_dct, Z.eqK_nil, Z.frz_new, Z.Sto.put_same, Z.put_put, Z.new_put, Z.new_get, Z.sfn0, Z.sfn1, Z.sfn2, Z.sfn3, Z.sfn4, Z.sfn5, Z.sfn6, Z.sfn7, Z.sfn8, decide_false, decide_true, Z.Wp_bad, Z.Wp_ok, Z.Wp_ite, List.set_cons_zero, List.set_cons_succ, List.getElem?_cons_zero, List.getElem?_cons_succ, List.cons_append, List.nil_append, List.append_nil, List.isEmpty_nil, List.isEmpty_cons, if_true, if_false, Bool.false_eq_true, true_implies, false_implies, implies_true, reduceCtorEq, Bool.not_true, Bool.not_false, eq_self, and_self, and_true, true_and, mx_names, mx_ties, mx_given, mp_given, ln, isn_non, Z.methK_obj T.mN_set_price, *]
/-! reading the model -/
theorem row6_eq (q : Int × TD) : row6 q = .tup ([.int q.1] ++ [.str q.2.tail, .str q.2.head, .int q.2.least, mostD q.2.most, .int q.2.price]) := rfl
/-- the model, as it is, or as a copy that nobody changes -/
structure MdlAt (S : Sto) (x : D) (N : ND) : Prop where
  names : ∃ a, (∀ s : SD, s.st = S → ixK s (s.cont (.d x)) (some (.str "names")) = .ok (.d a) s) ∧ (∀ s : SD, s.st = S → s.cont (.d a) = some (.lst (N.names.map .str)))
  ties : ∃ a, (∀ s : SD, s.st = S → ixK s (s.cont (.d x)) (some (.str "ties")) = .ok (.d a) s) ∧ (∀ s : SD, s.st = S → s.cont (.d a) = some (.dct (rowsG row5 N.ties)))
  given : ∀ s : SD, s.st = S → ixK s (s.cont (.d x)) (some (.str "given")) = .ok (.d (.int N.given)) s
theorem ModAt.mdl (h : ModAt S m ml md N) : MdlAt S (.cell m) N := by
  refine ⟨⟨.cell ml, fun s e => ?_, fun s e => ?_⟩, ⟨.cell md, fun s e => ?_, fun s e => ?_⟩, fun s e => ?_⟩
  · rw [cont_cell, e, h.m]; rfl
  · rw [cont_cell, e, h.l]
  · rw [cont_cell, e, h.m]; rfl
  · rw [cont_cell, e, h.d]
  · rw [cont_cell, e, h.m]; rfl
def frzM (N : ND) : D := .dct [(.inr "names", .lst (N.names.map .str)), (.inr "ties", .dct (rowsG row5 N.ties)), (.inr "given", .int N.given)]
theorem frzM_mdl : MdlAt S (frzM N) N := ⟨⟨_, fun _ _ => rfl, fun _ _ => rfl⟩, ⟨_, fun _ _ => rfl, fun _ _ => rfl⟩, fun _ _ => rfl⟩
theorem g_Lrows (h : MdlAt S x N) (hr : Rise N.ties) (hl : N.ties.length ≤ 40) : goF v_Lrows [x] ⟨sl, S⟩ = .ok (.own (.lst (N.ties.map row6))) ⟨sl, S⟩ := by
  obtain ⟨a, h1, h2⟩ := h.ties
  have s0 := fun s h => w_sorted (s := s) (a := .d a) (ks := rowsG row5 N.ties) h (ikeys_rows N.ties) (by rw [List.length_map]; exact Nat.lt_of_le_of_lt hl (by decide))
  rw [srt_rise hr] at s0
  have s1 : ∀ sl, oSorted (.d a) ⟨sl, S⟩ = .ok (.own (.lst ((N.ties.map (·.1)).map D.int))) ⟨sl, S⟩ := fun sl => s0 ⟨sl, S⟩ (h2 _ rfl)
  have h1' : ∀ sl, ixK ⟨sl, S⟩ (SD.cont ⟨sl, S⟩ (.d x)) (some (.str "ties")) = .ok (.d a) ⟨sl, S⟩ := fun sl => h1 _ rfl
  have h2' : ∀ sl, SD.cont ⟨sl, S⟩ (.d a) = some (.dct (rowsG row5 N.ties)) := fun sl => h2 _ rfl
  refine go_e ?_
  show Wp (b_Lrows ⟨[some (.d x), none], S⟩) _ _
  unfold b_Lrows
  clear s0 h1 h2 h
  walk_at "zs"
  rw [lc_map (fun x => match x with | .int i => (match tieOf N.ties i with | some t => row6 (i, t) | none => .non) | _ => .non) rfl Nl.d1 trivial (fun x hx => ?_) (by show (List.map D.int _).length ≤ _; rw [List.length_map, List.length_map]; exact Nat.le_trans hl (by decide))]
  · walk_at "zs"
    rw [List.map_map, List.map_map]
    show some (Vl.own (.lst _)) = _
    congr 3
    refine List.map_congr_left fun q hq => ?_
    show (match tieOf N.ties q.1 with | some t => row6 (q.1, t) | none => .non) = row6 q
    rw [tieOf_mem hr hq]
  · obtain ⟨i, hi, rfl⟩ := List.mem_map.mp hx
    obtain ⟨q, hq, rfl⟩ := List.mem_map.mp hi
    have e := row_at (f := row5) hr hq
    have r2 : ∀ s : SD, ixK s (some (.dct (rowsG row5 N.ties))) (some (.int q.1)) = .ok (.d (.tup [.str q.2.tail, .str q.2.head, .int q.2.least, mostD q.2.most, .int q.2.price])) s := fun s => ixK_ok e
    have ht := tieOf_mem hr hq
    have z0 : ([D.int q.1] ≠ [] ∧ [D.str q.2.tail, D.str q.2.head, D.int q.2.least, mostD q.2.most, D.int q.2.price] ≠ [] ∧ [D.int q.1].length + [D.str q.2.tail, D.str q.2.head, D.int q.2.least, mostD q.2.most, D.int q.2.price].length ≤ sizeLine) = True := eq_true ⟨by simp, by simp, by show 6 ≤ sizeLine; decide⟩
    unfold Z.Turn
    simp only [↓Z.e_seq, ↓Z.e_asg, ↓Z.e_st_d, ↓Z.e_st_own, ↓Z.e_st_loc, ↓Z.e_next, ↓Z.e_break, ↓Z.e_cont, ↓Z.e_ifS, ↓Z.e_ret, ↓Z.e_retN, ↓Z.e_drop, ↓Z.e_never, ↓Z.e_c, ↓Z.e_var, ↓Z.e_z1, ↓Z.e_z2, ↓Z.e_via, ↓Z.e_a0, ↓Z.e_a, ↓Z.e_tup, ↓Z.e_lst, ↓Z.e_dnew, ↓Z.e_b, ↓Z.e_and, ↓Z.e_or, ↓Z.e_not, ↓Z.e_andV, ↓Z.e_orV, ↓Z.e_notV, ↓Z.e_if, ↓Z.e_call, ↓Z.e_meth, ↓Z.e_chain, ↓Z.e_no, ↓Z.e_pt, ↓Z.e_sl, Z.x_comp, Z.x_nx, Z.x_asg, Z.x_st, Z.x_if, Z.x_rt, Z.x_ret, Z.x_z2, Z.x_d, Z.x_via, Z.x_cons, Z.x_fix, Z.x_a, Z.x_tup, Z.x_lst, Z.x_ok, Z.x_not, Z.x_notV, Z.x_call, Z.x_self, Z.x_meth2, Z.x_meth1, Z.x_chain2, Z.x_chain1, Z.x_pt, Z.x_sl3, Z.x_sl2, Z.x_sl1, Z.bind_ok, Z.bind_bad, Z.bind_ite, Z.bind_bind, Z.seqK_nx, Z.seqK_rt, Z.seqK_bk, Z.seqK_ct, Z.told_d, Z.told_own, Z.told_loc, Z.toldK_own, Z.varK_own, Z.varK_d, Z.fix_d, Z.fix_own, Z.fix_loc, Z.fixK_own, Z.fixK_d, Z.celled_own, Z.celled_cell, Z.oB_bl, Z.chK_bl, Z.chainK_int, Z.contK_own, Z.cont_int, Z.cont_str, Z.cont_bl, Z.cont_non, Z.cont_lst, Z.cont_con, Z.cont_tup, Z.cont_dct, Z.cont_obj, Z.cont_cell, Z.cont_own, Z.cont_loc, Z.w_add, Z.addK_int, Z.addK_str, Z.addK_lst, Z.addK_tup, Z.w_sub, Z.w_mulG, Z.mulK_int, Z.mulK_lst, Z.w_mod, Z.w_div, Z.w_pow, Z.w_cmp, Z.w_neg, Z.w_min, Z.w_isi, Z.w_isN_n, Z.w_eq, Z.w_in, Z.w_ix, Z.w_len, Z.lenK_lst, Z.lenK_con, Z.lenK_dct, Z.w_fld, Z.isi_int, Z.isi_bl, Z.isi_str, Z.isi_non, Z.isi_lst, Z.isi_con, Z.isi_tup, Z.isi_dct, Z.isT, Z.w_isN_int, Z.w_isN_tup, Z.flv, ↓Z.e_lc, ↓Z.e_yes, ↓Z.e_itL, Z.x_itL_lst, Z.x_itL_con, ↓Z.e_itS, Z.x_itS, Z.wipe_mk, Z.zwipe_nil, Z.zwipe_cons, Z.w_dict, Z.dictK_dct, Z.w_list, Z.listK_lst, Z.listK_con, Z.listK_dct, Z.w_int_bl, Z.w_int_int, Z.w_sl, Z.slK_lst, Z.slK_con, ↓Z.e_rg1, Z.x_rg1, ↓Z.e_for, Z.x_turn, ↓Z.e_zip, Z.x_zip1, ↓Z.e_en, Z.x_en_lst, Z.w_unp, Z.unp2, Z.unp3, Z.unp4, Z.unp5, Z.setAll_cons, Z.setAll_nil, ↓Z.e_m1s, Z.x_m1s, Z.slK_str, Z.lenK_str, ↓Z.e_m2, Z.x_m2, Z.x_isL, Z.isLK_lst, Z.x_isD, Z.isDK_dct, Z.x_rv, Z.w_b2, Z.b2_append, Z.b2_extend, Z.w_b1, Z.b1_clear, Z.mod_cell, Z.mod_loc, Z.modK_own, ↓Z.e_sf, Z.x_sf1, Z.x_sf2, Z.x_sf3, ↓Z.e_mk, Z.x_mk, Z.x_sto, ↓Z.e_dp, Z.x_dp1, Z.x_dp2, Z.x_dp3, Z.x_dp4, Z.eqK_int, Z.eqK_str, Z.w_ne, Z.neK_nil, Z.neK_dct, Z.eqK_nil, Z.frz_new, Z.Sto.put_same, Z.put_put, Z.new_put, Z.new_get, Z.sfn0, Z.sfn1, Z.sfn2, Z.sfn3, Z.sfn4, Z.sfn5, Z.sfn6, Z.sfn7, Z.sfn8, decide_false, decide_true, Z.Wp_bad, Z.Wp_ok, Z.Wp_ite, List.set_cons_zero, List.set_cons_succ, List.getElem?_cons_zero, List.getElem?_cons_succ, List.cons_append, List.nil_append, List.append_nil, List.isEmpty_nil, List.isEmpty_cons, if_true, if_false, Bool.false_eq_true, true_implies, false_implies, implies_true, reduceCtorEq, Bool.not_true, Bool.not_false, eq_self, and_self, and_true, true_and, *]
    rfl
end
end T

namespace T
open PySem PySem.Spec PyProof.Rows L2 M Z A
open Classical
section
variable {s : SD} {S : Sto} {sl : List (Option Vl)} {x y z : D} {n l d m ml md : Nat} {N : ND} {g i c k : Int} {t : TD} {a b : D} {q : Int × TD}
mutual
theorem eqv_self : ∀ d : PyData, PyData.canLay0 d = true → PyData.eqv d d = true
  | .none, _ => rfl
  | .bool b, _ => by simp [PyData.eqv]
  | .int i, _ => by simp [PyData.eqv]
  | .str s, _ => by simp [PyData.eqv]
  | .list xs, h => by rw [PyData.eqv]; exact eqvAll_self xs (by simpa [PyData.canLay0] using h)
  | .tuple xs, h => by rw [PyData.eqv]; exact eqvAll_self xs (by simpa [PyData.canLay0] using h)
  | .dict _, h => by simp [PyData.canLay0] at h
theorem eqvAll_self : ∀ ds : List PyData, PyData.canLayAll0 ds = true → PyData.eqvAll ds ds = true
  | [], _ => rfl
  | d :: ds, h => by
    have h' : PyData.canLay0 d = true ∧ PyData.canLayAll0 ds = true := by simpa [PyData.canLayAll0] using h
    rw [PyData.eqvAll, eqv_self d h'.1, eqvAll_self ds h'.2]
    rfl
end
theorem dEq_lst {xs : List D} {ds : List PyData} (h : D.pys xs = some ds) (hs : SeqAt.shaped (.list ds) = true) : dEq (.lst xs) (.lst xs) = some true := by
  have hr := eqv_self (.list ds) (SeqAt.canLay_of_shaped hs)
  cases xs with
  | nil => rfl
  | cons a r =>
    have h1 : D.py (.lst (a :: r)) = some (.list ds) := by
      rw [D.py, h]
    unfold dEq
    simp only [D.sc, h1, hs, hr, and_self, if_true]
theorem dEq_tup {xs : List D} {ds : List PyData} (h : D.pys xs = some ds) (hs : SeqAt.shaped (.tuple ds) = true) : dEq (.tup xs) (.tup xs) = some true := by
  have hr := eqv_self (.tuple ds) (SeqAt.canLay_of_shaped hs)
  have h1 : D.py (.tup xs) = some (.tuple ds) := by
    rw [D.py, h]
  unfold dEq
  simp only [D.sc, h1, hs, hr, and_self, if_true]
theorem strOk_al {z : Str} (h : Al z) : PyData.strOk z = true := by
  have hl : ∀ c ∈ TL.tl "abcdefghijklmnopqrstuvwxyz", c < 1114112 := by decide +kernel
  unfold PyData.strOk
  rw [Array.all_eq_true]
  intro i hi
  exact decide_eq_true (hl _ (h _ (Array.mem_toList_iff.mpr (Array.getElem_mem hi))))
def mostP : Option Int → PyData
  | none => .none
  | some m => .int m
def rowP (q : Int × TD) : List PyData := [.int q.1, .str q.2.tail, .str q.2.head, .int q.2.least, mostP q.2.most, .int q.2.price]
theorem py_most (m : Option Int) : D.py (mostD m) = some (mostP m) := by cases m <;> rfl
theorem pys_row (q : Int × TD) : D.pys [.int q.1, .str q.2.tail, .str q.2.head, .int q.2.least, mostD q.2.most, .int q.2.price] = some (rowP q) := by
  simp only [D.pys, D.py, py_most]
  rfl
theorem lay_most (m : Option Int) : PyData.canLay0 (mostP m) = true ∧ PyData.depth (mostP m) = 0 := by cases m <;> exact ⟨rfl, rfl⟩
theorem lay_row (q : Int × TD) (h1 : Al q.2.tail) (h2 : Al q.2.head) : PyData.canLayAll0 (rowP q) = true ∧ PyData.depthAll (rowP q) = 0 := by
  unfold rowP
  simp only [PyData.canLayAll0, PyData.canLay0, PyData.depthAll, PyData.depth, strOk_al h1, strOk_al h2, lay_most, Bool.and_self, Nat.max_self, and_self]
theorem sh_row (q : Int × TD) (h1 : Al q.2.tail) (h2 : Al q.2.head) : SeqAt.shaped (.tuple (rowP q)) = true := by
  obtain ⟨e1, e2⟩ := lay_row q h1 h2
  unfold SeqAt.shaped
  rw [PyData.canLay0, PyData.depth, e1, e2]
  rfl
theorem pys_rows : ∀ ts : List (Int × TD), D.pys (ts.map row6) = some (ts.map fun q => .tuple (rowP q))
  | [] => rfl
  | q :: ts => by
    have h : D.py (row6 q) = some (.tuple (rowP q)) := by
      unfold row6
      rw [D.py, pys_row]
    rw [List.map_cons, D.pys, h, pys_rows ts]
    rfl
theorem lay_rows : ∀ ts : List (Int × TD), (∀ q ∈ ts, Al q.2.tail ∧ Al q.2.head) → PyData.canLayAll0 (ts.map fun q => .tuple (rowP q)) = true ∧ PyData.depthAll (ts.map fun q => .tuple (rowP q)) ≤ 1
  | [], _ => ⟨rfl, Nat.zero_le _⟩
  | q :: ts, h => by
    obtain ⟨h1, h2⟩ := h q (List.mem_cons_self ..)
    obtain ⟨e1, e2⟩ := lay_row q h1 h2
    obtain ⟨i1, i2⟩ := lay_rows ts fun p hp => h p (List.mem_cons_of_mem _ hp)
    rw [List.map_cons, PyData.canLayAll0, PyData.depthAll, PyData.canLay0, PyData.depth, e1, e2, i1]
    exact ⟨rfl, by omega⟩
theorem sh_rows {ts : List (Int × TD)} (h : ∀ q ∈ ts, Al q.2.tail ∧ Al q.2.head) : SeqAt.shaped (.list (ts.map fun q => .tuple (rowP q))) = true := by
  obtain ⟨e1, e2⟩ := lay_rows ts h
  unfold SeqAt.shaped
  rw [PyData.canLay0, PyData.depth, e1]
  exact decide_eq_true (by omega)
theorem pys_strs : ∀ ns : List Str, D.pys (ns.map .str) = some (ns.map .str)
  | [] => rfl
  | z :: ns => by rw [List.map_cons, D.pys, pys_strs ns]; rfl
theorem lay_strs : ∀ ns : List Str, (∀ z ∈ ns, Al z) → PyData.canLayAll0 (ns.map .str) = true ∧ PyData.depthAll (ns.map .str) = 0
  | [], _ => ⟨rfl, rfl⟩
  | z :: ns, h => by
    obtain ⟨i1, i2⟩ := lay_strs ns fun p hp => h p (List.mem_cons_of_mem _ hp)
    rw [List.map_cons, PyData.canLayAll0, PyData.depthAll, PyData.canLay0, PyData.depth, strOk_al (h z (List.mem_cons_self ..)), i1, i2]
    exact ⟨rfl, rfl⟩
theorem eq_names {ns : List Str} (h : ∀ z ∈ ns, Al z) : dEq (.lst (ns.map .str)) (.lst (ns.map .str)) = some true := by
  obtain ⟨e1, e2⟩ := lay_strs ns h
  refine dEq_lst (pys_strs ns) ?_
  unfold SeqAt.shaped
  rw [PyData.canLay0, PyData.depth, e1, e2]
  rfl
theorem eq_rows {ts : List (Int × TD)} (h : ∀ q ∈ ts, Al q.2.tail ∧ Al q.2.head) : dEq (.lst (ts.map row6)) (.lst (ts.map row6)) = some true := dEq_lst (pys_rows ts) (sh_rows h)
theorem eq_row {q : Int × TD} (h1 : Al q.2.tail) (h2 : Al q.2.head) : dEq (row6 q) (row6 q) = some true := dEq_tup (pys_row q) (sh_row q h1 h2)
theorem Good.al (h : Good N) : (∀ z ∈ N.names, Al z) ∧ ∀ q ∈ N.ties, Al q.2.tail ∧ Al q.2.head := ⟨fun z hz => (h.nm z hz).1, fun q hq => ⟨(h.tn q hq).1.1, (h.tn q hq).2.1⟩⟩
theorem mN_ties : fval (netF l d g) "ties" = none := rfl
theorem mN_places : fval (netF l d g) "places" = none := rfl
theorem mN_given : fval (netF l d g) "given" = none := rfl
theorem rows_lc {S : Sto} {v0 v1 v2 v3 : Option Vl} {ts : List (Int × TD)} (hl : ts.length ≤ 40) : lcK (zSt 3) zYes (zCall v_Lrow [] (zA (zVar 3) zA0)) [3] ⟨[.d (.lst (ts.map tieD))], fun _ => True, ts.map tieD⟩ ⟨[v0, v1, v2, v3], S⟩ = .ok (.own (.lst (ts.map row6))) ⟨[v0, v1, v2, none], S⟩ := by
  rw [lc_map (fun x => match x with | .obj _ [(_, .int i), (_, .str ta), (_, .str he), (_, .int le), (_, .non), (_, .int pr)] => row6 (i, ⟨ta, he, le, none, pr⟩) | .obj _ [(_, .int i), (_, .str ta), (_, .str he), (_, .int le), (_, .int mo), (_, .int pr)] => row6 (i, ⟨ta, he, le, some mo, pr⟩) | _ => .non) rfl Nl.d1 trivial (fun x hx => ?_) (by show (ts.map tieD).length ≤ _; rw [List.length_map]; exact Nat.le_trans hl (by decide))]
  · rw [List.map_map]
    congr 3
    refine List.map_congr_left fun q _ => ?_
    obtain ⟨i, ta, he, le, mo, pr⟩ := q
    cases mo <;> rfl
  · obtain ⟨q, _, rfl⟩ := List.mem_map.mp hx
    have e := fun s : SD => g_row (s := s) q
    have e2 : ∀ (f : D → D), f = f := fun _ => rfl
    unfold Z.Turn
    walk_at "zs"
    obtain ⟨i, ta, he, le, mo, pr⟩ := q
    cases mo <;> rfl
theorem g_Lstands (h : NetAt S n l d N) (hx : MdlAt S x N) (hG : Good N) : goF v_Lstands [.cell n, x] ⟨sl, S⟩ = .ok (.d (.bl true)) ⟨sl, S⟩ := by
  obtain ⟨a, h1, h2⟩ := hx.names
  have h3 := hx.given
  have q1 := h.n
  have k1 := fun sl => g_ties (sl := sl) h hG.rise hG.tl
  have k2 := fun sl => g_places (sl := sl) h
  have k3 := fun sl => g_given (sl := sl) h
  have k4 := fun sl => g_Lrows (sl := sl) hx hG.rise hG.tl
  have k5 := fun (v0 v1 v2 v3 : Option Vl) => rows_lc (S := S) (v0 := v0) (v1 := v1) (v2 := v2) (v3 := v3) hG.tl
  have h1' : ∀ sl, ixK ⟨sl, S⟩ (SD.cont ⟨sl, S⟩ (.d x)) (some (.str "names")) = .ok (.d a) ⟨sl, S⟩ := fun sl => h1 _ rfl
  have h2' : ∀ sl, SD.cont ⟨sl, S⟩ (.d a) = some (.lst (N.names.map .str)) := fun sl => h2 _ rfl
  have h3' : ∀ sl, ixK ⟨sl, S⟩ (SD.cont ⟨sl, S⟩ (.d x)) (some (.str "given")) = .ok (.d (.int N.given)) ⟨sl, S⟩ := fun sl => h3 _ rfl
  have e1 := fun s : SD => eqK_ok (s := s) (eq_names hG.al.1)
  have e2 := fun s : SD => eqK_ok (s := s) (eq_rows hG.al.2)
  refine go_e ?_
  show Wp (b_Lstands ⟨[some (.d (.cell n)), some (.d x), none, none], S⟩) _ _
  unfold b_Lstands
  clear h1 h2 h3 hx h hG
  simp only [↓Z.e_seq, ↓Z.e_asg, ↓Z.e_st_d, ↓Z.e_st_own, ↓Z.e_st_loc, ↓Z.e_next, ↓Z.e_break, ↓Z.e_cont, ↓Z.e_ifS, ↓Z.e_ret, ↓Z.e_retN, ↓Z.e_drop, ↓Z.e_never, ↓Z.e_c, ↓Z.e_var, ↓Z.e_z1, ↓Z.e_z2, ↓Z.e_via, ↓Z.e_a0, ↓Z.e_a, ↓Z.e_tup, ↓Z.e_lst, ↓Z.e_dnew, ↓Z.e_b, ↓Z.e_and, ↓Z.e_or, ↓Z.e_not, ↓Z.e_andV, ↓Z.e_orV, ↓Z.e_notV, ↓Z.e_if, ↓Z.e_call, ↓Z.e_meth, ↓Z.e_chain, ↓Z.e_no, ↓Z.e_pt, ↓Z.e_sl, Z.x_comp, Z.x_nx, Z.x_asg, Z.x_st, Z.x_if, Z.x_rt, Z.x_ret, Z.x_z2, Z.x_d, Z.x_via, Z.x_cons, Z.x_fix, Z.x_a, Z.x_tup, Z.x_lst, Z.x_ok, Z.x_not, Z.x_notV, Z.x_call, Z.x_self, Z.x_meth2, Z.x_meth1, Z.x_chain2, Z.x_chain1, Z.x_pt, Z.x_sl3, Z.x_sl2, Z.x_sl1, Z.bind_ok, Z.bind_bad, Z.bind_ite, Z.bind_bind, Z.seqK_nx, Z.seqK_rt, Z.seqK_bk, Z.seqK_ct, Z.told_d, Z.told_own, Z.told_loc, Z.toldK_own, Z.varK_own, Z.varK_d, Z.fix_d, Z.fix_own, Z.fix_loc, Z.fixK_own, Z.fixK_d, Z.celled_own, Z.celled_cell, Z.oB_bl, Z.chK_bl, Z.chainK_int, Z.contK_own, Z.cont_int, Z.cont_str, Z.cont_bl, Z.cont_non, Z.cont_lst, Z.cont_con, Z.cont_tup, Z.cont_dct, Z.cont_obj, Z.cont_cell, Z.cont_own, Z.cont_loc, Z.w_add, Z.addK_int, Z.addK_str, Z.addK_lst, Z.addK_tup, Z.w_sub, Z.w_mulG, Z.mulK_int, Z.mulK_lst, Z.w_mod, Z.w_div, Z.w_pow, Z.w_cmp, Z.w_neg, Z.w_min, Z.w_isi, Z.w_isN_n, Z.w_eq, Z.w_in, Z.w_ix, Z.w_len, Z.lenK_lst, Z.lenK_con, Z.lenK_dct, Z.w_fld, Z.isi_int, Z.isi_bl, Z.isi_str, Z.isi_non, Z.isi_lst, Z.isi_con, Z.isi_tup, Z.isi_dct, Z.isT, Z.w_isN_int, Z.w_isN_tup, Z.flv, ↓Z.e_lc, ↓Z.e_yes, ↓Z.e_itL, Z.x_itL_lst, Z.x_itL_con, ↓Z.e_itS, Z.x_itS, Z.wipe_mk, Z.zwipe_nil, Z.zwipe_cons, Z.w_dict, Z.dictK_dct, Z.w_list, Z.listK_lst, Z.listK_con, Z.listK_dct, Z.w_int_bl, Z.w_int_int, Z.w_sl, Z.slK_lst, Z.slK_con, ↓Z.e_rg1, Z.x_rg1, ↓Z.e_for, Z.x_turn, ↓Z.e_zip, Z.x_zip1, ↓Z.e_en, Z.x_en_lst, Z.w_unp, Z.unp2, Z.unp3, Z.unp4, Z.unp5, Z.setAll_cons, Z.setAll_nil, ↓Z.e_m1s, Z.x_m1s, Z.slK_str, Z.lenK_str, ↓Z.e_m2, Z.x_m2, Z.x_isL, Z.isLK_lst, Z.x_isD, Z.isDK_dct, Z.x_rv, Z.w_b2, Z.b2_append, Z.b2_extend, Z.w_b1, Z.b1_clear, Z.mod_cell, Z.mod_loc, Z.modK_own, ↓Z.e_sf, Z.x_sf1, Z.x_sf2, Z.x_sf3, ↓Z.e_mk, Z.x_mk, Z.x_sto, ↓Z.e_dp, Z.x_dp1, Z.x_dp2, Z.x_dp3, Z.x_dp4, Z.eqK_int, Z.eqK_str, Z.w_ne, Z.neK_nil, Z.neK_dct, Z.eqK_nil, Z.frz_new, Z.Sto.put_same, Z.put_put, Z.new_put, Z.new_get, Z.sfn0, Z.sfn1, Z.sfn2, Z.sfn3, Z.sfn4, Z.sfn5, Z.sfn6, Z.sfn7, Z.sfn8, decide_false, decide_true, Z.Wp_bad, Z.Wp_ok, Z.Wp_ite, List.set_cons_zero, List.set_cons_succ, List.getElem?_cons_zero, List.getElem?_cons_succ, List.cons_append, List.nil_append, List.append_nil, List.isEmpty_nil, List.isEmpty_cons, if_true, if_false, Bool.false_eq_true, true_implies, false_implies, implies_true, reduceCtorEq, Bool.not_true, Bool.not_false, eq_self, and_self, and_true, true_and, Z.methK_obj T.mN_ties, Z.methK_obj T.mN_places, Z.methK_obj T.mN_given, *]
  skip
end
end T

namespace T
open PySem PySem.Spec PyProof.Rows L2 M Z A
open Classical
section
noncomputable def deedT3 : SD → R Fl :=
  (zSeq (zIfS (zB (z2 oNe (z2 oIx (zVar 1) (zC (.str "ties"))) zDnew)) (zRet (zCall v_Lchanged [] (zA (zVar 0) (zA (zVar 1) (zA (zVar 3) (zA (zVar 4) (zA (z2 oMod (zVar 5) (zC (.int 3))) zA0))))))) zNext)
  (zRet (zC (.bl true))))
noncomputable def deedT2 : SD → R Fl :=
  (zSeq (zIfS (zAnd (zB (z2 oLt (zVar 5) (zC (.int 7)))) (zAnd (zB (z2 oGt (z1 oLen (z2 oIx (zVar 1) (zC (.str "names")))) (zC (.int 1)))) (zB (z2 oLt (z1 oLen (z2 oIx (zVar 1) (zC (.str "ties")))) (zC (.int 40)))))) (zRet (zCall v_Lput_tie [] (zA (zVar 0) (zA (zVar 1) (zA (zVar 3) (zA (zVar 4) zA0)))))) zNext)
  deedT3)
noncomputable def deedT : SD → R Fl :=
  (zSeq (zAsg (zLc (zItL (zFix (zVar 2))) (zSt 7) (zB (z2 (oIn true) (zVar 7) (z2 oIx (zVar 1) (zC (.str "names"))))) (zVar 7) [7]) (zSt 6))
  (zSeq (zIfS (zAnd (zOr (zB (z2 oLt (zVar 5) (zC (.int 3)))) (zB (z2 oLt (z1 oLen (z2 oIx (zVar 1) (zC (.str "names")))) (zC (.int 2))))) (zAnd (zB (z2 oNe (zVar 6) (zLst zA0))) (zB (z2 oLt (z1 oLen (z2 oIx (zVar 1) (zC (.str "names")))) (zC (.int 14)))))) (zSeq (zAsg (z2 oIx (zVar 6) (z2 oMod (zCall v_Ldraw [] (zA (zVar 3) (zA (zVar 4) (zA (zC (.int 1)) zA0)))) (z1 oLen (zVar 6)))) (zSt 7))
  (zSeq (zDrop (zM2 isL (oB2 fAppend) (z2 oIx (zVar 1) (zC (.str "names"))) (zFix (zVar 7))))
  (zRet (z2 (oIsN false) (zMeth "Net" "put_place" v_Net_put_place [] (zVar 0) (zA (zVar 7) zA0)) (zC .non))))) zNext)
  deedT2))
theorem deed_eq : b_Ldeed = zSeq (zAsg (z2 oMod (zCall v_Ldraw [] (zA (zVar 3) (zA (zVar 4) (zA (zC (.int 0)) zA0)))) (zC (.int 10))) (zSt 5)) (zSeq (zIfS (zAnd (zB (z2 oEq (z1 oLen (z2 oIx (zVar 2) (zC (.int 0)))) (zC (.int 5)))) (zB (z2 oGt (z1 oLen (z2 oIx (zVar 1) (zC (.str "names")))) (zC (.int 2))))) (zAsg (zC (.int 5)) (zSt 5)) zNext) deedT) := rfl
variable {s : SD} {S : Sto} {sl : List (Option Vl)} {x y z : D} {n l d m ml md : Nat} {N : ND} {g i c k w : Int} {t : TD} {a b : D} {q : Int × TD} {ps : List Str}
def freeP (ns : List Str) : D → Bool
  | .str z => !decide (z ∈ ns)
  | _ => false
theorem free_lc {v0 v3 v4 v5 v6 v7 : Option Vl} (hM : ModAt S m ml md N) (hp : ps.length ≤ 18) : lcK (zSt 7) (zB (z2 (oIn true) (zVar 7) (z2 oIx (zVar 1) (zC (.str "names"))))) (zVar 7) [7] ⟨[.d (.lst (ps.map .str))], fun _ => True, ps.map .str⟩ ⟨[v0, some (.d (.cell m)), some (.d (.lst (ps.map .str))), v3, v4, v5, v6, v7], S⟩ =
    .ok (.own (.lst ((ps.filter fun z => !decide (z ∈ N.names)).map .str))) ⟨[v0, some (.d (.cell m)), some (.d (.lst (ps.map .str))), v3, v4, v5, v6, none], S⟩ := by
  rw [lc_pure (freeP N.names) id rfl Nl.d1 trivial (fun x hx => ?_) (by show (ps.map D.str).length ≤ _; rw [List.length_map]; exact Nat.le_trans hp (by decide))]
  · rw [List.map_id, List.filter_map]
    rfl
  · obtain ⟨z, _, rfl⟩ := List.mem_map.mp hx
    have e3 := fun s : SD => inK_ok (s := s) (neg := true) (in_names (w := z) (l := N.names))
    have q1 := hM.m
    have q2 := hM.l
    unfold Z.Turn
    simp only [↓Z.e_seq, ↓Z.e_asg, ↓Z.e_st_d, ↓Z.e_st_own, ↓Z.e_st_loc, ↓Z.e_next, ↓Z.e_break, ↓Z.e_cont, ↓Z.e_ifS, ↓Z.e_ret, ↓Z.e_retN, ↓Z.e_drop, ↓Z.e_never, ↓Z.e_c, ↓Z.e_var, ↓Z.e_z1, ↓Z.e_z2, ↓Z.e_via, ↓Z.e_a0, ↓Z.e_a, ↓Z.e_tup, ↓Z.e_lst, ↓Z.e_dnew, ↓Z.e_b, ↓Z.e_and, ↓Z.e_or, ↓Z.e_not, ↓Z.e_andV, ↓Z.e_orV, ↓Z.e_notV, ↓Z.e_if, ↓Z.e_call, ↓Z.e_meth, ↓Z.e_chain, ↓Z.e_no, ↓Z.e_pt, ↓Z.e_sl, Z.x_comp, Z.x_nx, Z.x_asg, Z.x_st, Z.x_if, Z.x_rt, Z.x_ret, Z.x_z2, Z.x_d, Z.x_via, Z.x_cons, Z.x_fix, Z.x_a, Z.x_tup, Z.x_lst, Z.x_ok, Z.x_not, Z.x_notV, Z.x_call, Z.x_self, Z.x_meth2, Z.x_meth1, Z.x_chain2, Z.x_chain1, Z.x_pt, Z.x_sl3, Z.x_sl2, Z.x_sl1, Z.bind_ok, Z.bind_bad, Z.bind_ite, Z.bind_bind, Z.seqK_nx, Z.seqK_rt, Z.seqK_bk, Z.seqK_ct, Z.told_d, Z.told_own, Z.told_loc, Z.toldK_own, Z.varK_own, Z.varK_d, Z.fix_d, Z.fix_own, Z.fix_loc, Z.fixK_own, Z.fixK_d, Z.celled_own, Z.celled_cell, Z.oB_bl, Z.chK_bl, Z.chainK_int, Z.contK_own, Z.cont_int, Z.cont_str, Z.cont_bl, Z.cont_non, Z.cont_lst, Z.cont_con, Z.cont_tup, Z.cont_dct, Z.cont_obj, Z.cont_cell, Z.cont_own, Z.cont_loc, Z.w_add, Z.addK_int, Z.addK_str, Z.addK_lst, Z.addK_tup, Z.w_sub, Z.w_mulG, Z.mulK_int, Z.mulK_lst, Z.w_mod, Z.w_div, Z.w_pow, Z.w_cmp, Z.w_neg, Z.w_min, Z.w_isi, Z.w_isN_n, Z.w_eq, Z.w_in, Z.w_ix, Z.w_len, Z.lenK_lst, Z.lenK_con, Z.lenK_dct, Z.w_fld, Z.isi_int, Z.isi_bl, Z.isi_str, Z.isi_non, Z.isi_lst, Z.isi_con, Z.isi_tup, Z.isi_dct, Z.isT, Z.w_isN_int, Z.w_isN_tup, Z.flv, ↓Z.e_lc, ↓Z.e_yes, ↓Z.e_itL, Z.x_itL_lst, Z.x_itL_con, ↓Z.e_itS, Z.x_itS, Z.wipe_mk, Z.zwipe_nil, Z.zwipe_cons, Z.w_dict, Z.dictK_dct, Z.w_list, Z.listK_lst, Z.listK_con, Z.listK_dct, Z.w_int_bl, Z.w_int_int, Z.w_sl, Z.slK_lst, Z.slK_con, ↓Z.e_rg1, Z.x_rg1, ↓Z.e_for, Z.x_turn, ↓Z.e_zip, Z.x_zip1, ↓Z.e_en, Z.x_en_lst, Z.w_unp, Z.unp2, Z.unp3, Z.unp4, Z.unp5, Z.setAll_cons, Z.setAll_nil, ↓Z.e_m1s, Z.x_m1s, Z.slK_str, Z.lenK_str, ↓Z.e_m2, Z.x_m2, Z.x_isL, Z.isLK_lst, Z.x_isD, Z.isDK_dct, Z.x_rv, Z.w_b2, Z.b2_append, Z.b2_extend, Z.w_b1, Z.b1_clear, Z.mod_cell, Z.mod_loc, Z.modK_own, ↓Z.e_sf, Z.x_sf1, Z.x_sf2, Z.x_sf3, ↓Z.e_mk, Z.x_mk, Z.x_sto, ↓Z.e_dp, Z.x_dp1, Z.x_dp2, Z.x_dp3, Z.x_dp4, Z.eqK_int, Z.eqK_str, Z.w_ne, Z.neK_nil, Z.neK_dct, Z.eqK_nil, Z.frz_new, Z.Sto.put_same, Z.put_put, Z.new_put, Z.new_get, Z.sfn0, Z.sfn1, Z.sfn2, Z.sfn3, Z.sfn4, Z.sfn5, Z.sfn6, Z.sfn7, Z.sfn8, decide_false, decide_true, Z.Wp_bad, Z.Wp_ok, Z.Wp_ite, List.set_cons_zero, List.set_cons_succ, List.getElem?_cons_zero, List.getElem?_cons_succ, List.cons_append, List.nil_append, List.append_nil, List.isEmpty_nil, List.isEmpty_cons, if_true, if_false, Bool.false_eq_true, true_implies, false_implies, implies_true, reduceCtorEq, Bool.not_true, Bool.not_false, eq_self, and_self, and_true, true_and, mx_names, freeP, e3, *]
    exact fun _ => rfl
theorem Good.place {z : Str} (h : Good N) (hz : NmOk z) (hn : z ∉ N.names) (hl : N.names.length < 14) : Good ⟨N.names ++ [z], N.ties, N.given⟩ := by
  refine ⟨?_, fun y hy => ?_, ?_, h.rise, h.tl, h.ts, h.tn⟩
  · show (N.names ++ [z]).Nodup
    rw [List.nodup_append]
    exact ⟨h.nd, by simp, fun a ha b hb e => by rw [List.mem_singleton.mp hb] at e; exact hn (e ▸ ha)⟩
  · rcases List.mem_append.mp (show y ∈ N.names ++ [z] from hy) with hy | hy
    · exact h.nm y hy
    · rw [List.mem_singleton.mp hy]; exact hz
  · show (N.names ++ [z]).length ≤ 14
    rw [List.length_append]; exact hl
theorem place_did {z : Str} (h6 : Six S n l d m ml md) (hN : NetAt S n l d N) (hM : ModAt S m ml md N) (hG : Good ⟨N.names ++ [z], N.ties, N.given⟩) :
    Did S ((S.put ml (.lst ((N.names ++ [z]).map .str))).put l (.lst ((N.names ++ [z]).map .str))) n l d m ml md ⟨N.names ++ [z], N.ties, N.given⟩ := by
  obtain ⟨b1, b2, b3, b4, b5, b6, ⟨a1, a2, a3⟩, ⟨a4, a5, a6⟩, ⟨a7, a8, a9⟩, ⟨a10, a11, a12⟩, ⟨a13, a14, a15⟩⟩ := h6
  refine ⟨Nat.le_refl _, fun i hi c1 c2 c3 c4 c5 c6 => ?_, ⟨?_, ?_, ?_⟩, ⟨?_, ?_, ?_⟩, hG⟩
  · rw [Sto.put_ne c2, Sto.put_ne c5]
  · rw [Sto.put_ne a13, Sto.put_ne a2]; exact hN.n
  · exact Sto.put_same
  · rw [Sto.put_ne (Ne.symm a15), Sto.put_ne a8]; exact hN.d
  · rw [Sto.put_ne (Ne.symm a4), Sto.put_ne a10]; exact hM.m
  · rw [Sto.put_ne (Ne.symm a5), Sto.put_same]
  · rw [Sto.put_ne (Ne.symm a6), Sto.put_ne (Ne.symm a12)]; exact hM.d
theorem same_did (hN : NetAt S n l d N) (hM : ModAt S m ml md N) (hG : Good N) : Did S S n l d m ml md N := ⟨Nat.le_refl _, fun _ _ _ _ _ _ _ _ => rfl, hN, hM, hG⟩
theorem mN_put_place : fval (netF l d g) "put_place" = none := rfl
theorem deed3 {v2 v6 v7 : Option Vl} (h6 : Six S n l d m ml md) (hN : NetAt S n l d N) (hM : ModAt S m ml md N) (hG : Good N) (k0 : 0 ≤ k) (k1 : k ≤ 1000) :
    ∃ S' N', Did S S' n l d m ml md N' ∧ Wp (deedT3 ⟨[some (.d (.cell n)), some (.d (.cell m)), v2, some (.d (.int c)), some (.d (.int k)), some (.d (.int w)), v6, v7], S⟩) (fun fl s' => flv fl = some (.d (.bl true)) ∧ s'.st = S') XF := by
  have q1 := hM.m
  have q3 := hM.d
  have ln : (rowsG row5 N.ties).isEmpty = N.ties.isEmpty := by unfold rowsG; cases N.ties <;> rfl
  have z8 : ((0 : Int) < 3) = True := by simp
  by_cases c1 : N.ties = []
  · refine ⟨_, _, same_did hN hM hG, ?_⟩
    have e : N.ties.isEmpty = true := by rw [c1]; rfl
    unfold deedT3
    clear c1 hN hM hG h6
    simp only [↓Z.e_seq, ↓Z.e_asg, ↓Z.e_st_d, ↓Z.e_st_own, ↓Z.e_st_loc, ↓Z.e_next, ↓Z.e_break, ↓Z.e_cont, ↓Z.e_ifS, ↓Z.e_ret, ↓Z.e_retN, ↓Z.e_drop, ↓Z.e_never, ↓Z.e_c, ↓Z.e_var, ↓Z.e_z1, ↓Z.e_z2, ↓Z.e_via, ↓Z.e_a0, ↓Z.e_a, ↓Z.e_tup, ↓Z.e_lst, ↓Z.e_dnew, ↓Z.e_b, ↓Z.e_and, ↓Z.e_or, ↓Z.e_not, ↓Z.e_andV, ↓Z.e_orV, ↓Z.e_notV, ↓Z.e_if, ↓Z.e_call, ↓Z.e_meth, ↓Z.e_chain, ↓Z.e_no, ↓Z.e_pt, ↓Z.e_sl, Z.x_comp, Z.x_nx, Z.x_asg, Z.x_st, Z.x_if, Z.x_rt, Z.x_ret, Z.x_z2, Z.x_d, Z.x_via, Z.x_cons, Z.x_fix, Z.x_a, Z.x_tup, Z.x_lst, Z.x_ok, Z.x_not, Z.x_notV, Z.x_call, Z.x_self, Z.x_meth2, Z.x_meth1, Z.x_chain2, Z.x_chain1, Z.x_pt, Z.x_sl3, Z.x_sl2, Z.x_sl1, Z.bind_ok, Z.bind_bad, Z.bind_ite, Z.bind_bind, Z.seqK_nx, Z.seqK_rt, Z.seqK_bk, Z.seqK_ct, Z.told_d, Z.told_own, Z.told_loc, Z.toldK_own, Z.varK_own, Z.varK_d, Z.fix_d, Z.fix_own, Z.fix_loc, Z.fixK_own, Z.fixK_d, Z.celled_own, Z.celled_cell, Z.oB_bl, Z.chK_bl, Z.chainK_int, Z.contK_own, Z.cont_int, Z.cont_str, Z.cont_bl, Z.cont_non, Z.cont_lst, Z.cont_con, Z.cont_tup, Z.cont_dct, Z.cont_obj, Z.cont_cell, Z.cont_own, Z.cont_loc, Z.w_add, Z.addK_int, Z.addK_str, Z.addK_lst, Z.addK_tup, Z.w_sub, Z.w_mulG, Z.mulK_int, Z.mulK_lst, Z.w_mod, Z.w_div, Z.w_pow, Z.w_cmp, Z.w_neg, Z.w_min, Z.w_isi, Z.w_isN_n, Z.w_eq, Z.w_in, Z.w_ix, Z.w_len, Z.lenK_lst, Z.lenK_con, Z.lenK_dct, Z.w_fld, Z.isi_int, Z.isi_bl, Z.isi_str, Z.isi_non, Z.isi_lst, Z.isi_con, Z.isi_tup, Z.isi_dct, Z.isT, Z.w_isN_int, Z.w_isN_tup, Z.flv, ↓Z.e_lc, ↓Z.e_yes, ↓Z.e_itL, Z.x_itL_lst, Z.x_itL_con, ↓Z.e_itS, Z.x_itS, Z.wipe_mk, Z.zwipe_nil, Z.zwipe_cons, Z.w_dict, Z.dictK_dct, Z.w_list, Z.listK_lst, Z.listK_con, Z.listK_dct, Z.w_int_bl, Z.w_int_int, Z.w_sl, Z.slK_lst, Z.slK_con, ↓Z.e_rg1, Z.x_rg1, ↓Z.e_for, Z.x_turn, ↓Z.e_zip, Z.x_zip1, ↓Z.e_en, Z.x_en_lst, Z.w_unp, Z.unp2, Z.unp3, Z.unp4, Z.unp5, Z.setAll_cons, Z.setAll_nil, ↓Z.e_m1s, Z.x_m1s, Z.slK_str, Z.lenK_str, ↓Z.e_m2, Z.x_m2, Z.x_isL, Z.isLK_lst, Z.x_isD, Z.isDK_dct, Z.x_rv, Z.w_b2, Z.b2_append, Z.b2_extend, Z.w_b1, Z.b1_clear, Z.mod_cell, Z.mod_loc, Z.modK_own, ↓Z.e_sf, Z.x_sf1, Z.x_sf2, Z.x_sf3, ↓Z.e_mk, Z.x_mk, Z.x_sto, ↓Z.e_dp, Z.x_dp1, Z.x_dp2, Z.x_dp3, Z.x_dp4, Z.eqK_int, Z.eqK_str, Z.w_ne, Z.neK_nil, Z.neK_dct, Z.eqK_nil, Z.frz_new, Z.Sto.put_same, Z.put_put, Z.new_put, Z.new_get, Z.sfn0, Z.sfn1, Z.sfn2, Z.sfn3, Z.sfn4, Z.sfn5, Z.sfn6, Z.sfn7, Z.sfn8, decide_false, decide_true, Z.Wp_bad, Z.Wp_ok, Z.Wp_ite, List.set_cons_zero, List.set_cons_succ, List.getElem?_cons_zero, List.getElem?_cons_succ, List.cons_append, List.nil_append, List.append_nil, List.isEmpty_nil, List.isEmpty_cons, if_true, if_false, Bool.false_eq_true, true_implies, false_implies, implies_true, reduceCtorEq, Bool.not_true, Bool.not_false, eq_self, and_self, and_true, true_and, mx_names, mx_ties, ln, e, q1, q3]
  · obtain ⟨S', N', h1, h2⟩ := g_Lchanged (c := c) (w := w % 3) h6 hN hM hG c1 k0 k1
    refine ⟨S', N', h1, ?_⟩
    have e : N.ties.isEmpty = false := by cases h : N.ties with | nil => exact absurd h c1 | cons a r => rfl
    unfold deedT3
    clear c1 hN hM hG h6
    simp only [↓Z.e_seq, ↓Z.e_asg, ↓Z.e_st_d, ↓Z.e_st_own, ↓Z.e_st_loc, ↓Z.e_next, ↓Z.e_break, ↓Z.e_cont, ↓Z.e_ifS, ↓Z.e_ret, ↓Z.e_retN, ↓Z.e_drop, ↓Z.e_never, ↓Z.e_c, ↓Z.e_var, ↓Z.e_z1, ↓Z.e_z2, ↓Z.e_via, ↓Z.e_a0, ↓Z.e_a, ↓Z.e_tup, ↓Z.e_lst, ↓Z.e_dnew, ↓Z.e_b, ↓Z.e_and, ↓Z.e_or, ↓Z.e_not, ↓Z.e_andV, ↓Z.e_orV, ↓Z.e_notV, ↓Z.e_if, ↓Z.e_call, ↓Z.e_meth, ↓Z.e_chain, ↓Z.e_no, ↓Z.e_pt, ↓Z.e_sl, Z.x_comp, Z.x_nx, Z.x_asg, Z.x_st, Z.x_if, Z.x_rt, Z.x_ret, Z.x_z2, Z.x_d, Z.x_via, Z.x_cons, Z.x_fix, Z.x_a, Z.x_tup, Z.x_lst, Z.x_ok, Z.x_not, Z.x_notV, Z.x_call, Z.x_self, Z.x_meth2, Z.x_meth1, Z.x_chain2, Z.x_chain1, Z.x_pt, Z.x_sl3, Z.x_sl2, Z.x_sl1, Z.bind_ok, Z.bind_bad, Z.bind_ite, Z.bind_bind, Z.seqK_nx, Z.seqK_rt, Z.seqK_bk, Z.seqK_ct, Z.told_d, Z.told_own, Z.told_loc, Z.toldK_own, Z.varK_own, Z.varK_d, Z.fix_d, Z.fix_own, Z.fix_loc, Z.fixK_own, Z.fixK_d, Z.celled_own, Z.celled_cell, Z.oB_bl, Z.chK_bl, Z.chainK_int, Z.contK_own, Z.cont_int, Z.cont_str, Z.cont_bl, Z.cont_non, Z.cont_lst, Z.cont_con, Z.cont_tup, Z.cont_dct, Z.cont_obj, Z.cont_cell, Z.cont_own, Z.cont_loc, Z.w_add, Z.addK_int, Z.addK_str, Z.addK_lst, Z.addK_tup, Z.w_sub, Z.w_mulG, Z.mulK_int, Z.mulK_lst, Z.w_mod, Z.w_div, Z.w_pow, Z.w_cmp, Z.w_neg, Z.w_min, Z.w_isi, Z.w_isN_n, Z.w_eq, Z.w_in, Z.w_ix, Z.w_len, Z.lenK_lst, Z.lenK_con, Z.lenK_dct, Z.w_fld, Z.isi_int, Z.isi_bl, Z.isi_str, Z.isi_non, Z.isi_lst, Z.isi_con, Z.isi_tup, Z.isi_dct, Z.isT, Z.w_isN_int, Z.w_isN_tup, Z.flv, ↓Z.e_lc, ↓Z.e_yes, ↓Z.e_itL, Z.x_itL_lst, Z.x_itL_con, ↓Z.e_itS, Z.x_itS, Z.wipe_mk, Z.zwipe_nil, Z.zwipe_cons, Z.w_dict, Z.dictK_dct, Z.w_list, Z.listK_lst, Z.listK_con, Z.listK_dct, Z.w_int_bl, Z.w_int_int, Z.w_sl, Z.slK_lst, Z.slK_con, ↓Z.e_rg1, Z.x_rg1, ↓Z.e_for, Z.x_turn, ↓Z.e_zip, Z.x_zip1, ↓Z.e_en, Z.x_en_lst, Z.w_unp, Z.unp2, Z.unp3, Z.unp4, Z.unp5, Z.setAll_cons, Z.setAll_nil, ↓Z.e_m1s, Z.x_m1s, Z.slK_str, Z.lenK_str, ↓Z.e_m2, Z.x_m2, Z.x_isL, Z.isLK_lst, Z.x_isD, Z.isDK_dct, Z.x_rv, Z.w_b2, Z.b2_append, Z.b2_extend, Z.w_b1, Z.b1_clear, Z.mod_cell, Z.mod_loc, Z.modK_own, ↓Z.e_sf, Z.x_sf1, Z.x_sf2, Z.x_sf3, ↓Z.e_mk, Z.x_mk, Z.x_sto, ↓Z.e_dp, Z.x_dp1, Z.x_dp2, Z.x_dp3, Z.x_dp4, Z.eqK_int, Z.eqK_str, Z.w_ne, Z.neK_nil, Z.neK_dct, Z.eqK_nil, Z.frz_new, Z.Sto.put_same, Z.put_put, Z.new_put, Z.new_get, Z.sfn0, Z.sfn1, Z.sfn2, Z.sfn3, Z.sfn4, Z.sfn5, Z.sfn6, Z.sfn7, Z.sfn8, decide_false, decide_true, Z.Wp_bad, Z.Wp_ok, Z.Wp_ite, List.set_cons_zero, List.set_cons_succ, List.getElem?_cons_zero, List.getElem?_cons_succ, List.cons_append, List.nil_append, List.append_nil, List.isEmpty_nil, List.isEmpty_cons, if_true, if_false, Bool.false_eq_true, true_implies, false_implies, implies_true, reduceCtorEq, Bool.not_true, Bool.not_false, eq_self, and_self, and_true, true_and, mx_names, mx_ties, ln, e, q1, q3, z8, h2]
theorem deed2 {v2 v6 v7 : Option Vl} (h6 : Six S n l d m ml md) (hN : NetAt S n l d N) (hM : ModAt S m ml md N) (hG : Good N) (k0 : 0 ≤ k) (k1 : k ≤ 1000) :
    ∃ S' N', Did S S' n l d m ml md N' ∧ Wp (deedT2 ⟨[some (.d (.cell n)), some (.d (.cell m)), v2, some (.d (.int c)), some (.d (.int k)), some (.d (.int w)), v6, v7], S⟩) (fun fl s' => flv fl = some (.d (.bl true)) ∧ s'.st = S') XF := by
  have q1 := hM.m
  have q2 := hM.l
  have q3 := hM.d
  have ln : ((rowsG row5 N.ties).length : Int) = N.ties.length := by unfold rowsG; rw [List.length_map]
  by_cases cA : w < 7 ∧ (1 : Int) < N.names.length ∧ (N.ties.length : Int) < 40
  · obtain ⟨S', N', h1, h2⟩ := g_Lput_tie (c := c) h6 hN hM hG (by omega) (by omega) k0 k1
    refine ⟨S', N', h1, ?_⟩
    have d1 := decide_eq_true cA.1
    have d2 : decide ((N.names.length : Int) > 1) = true := decide_eq_true cA.2.1
    have d3 := decide_eq_true cA.2.2
    unfold deedT2
    simp only [↓Z.e_seq, ↓Z.e_asg, ↓Z.e_st_d, ↓Z.e_st_own, ↓Z.e_st_loc, ↓Z.e_next, ↓Z.e_break, ↓Z.e_cont, ↓Z.e_ifS, ↓Z.e_ret, ↓Z.e_retN, ↓Z.e_drop, ↓Z.e_never, ↓Z.e_c, ↓Z.e_var, ↓Z.e_z1, ↓Z.e_z2, ↓Z.e_via, ↓Z.e_a0, ↓Z.e_a, ↓Z.e_tup, ↓Z.e_lst, ↓Z.e_dnew, ↓Z.e_b, ↓Z.e_and, ↓Z.e_or, ↓Z.e_not, ↓Z.e_andV, ↓Z.e_orV, ↓Z.e_notV, ↓Z.e_if, ↓Z.e_call, ↓Z.e_meth, ↓Z.e_chain, ↓Z.e_no, ↓Z.e_pt, ↓Z.e_sl, Z.x_comp, Z.x_nx, Z.x_asg, Z.x_st, Z.x_if, Z.x_rt, Z.x_ret, Z.x_z2, Z.x_d, Z.x_via, Z.x_cons, Z.x_fix, Z.x_a, Z.x_tup, Z.x_lst, Z.x_ok, Z.x_not, Z.x_notV, Z.x_call, Z.x_self, Z.x_meth2, Z.x_meth1, Z.x_chain2, Z.x_chain1, Z.x_pt, Z.x_sl3, Z.x_sl2, Z.x_sl1, Z.bind_ok, Z.bind_bad, Z.bind_ite, Z.bind_bind, Z.seqK_nx, Z.seqK_rt, Z.seqK_bk, Z.seqK_ct, Z.told_d, Z.told_own, Z.told_loc, Z.toldK_own, Z.varK_own, Z.varK_d, Z.fix_d, Z.fix_own, Z.fix_loc, Z.fixK_own, Z.fixK_d, Z.celled_own, Z.celled_cell, Z.oB_bl, Z.chK_bl, Z.chainK_int, Z.contK_own, Z.cont_int, Z.cont_str, Z.cont_bl, Z.cont_non, Z.cont_lst, Z.cont_con, Z.cont_tup, Z.cont_dct, Z.cont_obj, Z.cont_cell, Z.cont_own, Z.cont_loc, Z.w_add, Z.addK_int, Z.addK_str, Z.addK_lst, Z.addK_tup, Z.w_sub, Z.w_mulG, Z.mulK_int, Z.mulK_lst, Z.w_mod, Z.w_div, Z.w_pow, Z.w_cmp, Z.w_neg, Z.w_min, Z.w_isi, Z.w_isN_n, Z.w_eq, Z.w_in, Z.w_ix, Z.w_len, Z.lenK_lst, Z.lenK_con, Z.lenK_dct, Z.w_fld, Z.isi_int, Z.isi_bl, Z.isi_str, Z.isi_non, Z.isi_lst, Z.isi_con, Z.isi_tup, Z.isi_dct, Z.isT, Z.w_isN_int, Z.w_isN_tup, Z.flv, ↓Z.e_lc, ↓Z.e_yes, ↓Z.e_itL, Z.x_itL_lst, Z.x_itL_con, ↓Z.e_itS, Z.x_itS, Z.wipe_mk, Z.zwipe_nil, Z.zwipe_cons, Z.w_dict, Z.dictK_dct, Z.w_list, Z.listK_lst, Z.listK_con, Z.listK_dct, Z.w_int_bl, Z.w_int_int, Z.w_sl, Z.slK_lst, Z.slK_con, ↓Z.e_rg1, Z.x_rg1, ↓Z.e_for, Z.x_turn, ↓Z.e_zip, Z.x_zip1, ↓Z.e_en, Z.x_en_lst, Z.w_unp, Z.unp2, Z.unp3, Z.unp4, Z.unp5, Z.setAll_cons, Z.setAll_nil, ↓Z.e_m1s, Z.x_m1s, Z.slK_str, Z.lenK_str, ↓Z.e_m2, Z.x_m2, Z.x_isL, Z.isLK_lst, Z.x_isD, Z.isDK_dct, Z.x_rv, Z.w_b2, Z.b2_append, Z.b2_extend, Z.w_b1, Z.b1_clear, Z.mod_cell, Z.mod_loc, Z.modK_own, ↓Z.e_sf, Z.x_sf1, Z.x_sf2, Z.x_sf3, ↓Z.e_mk, Z.x_mk, Z.x_sto, ↓Z.e_dp, Z.x_dp1, Z.x_dp2, Z.x_dp3, Z.x_dp4, Z.eqK_int, Z.eqK_str, Z.w_ne, Z.neK_nil, Z.neK_dct, Z.eqK_nil, Z.frz_new, Z.Sto.put_same, Z.put_put, Z.new_put, Z.new_get, Z.sfn0, Z.sfn1, Z.sfn2, Z.sfn3, Z.sfn4, Z.sfn5, Z.sfn6, Z.sfn7, Z.sfn8, decide_false, decide_true, Z.Wp_bad, Z.Wp_ok, Z.Wp_ite, List.set_cons_zero, List.set_cons_succ, List.getElem?_cons_zero, List.getElem?_cons_succ, List.cons_append, List.nil_append, List.append_nil, List.isEmpty_nil, List.isEmpty_cons, if_true, if_false, Bool.false_eq_true, true_implies, false_implies, implies_true, reduceCtorEq, Bool.not_true, Bool.not_false, eq_self, and_self, and_true, true_and, mx_names, mx_ties, ln, List.length_map, d1, d2, d3, q1, q2, q3, h2]
  · obtain ⟨S', N', h1, h2⟩ := deed3 (c := c) (w := w) (v2 := v2) (v6 := v6) (v7 := v7) h6 hN hM hG k0 k1
    refine ⟨S', N', h1, ?_⟩
    by_cases d1 : w < 7
    · have d1' := decide_eq_true d1
      by_cases d2 : (N.names.length : Int) > 1
      · have d2' := decide_eq_true d2
        have d3' : decide ((N.ties.length : Int) < 40) = false := decide_eq_false fun d3 => cA ⟨d1, d2, d3⟩
        unfold deedT2
        simp only [↓Z.e_seq, ↓Z.e_asg, ↓Z.e_st_d, ↓Z.e_st_own, ↓Z.e_st_loc, ↓Z.e_next, ↓Z.e_break, ↓Z.e_cont, ↓Z.e_ifS, ↓Z.e_ret, ↓Z.e_retN, ↓Z.e_drop, ↓Z.e_never, ↓Z.e_c, ↓Z.e_var, ↓Z.e_z1, ↓Z.e_z2, ↓Z.e_via, ↓Z.e_a0, ↓Z.e_a, ↓Z.e_tup, ↓Z.e_lst, ↓Z.e_dnew, ↓Z.e_b, ↓Z.e_and, ↓Z.e_or, ↓Z.e_not, ↓Z.e_andV, ↓Z.e_orV, ↓Z.e_notV, ↓Z.e_if, ↓Z.e_call, ↓Z.e_meth, ↓Z.e_chain, ↓Z.e_no, ↓Z.e_pt, ↓Z.e_sl, Z.x_comp, Z.x_nx, Z.x_asg, Z.x_st, Z.x_if, Z.x_rt, Z.x_ret, Z.x_z2, Z.x_d, Z.x_via, Z.x_cons, Z.x_fix, Z.x_a, Z.x_tup, Z.x_lst, Z.x_ok, Z.x_not, Z.x_notV, Z.x_call, Z.x_self, Z.x_meth2, Z.x_meth1, Z.x_chain2, Z.x_chain1, Z.x_pt, Z.x_sl3, Z.x_sl2, Z.x_sl1, Z.bind_ok, Z.bind_bad, Z.bind_ite, Z.bind_bind, Z.seqK_nx, Z.seqK_rt, Z.seqK_bk, Z.seqK_ct, Z.told_d, Z.told_own, Z.told_loc, Z.toldK_own, Z.varK_own, Z.varK_d, Z.fix_d, Z.fix_own, Z.fix_loc, Z.fixK_own, Z.fixK_d, Z.celled_own, Z.celled_cell, Z.oB_bl, Z.chK_bl, Z.chainK_int, Z.contK_own, Z.cont_int, Z.cont_str, Z.cont_bl, Z.cont_non, Z.cont_lst, Z.cont_con, Z.cont_tup, Z.cont_dct, Z.cont_obj, Z.cont_cell, Z.cont_own, Z.cont_loc, Z.w_add, Z.addK_int, Z.addK_str, Z.addK_lst, Z.addK_tup, Z.w_sub, Z.w_mulG, Z.mulK_int, Z.mulK_lst, Z.w_mod, Z.w_div, Z.w_pow, Z.w_cmp, Z.w_neg, Z.w_min, Z.w_isi, Z.w_isN_n, Z.w_eq, Z.w_in, Z.w_ix, Z.w_len, Z.lenK_lst, Z.lenK_con, Z.lenK_dct, Z.w_fld, Z.isi_int, Z.isi_bl, Z.isi_str, Z.isi_non, Z.isi_lst, Z.isi_con, Z.isi_tup, Z.isi_dct, Z.isT, Z.w_isN_int, Z.w_isN_tup, Z.flv, ↓Z.e_lc, ↓Z.e_yes, ↓Z.e_itL, Z.x_itL_lst, Z.x_itL_con, ↓Z.e_itS, Z.x_itS, Z.wipe_mk, Z.zwipe_nil, Z.zwipe_cons, Z.w_dict, Z.dictK_dct, Z.w_list, Z.listK_lst, Z.listK_con, Z.listK_dct, Z.w_int_bl, Z.w_int_int, Z.w_sl, Z.slK_lst, Z.slK_con, ↓Z.e_rg1, Z.x_rg1, ↓Z.e_for, Z.x_turn, ↓Z.e_zip, Z.x_zip1, ↓Z.e_en, Z.x_en_lst, Z.w_unp, Z.unp2, Z.unp3, Z.unp4, Z.unp5, Z.setAll_cons, Z.setAll_nil, ↓Z.e_m1s, Z.x_m1s, Z.slK_str, Z.lenK_str, ↓Z.e_m2, Z.x_m2, Z.x_isL, Z.isLK_lst, Z.x_isD, Z.isDK_dct, Z.x_rv, Z.w_b2, Z.b2_append, Z.b2_extend, Z.w_b1, Z.b1_clear, Z.mod_cell, Z.mod_loc, Z.modK_own, ↓Z.e_sf, Z.x_sf1, Z.x_sf2, Z.x_sf3, ↓Z.e_mk, Z.x_mk, Z.x_sto, ↓Z.e_dp, Z.x_dp1, Z.x_dp2, Z.x_dp3, Z.x_dp4, Z.eqK_int, Z.eqK_str, Z.w_ne, Z.neK_nil, Z.neK_dct, Z.eqK_nil, Z.frz_new, Z.Sto.put_same, Z.put_put, Z.new_put, Z.new_get, Z.sfn0, Z.sfn1, Z.sfn2, Z.sfn3, Z.sfn4, Z.sfn5, Z.sfn6, Z.sfn7, Z.sfn8, decide_false, decide_true, Z.Wp_bad, Z.Wp_ok, Z.Wp_ite, List.set_cons_zero, List.set_cons_succ, List.getElem?_cons_zero, List.getElem?_cons_succ, List.cons_append, List.nil_append, List.append_nil, List.isEmpty_nil, List.isEmpty_cons, if_true, if_false, Bool.false_eq_true, true_implies, false_implies, implies_true, reduceCtorEq, Bool.not_true, Bool.not_false, eq_self, and_self, and_true, true_and, mx_names, mx_ties, ln, List.length_map, d1', d2', d3', q1, q2, q3]
        exact h2
      · have d2' := decide_eq_false d2
        unfold deedT2
        simp only [↓Z.e_seq, ↓Z.e_asg, ↓Z.e_st_d, ↓Z.e_st_own, ↓Z.e_st_loc, ↓Z.e_next, ↓Z.e_break, ↓Z.e_cont, ↓Z.e_ifS, ↓Z.e_ret, ↓Z.e_retN, ↓Z.e_drop, ↓Z.e_never, ↓Z.e_c, ↓Z.e_var, ↓Z.e_z1, ↓Z.e_z2, ↓Z.e_via, ↓Z.e_a0, ↓Z.e_a, ↓Z.e_tup, ↓Z.e_lst, ↓Z.e_dnew, ↓Z.e_b, ↓Z.e_and, ↓Z.e_or, ↓Z.e_not, ↓Z.e_andV, ↓Z.e_orV, ↓Z.e_notV, ↓Z.e_if, ↓Z.e_call, ↓Z.e_meth, ↓Z.e_chain, ↓Z.e_no, ↓Z.e_pt, ↓Z.e_sl, Z.x_comp, Z.x_nx, Z.x_asg, Z.x_st, Z.x_if, Z.x_rt, Z.x_ret, Z.x_z2, Z.x_d, Z.x_via, Z.x_cons, Z.x_fix, Z.x_a, Z.x_tup, Z.x_lst, Z.x_ok, Z.x_not, Z.x_notV, Z.x_call, Z.x_self, Z.x_meth2, Z.x_meth1, Z.x_chain2, Z.x_chain1, Z.x_pt, Z.x_sl3, Z.x_sl2, Z.x_sl1, Z.bind_ok, Z.bind_bad, Z.bind_ite, Z.bind_bind, Z.seqK_nx, Z.seqK_rt, Z.seqK_bk, Z.seqK_ct, Z.told_d, Z.told_own, Z.told_loc, Z.toldK_own, Z.varK_own, Z.varK_d, Z.fix_d, Z.fix_own, Z.fix_loc, Z.fixK_own, Z.fixK_d, Z.celled_own, Z.celled_cell, Z.oB_bl, Z.chK_bl, Z.chainK_int, Z.contK_own, Z.cont_int, Z.cont_str, Z.cont_bl, Z.cont_non, Z.cont_lst, Z.cont_con, Z.cont_tup, Z.cont_dct, Z.cont_obj, Z.cont_cell, Z.cont_own, Z.cont_loc, Z.w_add, Z.addK_int, Z.addK_str, Z.addK_lst, Z.addK_tup, Z.w_sub, Z.w_mulG, Z.mulK_int, Z.mulK_lst, Z.w_mod, Z.w_div, Z.w_pow, Z.w_cmp, Z.w_neg, Z.w_min, Z.w_isi, Z.w_isN_n, Z.w_eq, Z.w_in, Z.w_ix, Z.w_len, Z.lenK_lst, Z.lenK_con, Z.lenK_dct, Z.w_fld, Z.isi_int, Z.isi_bl, Z.isi_str, Z.isi_non, Z.isi_lst, Z.isi_con, Z.isi_tup, Z.isi_dct, Z.isT, Z.w_isN_int, Z.w_isN_tup, Z.flv, ↓Z.e_lc, ↓Z.e_yes, ↓Z.e_itL, Z.x_itL_lst, Z.x_itL_con, ↓Z.e_itS, Z.x_itS, Z.wipe_mk, Z.zwipe_nil, Z.zwipe_cons, Z.w_dict, Z.dictK_dct, Z.w_list, Z.listK_lst, Z.listK_con, Z.listK_dct, Z.w_int_bl, Z.w_int_int, Z.w_sl, Z.slK_lst, Z.slK_con, ↓Z.e_rg1, Z.x_rg1, ↓Z.e_for, Z.x_turn, ↓Z.e_zip, Z.x_zip1, ↓Z.e_en, Z.x_en_lst, Z.w_unp, Z.unp2, Z.unp3, Z.unp4, Z.unp5, Z.setAll_cons, Z.setAll_nil, ↓Z.e_m1s, Z.x_m1s, Z.slK_str, Z.lenK_str, ↓Z.e_m2, Z.x_m2, Z.x_isL, Z.isLK_lst, Z.x_isD, Z.isDK_dct, Z.x_rv, Z.w_b2, Z.b2_append, Z.b2_extend, Z.w_b1, Z.b1_clear, Z.mod_cell, Z.mod_loc, Z.modK_own, ↓Z.e_sf, Z.x_sf1, Z.x_sf2, Z.x_sf3, ↓Z.e_mk, Z.x_mk, Z.x_sto, ↓Z.e_dp, Z.x_dp1, Z.x_dp2, Z.x_dp3, Z.x_dp4, Z.eqK_int, Z.eqK_str, Z.w_ne, Z.neK_nil, Z.neK_dct, Z.eqK_nil, Z.frz_new, Z.Sto.put_same, Z.put_put, Z.new_put, Z.new_get, Z.sfn0, Z.sfn1, Z.sfn2, Z.sfn3, Z.sfn4, Z.sfn5, Z.sfn6, Z.sfn7, Z.sfn8, decide_false, decide_true, Z.Wp_bad, Z.Wp_ok, Z.Wp_ite, List.set_cons_zero, List.set_cons_succ, List.getElem?_cons_zero, List.getElem?_cons_succ, List.cons_append, List.nil_append, List.append_nil, List.isEmpty_nil, List.isEmpty_cons, if_true, if_false, Bool.false_eq_true, true_implies, false_implies, implies_true, reduceCtorEq, Bool.not_true, Bool.not_false, eq_self, and_self, and_true, true_and, mx_names, mx_ties, ln, List.length_map, d1', d2', q1, q2, q3]
        exact h2
    · have d1' := decide_eq_false d1
      unfold deedT2
      simp only [↓Z.e_seq, ↓Z.e_asg, ↓Z.e_st_d, ↓Z.e_st_own, ↓Z.e_st_loc, ↓Z.e_next, ↓Z.e_break, ↓Z.e_cont, ↓Z.e_ifS, ↓Z.e_ret, ↓Z.e_retN, ↓Z.e_drop, ↓Z.e_never, ↓Z.e_c, ↓Z.e_var, ↓Z.e_z1, ↓Z.e_z2, ↓Z.e_via, ↓Z.e_a0, ↓Z.e_a, ↓Z.e_tup, ↓Z.e_lst, ↓Z.e_dnew, ↓Z.e_b, ↓Z.e_and, ↓Z.e_or, ↓Z.e_not, ↓Z.e_andV, ↓Z.e_orV, ↓Z.e_notV, ↓Z.e_if, ↓Z.e_call, ↓Z.e_meth, ↓Z.e_chain, ↓Z.e_no, ↓Z.e_pt, ↓Z.e_sl, Z.x_comp, Z.x_nx, Z.x_asg, Z.x_st, Z.x_if, Z.x_rt, Z.x_ret, Z.x_z2, Z.x_d, Z.x_via, Z.x_cons, Z.x_fix, Z.x_a, Z.x_tup, Z.x_lst, Z.x_ok, Z.x_not, Z.x_notV, Z.x_call, Z.x_self, Z.x_meth2, Z.x_meth1, Z.x_chain2, Z.x_chain1, Z.x_pt, Z.x_sl3, Z.x_sl2, Z.x_sl1, Z.bind_ok, Z.bind_bad, Z.bind_ite, Z.bind_bind, Z.seqK_nx, Z.seqK_rt, Z.seqK_bk, Z.seqK_ct, Z.told_d, Z.told_own, Z.told_loc, Z.toldK_own, Z.varK_own, Z.varK_d, Z.fix_d, Z.fix_own, Z.fix_loc, Z.fixK_own, Z.fixK_d, Z.celled_own, Z.celled_cell, Z.oB_bl, Z.chK_bl, Z.chainK_int, Z.contK_own, Z.cont_int, Z.cont_str, Z.cont_bl, Z.cont_non, Z.cont_lst, Z.cont_con, Z.cont_tup, Z.cont_dct, Z.cont_obj, Z.cont_cell, Z.cont_own, Z.cont_loc, Z.w_add, Z.addK_int, Z.addK_str, Z.addK_lst, Z.addK_tup, Z.w_sub, Z.w_mulG, Z.mulK_int, Z.mulK_lst, Z.w_mod, Z.w_div, Z.w_pow, Z.w_cmp, Z.w_neg, Z.w_min, Z.w_isi, Z.w_isN_n, Z.w_eq, Z.w_in, Z.w_ix, Z.w_len, Z.lenK_lst, Z.lenK_con, Z.lenK_dct, Z.w_fld, Z.isi_int, Z.isi_bl, Z.isi_str, Z.isi_non, Z.isi_lst, Z.isi_con, Z.isi_tup, Z.isi_dct, Z.isT, Z.w_isN_int, Z.w_isN_tup, Z.flv, ↓Z.e_lc, ↓Z.e_yes, ↓Z.e_itL, Z.x_itL_lst, Z.x_itL_con, ↓Z.e_itS, Z.x_itS, Z.wipe_mk, Z.zwipe_nil, Z.zwipe_cons, Z.w_dict, Z.dictK_dct, Z.w_list, Z.listK_lst, Z.listK_con, Z.listK_dct, Z.w_int_bl, Z.w_int_int, Z.w_sl, Z.slK_lst, Z.slK_con, ↓Z.e_rg1, Z.x_rg1, ↓Z.e_for, Z.x_turn, ↓Z.e_zip, Z.x_zip1, ↓Z.e_en, Z.x_en_lst, Z.w_unp, Z.unp2, Z.unp3, Z.unp4, Z.unp5, Z.setAll_cons, Z.setAll_nil, ↓Z.e_m1s, Z.x_m1s, Z.slK_str, Z.lenK_str, ↓Z.e_m2, Z.x_m2, Z.x_isL, Z.isLK_lst, Z.x_isD, Z.isDK_dct, Z.x_rv, Z.w_b2, Z.b2_append, Z.b2_extend, Z.w_b1, Z.b1_clear, Z.mod_cell, Z.mod_loc, Z.modK_own, ↓Z.e_sf, Z.x_sf1, Z.x_sf2, Z.x_sf3, ↓Z.e_mk, Z.x_mk, Z.x_sto, ↓Z.e_dp, Z.x_dp1, Z.x_dp2, Z.x_dp3, Z.x_dp4, Z.eqK_int, Z.eqK_str, Z.w_ne, Z.neK_nil, Z.neK_dct, Z.eqK_nil, Z.frz_new, Z.Sto.put_same, Z.put_put, Z.new_put, Z.new_get, Z.sfn0, Z.sfn1, Z.sfn2, Z.sfn3, Z.sfn4, Z.sfn5, Z.sfn6, Z.sfn7, Z.sfn8, decide_false, decide_true, Z.Wp_bad, Z.Wp_ok, Z.Wp_ite, List.set_cons_zero, List.set_cons_succ, List.getElem?_cons_zero, List.getElem?_cons_succ, List.cons_append, List.nil_append, List.append_nil, List.isEmpty_nil, List.isEmpty_cons, if_true, if_false, Bool.false_eq_true, true_implies, false_implies, implies_true, reduceCtorEq, Bool.not_true, Bool.not_false, eq_self, and_self, and_true, true_and, mx_names, mx_ties, ln, List.length_map, d1', q1, q2, q3]
      exact h2
theorem deed_tail (h6 : Six S n l d m ml md) (hN : NetAt S n l d N) (hM : ModAt S m ml md N) (hG : Good N) (hp : ps.length ≤ 18) (hps : ∀ z ∈ ps, NmOk z) (k0 : 0 ≤ k) (k1 : k ≤ 1000) :
    ∃ S' N', Did S S' n l d m ml md N' ∧ Wp (deedT ⟨[some (.d (.cell n)), some (.d (.cell m)), some (.d (.lst (ps.map .str))), some (.d (.int c)), some (.d (.int k)), some (.d (.int w)), none, none], S⟩) (fun fl s' => flv fl = some (.d (.bl true)) ∧ s'.st = S') XF := by
  obtain ⟨j, j0, j1, e1⟩ := g_draw c k 1 k0 k1 (by decide) (by decide)
  have q1 := hM.m
  have q2 := hM.l
  have q3 := hM.d
  have q4 := hN.n
  have fl := fun (v0 v3 v4 v5 v6 v7 : Option Vl) => free_lc (v0 := v0) (v3 := v3) (v4 := v4) (v5 := v5) (v6 := v6) (v7 := v7) hM hp
  generalize ef : (ps.filter fun z => !decide (z ∈ N.names)) = fs at fl
  have hf : ∀ z ∈ fs, NmOk z ∧ z ∉ N.names := fun z hz => by
    rw [← ef] at hz
    obtain ⟨h1, h2⟩ := List.mem_filter.mp hz
    exact ⟨hps z h1, by simpa using h2⟩
  have fe : (fs.map D.str).isEmpty = fs.isEmpty := by cases fs <;> rfl
  have s6 := h6
  obtain ⟨b1, b2, b3, b4, b5, b6, ⟨a1, a2, a3⟩, ⟨a4, a5, a6⟩, ⟨a7, a8, a9⟩, ⟨a10, a11, a12⟩, ⟨a13, a14, a15⟩⟩ := h6
  by_cases cA : (w < 3 ∨ (N.names.length : Int) < 2) ∧ fs ≠ [] ∧ (N.names.length : Int) < 14
  · obtain ⟨cC, cE, cF⟩ := cA
    have h0 : 0 < fs.length := List.length_pos_iff.mpr cE
    obtain ⟨z, hz, ez, _⟩ := name_at (ns := fs) (i := j % (fs.length : Int)) (Int.emod_nonneg _ (by omega)) (Int.emod_lt_of_pos _ (by omega))
    obtain ⟨z1, z2⟩ := hf z hz
    have e : fs.isEmpty = false := by cases h : fs with | nil => exact absurd h cE | cons a r => rfl
    have r1 := fun s : SD => ixK_ok (s := s) ez
    have p0 : (0 < (fs.length : Int)) = True := eq_true (by omega)
    have g1 : (N.names.length < sizeLine) = True := eq_true (Nat.lt_of_lt_of_le (show N.names.length < 100 by omega) (by decide))
    refine ⟨_, _, place_did (z := z) s6 hN hM (hG.place z1 z2 (by omega)), ?_⟩
    have pt := fun sl x => g_put_place (sl := sl) (w := z) (hN.put (j := ml) (x := x) a2 a5 a8) (al_name z1.1 z1.2.1 z1.2.2) (by have := z1.2.2; omega) z2 (by omega)
    have f1 : ∀ x, (S.put ml x).get n = some (.obj "Net" (netF l d N.given)) := fun x => (Sto.put_ne a2).trans q4
    have dF := decide_eq_true cF
    have ma : ∀ z : Str, (N.names ++ [z]).map D.str = N.names.map D.str ++ [.str z] := fun z => by rw [List.map_append]; rfl
    rw [ma] at pt ⊢
    by_cases c3 : w < 3
    · have dC := decide_eq_true c3
      unfold deedT
      clear cC cE cF hf ef s6 hN hM hG a1 a2 a3 a4 a5 a6 a7 a8 a9 a10 a11 a12 a13 a14 a15 b1 b2 b3 b4 b5 b6 hz ez z1 z2 h0 c3 j0 j1 hp hps k0 k1
      simp only [↓Z.e_seq, ↓Z.e_asg, ↓Z.e_st_d, ↓Z.e_st_own, ↓Z.e_st_loc, ↓Z.e_next, ↓Z.e_break, ↓Z.e_cont, ↓Z.e_ifS, ↓Z.e_ret, ↓Z.e_retN, ↓Z.e_drop, ↓Z.e_never, ↓Z.e_c, ↓Z.e_var, ↓Z.e_z1, ↓Z.e_z2, ↓Z.e_via, ↓Z.e_a0, ↓Z.e_a, ↓Z.e_tup, ↓Z.e_lst, ↓Z.e_dnew, ↓Z.e_b, ↓Z.e_and, ↓Z.e_or, ↓Z.e_not, ↓Z.e_andV, ↓Z.e_orV, ↓Z.e_notV, ↓Z.e_if, ↓Z.e_call, ↓Z.e_meth, ↓Z.e_chain, ↓Z.e_no, ↓Z.e_pt, ↓Z.e_sl, Z.x_comp, Z.x_nx, Z.x_asg, Z.x_st, Z.x_if, Z.x_rt, Z.x_ret, Z.x_z2, Z.x_d, Z.x_via, Z.x_cons, Z.x_fix, Z.x_a, Z.x_tup, Z.x_lst, Z.x_ok, Z.x_not, Z.x_notV, Z.x_call, Z.x_self, Z.x_meth2, Z.x_meth1, Z.x_chain2, Z.x_chain1, Z.x_pt, Z.x_sl3, Z.x_sl2, Z.x_sl1, Z.bind_ok, Z.bind_bad, Z.bind_ite, Z.bind_bind, Z.seqK_nx, Z.seqK_rt, Z.seqK_bk, Z.seqK_ct, Z.told_d, Z.told_own, Z.told_loc, Z.toldK_own, Z.varK_own, Z.varK_d, Z.fix_d, Z.fix_own, Z.fix_loc, Z.fixK_own, Z.fixK_d, Z.celled_own, Z.celled_cell, Z.oB_bl, Z.chK_bl, Z.chainK_int, Z.contK_own, Z.cont_int, Z.cont_str, Z.cont_bl, Z.cont_non, Z.cont_lst, Z.cont_con, Z.cont_tup, Z.cont_dct, Z.cont_obj, Z.cont_cell, Z.cont_own, Z.cont_loc, Z.w_add, Z.addK_int, Z.addK_str, Z.addK_lst, Z.addK_tup, Z.w_sub, Z.w_mulG, Z.mulK_int, Z.mulK_lst, Z.w_mod, Z.w_div, Z.w_pow, Z.w_cmp, Z.w_neg, Z.w_min, Z.w_isi, Z.w_isN_n, Z.w_eq, Z.w_in, Z.w_ix, Z.w_len, Z.lenK_lst, Z.lenK_con, Z.lenK_dct, Z.w_fld, Z.isi_int, Z.isi_bl, Z.isi_str, Z.isi_non, Z.isi_lst, Z.isi_con, Z.isi_tup, Z.isi_dct, Z.isT, Z.w_isN_int, Z.w_isN_tup, Z.flv, ↓Z.e_lc, ↓Z.e_yes, ↓Z.e_itL, Z.x_itL_lst, Z.x_itL_con, ↓Z.e_itS, Z.x_itS, Z.wipe_mk, Z.zwipe_nil, Z.zwipe_cons, Z.w_dict, Z.dictK_dct, Z.w_list, Z.listK_lst, Z.listK_con, Z.listK_dct, Z.w_int_bl, Z.w_int_int, Z.w_sl, Z.slK_lst, Z.slK_con, ↓Z.e_rg1, Z.x_rg1, ↓Z.e_for, Z.x_turn, ↓Z.e_zip, Z.x_zip1, ↓Z.e_en, Z.x_en_lst, Z.w_unp, Z.unp2, Z.unp3, Z.unp4, Z.unp5, Z.setAll_cons, Z.setAll_nil, ↓Z.e_m1s, Z.x_m1s, Z.slK_str, Z.lenK_str, ↓Z.e_m2, Z.x_m2, Z.x_isL, Z.isLK_lst, Z.x_isD, Z.isDK_dct, Z.x_rv, Z.w_b2, Z.b2_append, Z.b2_extend, Z.w_b1, Z.b1_clear, Z.mod_cell, Z.mod_loc, Z.modK_own, ↓Z.e_sf, Z.x_sf1, Z.x_sf2, Z.x_sf3, ↓Z.e_mk, Z.x_mk, Z.x_sto, ↓Z.e_dp, Z.x_dp1, Z.x_dp2, Z.x_dp3, Z.x_dp4, Z.eqK_int, Z.eqK_str, Z.w_ne, Z.neK_nil, Z.neK_dct, Z.eqK_nil, Z.frz_new, Z.Sto.put_same, Z.put_put, Z.new_put, Z.new_get, Z.sfn0, Z.sfn1, Z.sfn2, Z.sfn3, Z.sfn4, Z.sfn5, Z.sfn6, Z.sfn7, Z.sfn8, decide_false, decide_true, Z.Wp_bad, Z.Wp_ok, Z.Wp_ite, List.set_cons_zero, List.set_cons_succ, List.getElem?_cons_zero, List.getElem?_cons_succ, List.cons_append, List.nil_append, List.append_nil, List.isEmpty_nil, List.isEmpty_cons, if_true, if_false, Bool.false_eq_true, true_implies, false_implies, implies_true, reduceCtorEq, Bool.not_true, Bool.not_false, eq_self, and_self, and_true, true_and, mx_names, mx_ties, isn_non, Z.methK_obj T.mN_put_place, List.length_map, *]
    · have dC := decide_eq_false c3
      have dD := decide_eq_true (cC.resolve_left c3)
      unfold deedT
      clear cC cE cF hf ef s6 hN hM hG a1 a2 a3 a4 a5 a6 a7 a8 a9 a10 a11 a12 a13 a14 a15 b1 b2 b3 b4 b5 b6 hz ez z1 z2 h0 c3 j0 j1 hp hps k0 k1
      simp only [↓Z.e_seq, ↓Z.e_asg, ↓Z.e_st_d, ↓Z.e_st_own, ↓Z.e_st_loc, ↓Z.e_next, ↓Z.e_break, ↓Z.e_cont, ↓Z.e_ifS, ↓Z.e_ret, ↓Z.e_retN, ↓Z.e_drop, ↓Z.e_never, ↓Z.e_c, ↓Z.e_var, ↓Z.e_z1, ↓Z.e_z2, ↓Z.e_via, ↓Z.e_a0, ↓Z.e_a, ↓Z.e_tup, ↓Z.e_lst, ↓Z.e_dnew, ↓Z.e_b, ↓Z.e_and, ↓Z.e_or, ↓Z.e_not, ↓Z.e_andV, ↓Z.e_orV, ↓Z.e_notV, ↓Z.e_if, ↓Z.e_call, ↓Z.e_meth, ↓Z.e_chain, ↓Z.e_no, ↓Z.e_pt, ↓Z.e_sl, Z.x_comp, Z.x_nx, Z.x_asg, Z.x_st, Z.x_if, Z.x_rt, Z.x_ret, Z.x_z2, Z.x_d, Z.x_via, Z.x_cons, Z.x_fix, Z.x_a, Z.x_tup, Z.x_lst, Z.x_ok, Z.x_not, Z.x_notV, Z.x_call, Z.x_self, Z.x_meth2, Z.x_meth1, Z.x_chain2, Z.x_chain1, Z.x_pt, Z.x_sl3, Z.x_sl2, Z.x_sl1, Z.bind_ok, Z.bind_bad, Z.bind_ite, Z.bind_bind, Z.seqK_nx, Z.seqK_rt, Z.seqK_bk, Z.seqK_ct, Z.told_d, Z.told_own, Z.told_loc, Z.toldK_own, Z.varK_own, Z.varK_d, Z.fix_d, Z.fix_own, Z.fix_loc, Z.fixK_own, Z.fixK_d, Z.celled_own, Z.celled_cell, Z.oB_bl, Z.chK_bl, Z.chainK_int, Z.contK_own, Z.cont_int, Z.cont_str, Z.cont_bl, Z.cont_non, Z.cont_lst, Z.cont_con, Z.cont_tup, Z.cont_dct, Z.cont_obj, Z.cont_cell, Z.cont_own, Z.cont_loc, Z.w_add, Z.addK_int, Z.addK_str, Z.addK_lst, Z.addK_tup, Z.w_sub, Z.w_mulG, Z.mulK_int, Z.mulK_lst, Z.w_mod, Z.w_div, Z.w_pow, Z.w_cmp, Z.w_neg, Z.w_min, Z.w_isi, Z.w_isN_n, Z.w_eq, Z.w_in, Z.w_ix, Z.w_len, Z.lenK_lst, Z.lenK_con, Z.lenK_dct, Z.w_fld, Z.isi_int, Z.isi_bl, Z.isi_str, Z.isi_non, Z.isi_lst, Z.isi_con, Z.isi_tup, Z.isi_dct, Z.isT, Z.w_isN_int, Z.w_isN_tup, Z.flv, ↓Z.e_lc, ↓Z.e_yes, ↓Z.e_itL, Z.x_itL_lst, Z.x_itL_con, ↓Z.e_itS, Z.x_itS, Z.wipe_mk, Z.zwipe_nil, Z.zwipe_cons, Z.w_dict, Z.dictK_dct, Z.w_list, Z.listK_lst, Z.listK_con, Z.listK_dct, Z.w_int_bl, Z.w_int_int, Z.w_sl, Z.slK_lst, Z.slK_con, ↓Z.e_rg1, Z.x_rg1, ↓Z.e_for, Z.x_turn, ↓Z.e_zip, Z.x_zip1, ↓Z.e_en, Z.x_en_lst, Z.w_unp, Z.unp2, Z.unp3, Z.unp4, Z.unp5, Z.setAll_cons, Z.setAll_nil, ↓Z.e_m1s, Z.x_m1s, Z.slK_str, Z.lenK_str, ↓Z.e_m2, Z.x_m2, Z.x_isL, Z.isLK_lst, Z.x_isD, Z.isDK_dct, Z.x_rv, Z.w_b2, Z.b2_append, Z.b2_extend, Z.w_b1, Z.b1_clear, Z.mod_cell, Z.mod_loc, Z.modK_own, ↓Z.e_sf, Z.x_sf1, Z.x_sf2, Z.x_sf3, ↓Z.e_mk, Z.x_mk, Z.x_sto, ↓Z.e_dp, Z.x_dp1, Z.x_dp2, Z.x_dp3, Z.x_dp4, Z.eqK_int, Z.eqK_str, Z.w_ne, Z.neK_nil, Z.neK_dct, Z.eqK_nil, Z.frz_new, Z.Sto.put_same, Z.put_put, Z.new_put, Z.new_get, Z.sfn0, Z.sfn1, Z.sfn2, Z.sfn3, Z.sfn4, Z.sfn5, Z.sfn6, Z.sfn7, Z.sfn8, decide_false, decide_true, Z.Wp_bad, Z.Wp_ok, Z.Wp_ite, List.set_cons_zero, List.set_cons_succ, List.getElem?_cons_zero, List.getElem?_cons_succ, List.cons_append, List.nil_append, List.append_nil, List.isEmpty_nil, List.isEmpty_cons, if_true, if_false, Bool.false_eq_true, true_implies, false_implies, implies_true, reduceCtorEq, Bool.not_true, Bool.not_false, eq_self, and_self, and_true, true_and, mx_names, mx_ties, isn_non, Z.methK_obj T.mN_put_place, List.length_map, *]
  · obtain ⟨S', N', h1, h2⟩ := deed2 (c := c) (w := w) (v2 := some (.d (.lst (ps.map .str)))) (v6 := some (.own (.lst (fs.map .str)))) (v7 := none) s6 hN hM hG k0 k1
    refine ⟨S', N', h1, ?_⟩
    have fin : ∀ (C D : Bool), decide (w < 3) = C → decide ((N.names.length : Int) < 2) = D → ∀ E F : Bool, fs.isEmpty = E → decide ((N.names.length : Int) < 14) = F → ((C || D) && (!E && F)) = false →
        Wp (deedT ⟨[some (.d (.cell n)), some (.d (.cell m)), some (.d (.lst (ps.map .str))), some (.d (.int c)), some (.d (.int k)), some (.d (.int w)), none, none], S⟩) (fun fl s' => flv fl = some (.d (.bl true)) ∧ s'.st = S') XF := by
      intro C D hC hD E F hE hF hh
      clear cA hf ef s6 hN hM hG a1 a2 a3 a4 a5 a6 a7 a8 a9 a10 a11 a12 a13 a14 a15 b1 b2 b3 b4 b5 b6 j0 j1 hp hps k0 k1 h1
      unfold deedT
      cases C <;> cases D <;> cases E <;> cases F <;> first | exact absurd hh (by decide) | (simp only [↓Z.e_seq, ↓Z.e_asg, ↓Z.e_st_d, ↓Z.e_st_own, ↓Z.e_st_loc, ↓Z.e_next, ↓Z.e_break, ↓Z.e_cont, ↓Z.e_ifS, ↓Z.e_ret, ↓Z.e_retN, ↓Z.e_drop, ↓Z.e_never, ↓Z.e_c, ↓Z.e_var, ↓Z.e_z1, ↓Z.e_z2, ↓Z.e_via, ↓Z.e_a0, ↓Z.e_a, ↓Z.e_tup, ↓Z.e_lst, ↓Z.e_dnew, ↓Z.e_b, ↓Z.e_and, ↓Z.e_or, ↓Z.e_not, ↓Z.e_andV, ↓Z.e_orV, ↓Z.e_notV, ↓Z.e_if, ↓Z.e_call, ↓Z.e_meth, ↓Z.e_chain, ↓Z.e_no, ↓Z.e_pt, ↓Z.e_sl, Z.x_comp, Z.x_nx, Z.x_asg, Z.x_st, Z.x_if, Z.x_rt, Z.x_ret, Z.x_z2, Z.x_d, Z.x_via, Z.x_cons, Z.x_fix, Z.x_a, Z.x_tup, Z.x_lst, Z.x_ok, Z.x_not, Z.x_notV, Z.x_call, Z.x_self, Z.x_meth2, Z.x_meth1, Z.x_chain2, Z.x_chain1, Z.x_pt, Z.x_sl3, Z.x_sl2, Z.x_sl1, Z.bind_ok, Z.bind_bad, Z.bind_ite, Z.bind_bind, Z.seqK_nx, Z.seqK_rt, Z.seqK_bk, Z.seqK_ct, Z.told_d, Z.told_own, Z.told_loc, Z.toldK_own, Z.varK_own, Z.varK_d, Z.fix_d, Z.fix_own, Z.fix_loc, Z.fixK_own, Z.fixK_d, Z.celled_own, Z.celled_cell, Z.oB_bl, Z.chK_bl, Z.chainK_int, Z.contK_own, Z.cont_int, Z.cont_str, Z.cont_bl, Z.cont_non, Z.cont_lst, Z.cont_con, Z.cont_tup, Z.cont_dct, Z.cont_obj, Z.cont_cell, Z.cont_own, Z.cont_loc, Z.w_add, Z.addK_int, Z.addK_str, Z.addK_lst, Z.addK_tup, Z.w_sub, Z.w_mulG, Z.mulK_int, Z.mulK_lst, Z.w_mod, Z.w_div, Z.w_pow, Z.w_cmp, Z.w_neg, Z.w_min, Z.w_isi, Z.w_isN_n, Z.w_eq, Z.w_in, Z.w_ix, Z.w_len, Z.lenK_lst, Z.lenK_con, Z.lenK_dct, Z.w_fld, Z.isi_int, Z.isi_bl, Z.isi_str, Z.isi_non, Z.isi_lst, Z.isi_con, Z.isi_tup, Z.isi_dct, Z.isT, Z.w_isN_int, Z.w_isN_tup, Z.flv, ↓Z.e_lc, ↓Z.e_yes, ↓Z.e_itL, Z.x_itL_lst, Z.x_itL_con, ↓Z.e_itS, Z.x_itS, Z.wipe_mk, Z.zwipe_nil, Z.zwipe_cons, Z.w_dict, Z.dictK_dct, Z.w_list, Z.listK_lst, Z.listK_con, Z.listK_dct, Z.w_int_bl, Z.w_int_int, Z.w_sl, Z.slK_lst, Z.slK_con, ↓Z.e_rg1, Z.x_rg1, ↓Z.e_for, Z.x_turn, ↓Z.e_zip, Z.x_zip1, ↓Z.e_en, Z.x_en_lst, Z.w_unp, Z.unp2, Z.unp3, Z.unp4, Z.unp5, Z.setAll_cons, Z.setAll_nil, ↓Z.e_m1s, Z.x_m1s, Z.slK_str, Z.lenK_str, ↓Z.e_m2, Z.x_m2, Z.x_isL, Z.isLK_lst, Z.x_isD, Z.isDK_dct, Z.x_rv, Z.w_b2, Z.b2_append, Z.b2_extend, Z.w_b1, Z.b1_clear, Z.mod_cell, Z.mod_loc, Z.modK_own, ↓Z.e_sf, Z.x_sf1, Z.x_sf2, Z.x_sf3, ↓Z.e_mk, Z.x_mk, Z.x_sto, ↓Z.e_dp, Z.x_dp1, Z.x_dp2, Z.x_dp3, Z.x_dp4, Z.eqK_int, Z.eqK_str, Z.w_ne, Z.neK_nil, Z.neK_dct, Z.eqK_nil, Z.frz_new, Z.Sto.put_same, Z.put_put, Z.new_put, Z.new_get, Z.sfn0, Z.sfn1, Z.sfn2, Z.sfn3, Z.sfn4, Z.sfn5, Z.sfn6, Z.sfn7, Z.sfn8, decide_false, decide_true, Z.Wp_bad, Z.Wp_ok, Z.Wp_ite, List.set_cons_zero, List.set_cons_succ, List.getElem?_cons_zero, List.getElem?_cons_succ, List.cons_append, List.nil_append, List.append_nil, List.isEmpty_nil, List.isEmpty_cons, if_true, if_false, Bool.false_eq_true, true_implies, false_implies, implies_true, reduceCtorEq, Bool.not_true, Bool.not_false, eq_self, and_self, and_true, true_and, mx_names, mx_ties, List.length_map, *]; first | exact h2 | skip)
    refine fin _ _ rfl rfl _ _ rfl rfl ?_
    cases hC : decide (w < 3) <;> cases hD : decide ((N.names.length : Int) < 2) <;> cases hE : fs.isEmpty <;> cases hF : decide ((N.names.length : Int) < 14) <;> try rfl
    all_goals (refine (cA ⟨?_, ⟨fun e => (by rw [e] at hE; cases hE), of_decide_eq_true hF⟩⟩).elim; first | exact .inl (of_decide_eq_true hC) | exact .inr (of_decide_eq_true hD))
theorem g_Ldeed (h6 : Six S n l d m ml md) (hN : NetAt S n l d N) (hM : ModAt S m ml md N) (hG : Good N) (h0 : ps ≠ []) (hp : ps.length ≤ 18) (hps : ∀ z ∈ ps, NmOk z) (k0 : 0 ≤ k) (k1 : k ≤ 1000) :
    ∃ S' N', Did S S' n l d m ml md N' ∧ ∀ sl, goF v_Ldeed [.cell n, .cell m, .lst (ps.map .str), .int c, .int k] ⟨sl, S⟩ = .ok (.d (.bl true)) ⟨sl, S'⟩ := by
  obtain ⟨j, j0, j1, e1⟩ := g_draw c k 0 k0 k1 (by decide) (by decide)
  obtain ⟨z, hz, ez, _⟩ := name_at (ns := ps) (i := 0) (by decide) (by have := List.length_pos_iff.mpr h0; omega)
  have r1 := fun s : SD => ixK_ok (s := s) ez
  have z1 : (z.length ≤ sizeLine) = True := eq_true (Nat.le_trans (hps z hz).2.2 (by decide))
  have q1 := hM.m
  have q2 := hM.l
  have z8 : ((0 : Int) < 10) = True := by simp
  have go : ∀ w : Int, (∀ (S' : Sto), Wp (deedT ⟨[some (.d (.cell n)), some (.d (.cell m)), some (.d (.lst (ps.map .str))), some (.d (.int c)), some (.d (.int k)), some (.d (.int w)), none, none], S⟩) (fun fl s' => flv fl = some (.d (.bl true)) ∧ s'.st = S') XF →
      Wp (b_Ldeed ⟨[some (.d (.cell n)), some (.d (.cell m)), some (.d (.lst (ps.map .str))), some (.d (.int c)), some (.d (.int k)), none, none, none], S⟩) (fun fl s' => flv fl = some (.d (.bl true)) ∧ s'.st = S') XF) →
      ∃ S' N', Did S S' n l d m ml md N' ∧ ∀ sl, goF v_Ldeed [.cell n, .cell m, .lst (ps.map .str), .int c, .int k] ⟨sl, S⟩ = .ok (.d (.bl true)) ⟨sl, S'⟩ := fun w h => by
    obtain ⟨S', N', h1, h2⟩ := deed_tail (c := c) (w := w) h6 hN hM hG hp hps k0 k1
    exact ⟨S', N', h1, fun sl => go_e (h S' h2)⟩
  by_cases c1 : (z.length : Int) = 5
  · have d1 := decide_eq_true c1
    by_cases c2 : (N.names.length : Int) > 2
    · have d2 := decide_eq_true c2
      refine go 5 fun S' h => ?_
      rw [deed_eq]
      simp only [↓Z.e_seq, ↓Z.e_asg, ↓Z.e_st_d, ↓Z.e_st_own, ↓Z.e_st_loc, ↓Z.e_next, ↓Z.e_break, ↓Z.e_cont, ↓Z.e_ifS, ↓Z.e_ret, ↓Z.e_retN, ↓Z.e_drop, ↓Z.e_never, ↓Z.e_c, ↓Z.e_var, ↓Z.e_z1, ↓Z.e_z2, ↓Z.e_via, ↓Z.e_a0, ↓Z.e_a, ↓Z.e_tup, ↓Z.e_lst, ↓Z.e_dnew, ↓Z.e_b, ↓Z.e_and, ↓Z.e_or, ↓Z.e_not, ↓Z.e_andV, ↓Z.e_orV, ↓Z.e_notV, ↓Z.e_if, ↓Z.e_call, ↓Z.e_meth, ↓Z.e_chain, ↓Z.e_no, ↓Z.e_pt, ↓Z.e_sl, Z.x_comp, Z.x_nx, Z.x_asg, Z.x_st, Z.x_if, Z.x_rt, Z.x_ret, Z.x_z2, Z.x_d, Z.x_via, Z.x_cons, Z.x_fix, Z.x_a, Z.x_tup, Z.x_lst, Z.x_ok, Z.x_not, Z.x_notV, Z.x_call, Z.x_self, Z.x_meth2, Z.x_meth1, Z.x_chain2, Z.x_chain1, Z.x_pt, Z.x_sl3, Z.x_sl2, Z.x_sl1, Z.bind_ok, Z.bind_bad, Z.bind_ite, Z.bind_bind, Z.seqK_nx, Z.seqK_rt, Z.seqK_bk, Z.seqK_ct, Z.told_d, Z.told_own, Z.told_loc, Z.toldK_own, Z.varK_own, Z.varK_d, Z.fix_d, Z.fix_own, Z.fix_loc, Z.fixK_own, Z.fixK_d, Z.celled_own, Z.celled_cell, Z.oB_bl, Z.chK_bl, Z.chainK_int, Z.contK_own, Z.cont_int, Z.cont_str, Z.cont_bl, Z.cont_non, Z.cont_lst, Z.cont_con, Z.cont_tup, Z.cont_dct, Z.cont_obj, Z.cont_cell, Z.cont_own, Z.cont_loc, Z.w_add, Z.addK_int, Z.addK_str, Z.addK_lst, Z.addK_tup, Z.w_sub, Z.w_mulG, Z.mulK_int, Z.mulK_lst, Z.w_mod, Z.w_div, Z.w_pow, Z.w_cmp, Z.w_neg, Z.w_min, Z.w_isi, Z.w_isN_n, Z.w_eq, Z.w_in, Z.w_ix, Z.w_len, Z.lenK_lst, Z.lenK_con, Z.lenK_dct, Z.w_fld, Z.isi_int, Z.isi_bl, Z.isi_str, Z.isi_non, Z.isi_lst, Z.isi_con, Z.isi_tup, Z.isi_dct, Z.isT, Z.w_isN_int, Z.w_isN_tup, Z.flv, ↓Z.e_lc, ↓Z.e_yes, ↓Z.e_itL, Z.x_itL_lst, Z.x_itL_con, ↓Z.e_itS, Z.x_itS, Z.wipe_mk, Z.zwipe_nil, Z.zwipe_cons, Z.w_dict, Z.dictK_dct, Z.w_list, Z.listK_lst, Z.listK_con, Z.listK_dct, Z.w_int_bl, Z.w_int_int, Z.w_sl, Z.slK_lst, Z.slK_con, ↓Z.e_rg1, Z.x_rg1, ↓Z.e_for, Z.x_turn, ↓Z.e_zip, Z.x_zip1, ↓Z.e_en, Z.x_en_lst, Z.w_unp, Z.unp2, Z.unp3, Z.unp4, Z.unp5, Z.setAll_cons, Z.setAll_nil, ↓Z.e_m1s, Z.x_m1s, Z.slK_str, Z.lenK_str, ↓Z.e_m2, Z.x_m2, Z.x_isL, Z.isLK_lst, Z.x_isD, Z.isDK_dct, Z.x_rv, Z.w_b2, Z.b2_append, Z.b2_extend, Z.w_b1, Z.b1_clear, Z.mod_cell, Z.mod_loc, Z.modK_own, ↓Z.e_sf, Z.x_sf1, Z.x_sf2, Z.x_sf3, ↓Z.e_mk, Z.x_mk, Z.x_sto, ↓Z.e_dp, Z.x_dp1, Z.x_dp2, Z.x_dp3, Z.x_dp4, Z.eqK_int, Z.eqK_str, Z.w_ne, Z.neK_nil, Z.neK_dct, Z.eqK_nil, Z.frz_new, Z.Sto.put_same, Z.put_put, Z.new_put, Z.new_get, Z.sfn0, Z.sfn1, Z.sfn2, Z.sfn3, Z.sfn4, Z.sfn5, Z.sfn6, Z.sfn7, Z.sfn8, decide_false, decide_true, Z.Wp_bad, Z.Wp_ok, Z.Wp_ite, List.set_cons_zero, List.set_cons_succ, List.getElem?_cons_zero, List.getElem?_cons_succ, List.cons_append, List.nil_append, List.append_nil, List.isEmpty_nil, List.isEmpty_cons, if_true, if_false, Bool.false_eq_true, true_implies, false_implies, implies_true, reduceCtorEq, Bool.not_true, Bool.not_false, eq_self, and_self, and_true, true_and, mx_names, List.length_map, e1, r1, z1, z8, q1, q2, d1, d2]
      exact h
    · have d2 := decide_eq_false c2
      refine go (j % 10) fun S' h => ?_
      rw [deed_eq]
      simp only [↓Z.e_seq, ↓Z.e_asg, ↓Z.e_st_d, ↓Z.e_st_own, ↓Z.e_st_loc, ↓Z.e_next, ↓Z.e_break, ↓Z.e_cont, ↓Z.e_ifS, ↓Z.e_ret, ↓Z.e_retN, ↓Z.e_drop, ↓Z.e_never, ↓Z.e_c, ↓Z.e_var, ↓Z.e_z1, ↓Z.e_z2, ↓Z.e_via, ↓Z.e_a0, ↓Z.e_a, ↓Z.e_tup, ↓Z.e_lst, ↓Z.e_dnew, ↓Z.e_b, ↓Z.e_and, ↓Z.e_or, ↓Z.e_not, ↓Z.e_andV, ↓Z.e_orV, ↓Z.e_notV, ↓Z.e_if, ↓Z.e_call, ↓Z.e_meth, ↓Z.e_chain, ↓Z.e_no, ↓Z.e_pt, ↓Z.e_sl, Z.x_comp, Z.x_nx, Z.x_asg, Z.x_st, Z.x_if, Z.x_rt, Z.x_ret, Z.x_z2, Z.x_d, Z.x_via, Z.x_cons, Z.x_fix, Z.x_a, Z.x_tup, Z.x_lst, Z.x_ok, Z.x_not, Z.x_notV, Z.x_call, Z.x_self, Z.x_meth2, Z.x_meth1, Z.x_chain2, Z.x_chain1, Z.x_pt, Z.x_sl3, Z.x_sl2, Z.x_sl1, Z.bind_ok, Z.bind_bad, Z.bind_ite, Z.bind_bind, Z.seqK_nx, Z.seqK_rt, Z.seqK_bk, Z.seqK_ct, Z.told_d, Z.told_own, Z.told_loc, Z.toldK_own, Z.varK_own, Z.varK_d, Z.fix_d, Z.fix_own, Z.fix_loc, Z.fixK_own, Z.fixK_d, Z.celled_own, Z.celled_cell, Z.oB_bl, Z.chK_bl, Z.chainK_int, Z.contK_own, Z.cont_int, Z.cont_str, Z.cont_bl, Z.cont_non, Z.cont_lst, Z.cont_con, Z.cont_tup, Z.cont_dct, Z.cont_obj, Z.cont_cell, Z.cont_own, Z.cont_loc, Z.w_add, Z.addK_int, Z.addK_str, Z.addK_lst, Z.addK_tup, Z.w_sub, Z.w_mulG, Z.mulK_int, Z.mulK_lst, Z.w_mod, Z.w_div, Z.w_pow, Z.w_cmp, Z.w_neg, Z.w_min, Z.w_isi, Z.w_isN_n, Z.w_eq, Z.w_in, Z.w_ix, Z.w_len, Z.lenK_lst, Z.lenK_con, Z.lenK_dct, Z.w_fld, Z.isi_int, Z.isi_bl, Z.isi_str, Z.isi_non, Z.isi_lst, Z.isi_con, Z.isi_tup, Z.isi_dct, Z.isT, Z.w_isN_int, Z.w_isN_tup, Z.flv, ↓Z.e_lc, ↓Z.e_yes, ↓Z.e_itL, Z.x_itL_lst, Z.x_itL_con, ↓Z.e_itS, Z.x_itS, Z.wipe_mk, Z.zwipe_nil, Z.zwipe_cons, Z.w_dict, Z.dictK_dct, Z.w_list, Z.listK_lst, Z.listK_con, Z.listK_dct, Z.w_int_bl, Z.w_int_int, Z.w_sl, Z.slK_lst, Z.slK_con, ↓Z.e_rg1, Z.x_rg1, ↓Z.e_for, Z.x_turn, ↓Z.e_zip, Z.x_zip1, ↓Z.e_en, Z.x_en_lst, Z.w_unp, Z.unp2, Z.unp3, Z.unp4, Z.unp5, Z.setAll_cons, Z.setAll_nil, ↓Z.e_m1s, Z.x_m1s, Z.slK_str, Z.lenK_str, ↓Z.e_m2, Z.x_m2, Z.x_isL, Z.isLK_lst, Z.x_isD, Z.isDK_dct, Z.x_rv, Z.w_b2, Z.b2_append, Z.b2_extend, Z.w_b1, Z.b1_clear, Z.mod_cell, Z.mod_loc, Z.modK_own, ↓Z.e_sf, Z.x_sf1, Z.x_sf2, Z.x_sf3, ↓Z.e_mk, Z.x_mk, Z.x_sto, ↓Z.e_dp, Z.x_dp1, Z.x_dp2, Z.x_dp3, Z.x_dp4, Z.eqK_int, Z.eqK_str, Z.w_ne, Z.neK_nil, Z.neK_dct, Z.eqK_nil, Z.frz_new, Z.Sto.put_same, Z.put_put, Z.new_put, Z.new_get, Z.sfn0, Z.sfn1, Z.sfn2, Z.sfn3, Z.sfn4, Z.sfn5, Z.sfn6, Z.sfn7, Z.sfn8, decide_false, decide_true, Z.Wp_bad, Z.Wp_ok, Z.Wp_ite, List.set_cons_zero, List.set_cons_succ, List.getElem?_cons_zero, List.getElem?_cons_succ, List.cons_append, List.nil_append, List.append_nil, List.isEmpty_nil, List.isEmpty_cons, if_true, if_false, Bool.false_eq_true, true_implies, false_implies, implies_true, reduceCtorEq, Bool.not_true, Bool.not_false, eq_self, and_self, and_true, true_and, mx_names, List.length_map, e1, r1, z1, z8, q1, q2, d1, d2]
      exact h
  · have d1 := decide_eq_false c1
    refine go (j % 10) fun S' h => ?_
    rw [deed_eq]
    simp only [↓Z.e_seq, ↓Z.e_asg, ↓Z.e_st_d, ↓Z.e_st_own, ↓Z.e_st_loc, ↓Z.e_next, ↓Z.e_break, ↓Z.e_cont, ↓Z.e_ifS, ↓Z.e_ret, ↓Z.e_retN, ↓Z.e_drop, ↓Z.e_never, ↓Z.e_c, ↓Z.e_var, ↓Z.e_z1, ↓Z.e_z2, ↓Z.e_via, ↓Z.e_a0, ↓Z.e_a, ↓Z.e_tup, ↓Z.e_lst, ↓Z.e_dnew, ↓Z.e_b, ↓Z.e_and, ↓Z.e_or, ↓Z.e_not, ↓Z.e_andV, ↓Z.e_orV, ↓Z.e_notV, ↓Z.e_if, ↓Z.e_call, ↓Z.e_meth, ↓Z.e_chain, ↓Z.e_no, ↓Z.e_pt, ↓Z.e_sl, Z.x_comp, Z.x_nx, Z.x_asg, Z.x_st, Z.x_if, Z.x_rt, Z.x_ret, Z.x_z2, Z.x_d, Z.x_via, Z.x_cons, Z.x_fix, Z.x_a, Z.x_tup, Z.x_lst, Z.x_ok, Z.x_not, Z.x_notV, Z.x_call, Z.x_self, Z.x_meth2, Z.x_meth1, Z.x_chain2, Z.x_chain1, Z.x_pt, Z.x_sl3, Z.x_sl2, Z.x_sl1, Z.bind_ok, Z.bind_bad, Z.bind_ite, Z.bind_bind, Z.seqK_nx, Z.seqK_rt, Z.seqK_bk, Z.seqK_ct, Z.told_d, Z.told_own, Z.told_loc, Z.toldK_own, Z.varK_own, Z.varK_d, Z.fix_d, Z.fix_own, Z.fix_loc, Z.fixK_own, Z.fixK_d, Z.celled_own, Z.celled_cell, Z.oB_bl, Z.chK_bl, Z.chainK_int, Z.contK_own, Z.cont_int, Z.cont_str, Z.cont_bl, Z.cont_non, Z.cont_lst, Z.cont_con, Z.cont_tup, Z.cont_dct, Z.cont_obj, Z.cont_cell, Z.cont_own, Z.cont_loc, Z.w_add, Z.addK_int, Z.addK_str, Z.addK_lst, Z.addK_tup, Z.w_sub, Z.w_mulG, Z.mulK_int, Z.mulK_lst, Z.w_mod, Z.w_div, Z.w_pow, Z.w_cmp, Z.w_neg, Z.w_min, Z.w_isi, Z.w_isN_n, Z.w_eq, Z.w_in, Z.w_ix, Z.w_len, Z.lenK_lst, Z.lenK_con, Z.lenK_dct, Z.w_fld, Z.isi_int, Z.isi_bl, Z.isi_str, Z.isi_non, Z.isi_lst, Z.isi_con, Z.isi_tup, Z.isi_dct, Z.isT, Z.w_isN_int, Z.w_isN_tup, Z.flv, ↓Z.e_lc, ↓Z.e_yes, ↓Z.e_itL, Z.x_itL_lst, Z.x_itL_con, ↓Z.e_itS, Z.x_itS, Z.wipe_mk, Z.zwipe_nil, Z.zwipe_cons, Z.w_dict, Z.dictK_dct, Z.w_list, Z.listK_lst, Z.listK_con, Z.listK_dct, Z.w_int_bl, Z.w_int_int, Z.w_sl, Z.slK_lst, Z.slK_con, ↓Z.e_rg1, Z.x_rg1, ↓Z.e_for, Z.x_turn, ↓Z.e_zip, Z.x_zip1, ↓Z.e_en, Z.x_en_lst, Z.w_unp, Z.unp2, Z.unp3, Z.unp4, Z.unp5, Z.setAll_cons, Z.setAll_nil, ↓Z.e_m1s, Z.x_m1s, Z.slK_str, Z.lenK_str, ↓Z.e_m2, Z.x_m2, Z.x_isL, Z.isLK_lst, Z.x_isD, Z.isDK_dct, Z.x_rv, Z.w_b2, Z.b2_append, Z.b2_extend, Z.w_b1, Z.b1_clear, Z.mod_cell, Z.mod_loc, Z.modK_own, ↓Z.e_sf, Z.x_sf1, Z.x_sf2, Z.x_sf3, ↓Z.e_mk, Z.x_mk, Z.x_sto, ↓Z.e_dp, Z.x_dp1, Z.x_dp2, Z.x_dp3, Z.x_dp4, Z.eqK_int, Z.eqK_str, Z.w_ne, Z.neK_nil, Z.neK_dct, Z.eqK_nil, Z.frz_new, Z.Sto.put_same, Z.put_put, Z.new_put, Z.new_get, Z.sfn0, Z.sfn1, Z.sfn2, Z.sfn3, Z.sfn4, Z.sfn5, Z.sfn6, Z.sfn7, Z.sfn8, decide_false, decide_true, Z.Wp_bad, Z.Wp_ok, Z.Wp_ite, List.set_cons_zero, List.set_cons_succ, List.getElem?_cons_zero, List.getElem?_cons_succ, List.cons_append, List.nil_append, List.append_nil, List.isEmpty_nil, List.isEmpty_cons, if_true, if_false, Bool.false_eq_true, true_implies, false_implies, implies_true, reduceCtorEq, Bool.not_true, Bool.not_false, eq_self, and_self, and_true, true_and, mx_names, List.length_map, e1, r1, z1, z8, q1, q2, d1]
    exact h
end
end T

namespace T
open PySem PySem.Spec PyProof.Rows L2 M Z A
open Classical
section
noncomputable def askW : SD → R Fl := (zAsg (z2 oMod (z2 oAdd (zVar 2) (z2 oMul (zVar 5) (z2 oIx (zLst (zA (zC (.int 1)) (zA (zC (.int 3)) zA0))) (z2 oMod (z2 oDiv (zVar 2) (zC (.int 4))) (zC (.int 2)))))) (zC (.int 4))) (zSt 6))
noncomputable def ask0 : SD → R Fl := (zIfS (zB (z2 oEq (zVar 6) (zC (.int 0)))) (zSeq (zAsg (zMeth "Net" "places" v_Net_places [] (zVar 0) zA0) (zSt 7)) (zSeq (zIfS (zOr (zNot (zB (z1 (oIsi .list) (zVar 7)))) (zB (z2 oNe (zVar 7) (z2 oIx (zVar 1) (zC (.str "names")))))) (zRet (zC (.bl false))) zNext) (zDrop (zM2 isL (oB2 fAppend) (zVar 7) (zFix (zC (.str "more"))))))) zNext)
noncomputable def ask1 : SD → R Fl := (zIfS (zB (z2 oEq (zVar 6) (zC (.int 1)))) (zSeq (zAsg (zCell (zMeth "Net" "ties" v_Net_ties [] (zVar 0) zA0)) (zSt 7)) (zSeq (zIfS (zOr (zNot (zB (z1 (oIsi .list) (zVar 7)))) (zB (z2 oNe (zLc (zItL (zFix (zVar 7))) (zSt 9) zYes (zCall v_Lrow [] (zA (zVar 9) zA0)) [9]) (zVar 4)))) (zRet (zC (.bl false))) zNext) (zSeq (zDrop (zM2 isL (oB2 fExtend) (zVar 3) (zFix (zSl (zLc (zZip (zVar 7) (zVar 4)) (zUnp [9, 8]) zYes (zTup (zA (zVar 9) (zA (zVar 8) zA0))) [9, 8]) zNo (zPt (zC (.int 3))))))) (zDrop (z1 (oB1 fClear) (zVar 7)))))) zNext)
noncomputable def ask2 : SD → R Fl := (zIfS (zAnd (zB (z2 oEq (zVar 6) (zC (.int 2)))) (zNot (zB (zCall v_Lwhole [] (zA (zMeth "Net" "given" v_Net_given [] (zVar 0) zA0) (zA (z2 oIx (zVar 1) (zC (.str "given"))) zA0)))))) (zRet (zC (.bl false))) zNext)
noncomputable def ask3 : SD → R Fl := (zIfS (zAnd (zB (z2 oEq (zVar 6) (zC (.int 3)))) (zB (z2 oNe (zVar 4) (zLst zA0)))) (zSeq (zAsg (z2 oIx (zVar 4) (z2 oMod (z2 oDiv (zVar 2) (zC (.int 8))) (z1 oLen (zVar 4)))) (zSt 8)) (zSeq (zAsg (zMeth "Net" "tie_of" v_Net_tie_of [] (zVar 0) (zA (z2 oIx (zVar 8) (zC (.int 0))) zA0)) (zSt 9)) (zSeq (zIfS (zB (z2 oNe (zCall v_Lrow [] (zA (zVar 9) zA0)) (zVar 8))) (zRet (zC (.bl false))) zNext) (zDrop (zM2 isL (oB2 fAppend) (zVar 3) (zFix (zTup (zA (zVar 9) (zA (zVar 8) zA0))))))))) zNext)
theorem asked_eq : b_Lasked = zSeq (zAsg (zFix (zCall v_Lrows [] (zA (zVar 1) zA0))) (zSt 4)) (zSeq (zFor (zRg1 (zA (zC (.int 4)) zA0)) (zSt 5) (zSeq askW (zSeq ask0 (zSeq ask1 (zSeq ask2 ask3))))) (zRet (zC (.bl true)))) := rfl
variable {s : SD} {S S' : Sto} {sl : List (Option Vl)} {x y z : D} {n l d m ml md h : Nat} {N : ND} {g i c k w u : Int} {t : TD} {a b : D} {q : Int × TD} {hs hs' : List (Int × TD)}
def pairD (q : Int × TD) : D := .tup [tieD q, row6 q]
/-- the cells of a net, its model and what is held -/
structure AW (S : Sto) (n l d m ml md h : Nat) (N : ND) (hs : List (Int × TD)) : Prop where
  six : Six S n l d m ml md
  net : NetAt S n l d N
  mod : ModAt S m ml md N
  good : Good N
  hb : h < S.nx
  hn : h ≠ n ∧ h ≠ l ∧ h ≠ d ∧ h ≠ m ∧ h ≠ ml ∧ h ≠ md
  held : S.get h = some (.lst (hs.map pairD))
  al : ∀ q ∈ hs, Al q.2.tail ∧ Al q.2.head
structure Ask (S S' : Sto) (h : Nat) : Prop where
  nx : S.nx ≤ S'.nx
  fr : ∀ i, i < S.nx → i ≠ h → S'.get i = S.get i
theorem Ask.refl : Ask S S h := ⟨Nat.le_refl _, fun _ _ _ => rfl⟩
theorem Ask.trans {S''  : Sto} (a : Ask S S' h) (b : Ask S' S'' h) : Ask S S'' h := ⟨Nat.le_trans a.nx b.nx, fun i h1 h2 => (b.fr i (Nat.lt_of_lt_of_le h1 a.nx) h2).trans (a.fr i h1 h2)⟩
theorem AW.go (A : AW S n l d m ml md h N hs) (k : Ask S S' h) (e : S'.get h = some (.lst ((hs ++ hs').map pairD))) (ha : ∀ q ∈ hs', Al q.2.tail ∧ Al q.2.head) : AW S' n l d m ml md h N (hs ++ hs') := by
  obtain ⟨⟨b1, b2, b3, b4, b5, b6, a1, a2, a3, a4, a5⟩, ⟨n1, n2, n3⟩, ⟨m1, m2, m3⟩, hG, hb, ⟨c1, c2, c3, c4, c5, c6⟩, hh, hal⟩ := A
  have nx := k.nx
  refine ⟨⟨by omega, by omega, by omega, by omega, by omega, by omega, a1, a2, a3, a4, a5⟩, ⟨?_, ?_, ?_⟩, ⟨?_, ?_, ?_⟩, hG, by omega, ⟨c1, c2, c3, c4, c5, c6⟩, e, fun q hq => (List.mem_append.mp hq).elim (hal q) (ha q)⟩
  · rw [k.fr _ b1 (Ne.symm c1)]; exact n1
  · rw [k.fr _ b2 (Ne.symm c2)]; exact n2
  · rw [k.fr _ b3 (Ne.symm c3)]; exact n3
  · rw [k.fr _ b4 (Ne.symm c4)]; exact m1
  · rw [k.fr _ b5 (Ne.symm c5)]; exact m2
  · rw [k.fr _ b6 (Ne.symm c6)]; exact m3
variable {v5 v7 v8 v9 : Option Vl}
abbrev askSt (n m h : Nat) (w : Int) (N : ND) (v5 v6 v7 v8 v9 : Option Vl) (S : Sto) : SD := ⟨[some (.d (.cell n)), some (.d (.cell m)), some (.d (.int w)), some (.d (.cell h)), some (.d (.lst (N.ties.map row6))), v5, v6, v7, v8, v9], S⟩
theorem ask0_ok (A : AW S n l d m ml md h N hs) : Wp (ask0 (askSt n m h w N v5 (some (.d (.int u))) v7 v8 v9 S)) (fun fl s' => fl = .nx ∧ ∃ v7', s' = askSt n m h w N v5 (some (.d (.int u))) v7' v8 v9 S) XF := by
  have q1 := A.net.n
  have q2 := A.mod.m
  have q3 := A.mod.l
  have k1 := fun sl => g_places (sl := sl) A.net
  have e1 := fun s : SD => neK_lst (s := s) (eq_names A.good.al.1)
  have g1 : ((N.names.map D.str).length < sizeLine) = True := eq_true (by rw [List.length_map]; exact Nat.lt_of_le_of_lt A.good.nl (by decide))
  unfold ask0
  by_cases c1 : u = 0
  · have d1 := decide_eq_true c1
    clear A c1
    simp only [↓Z.e_seq, ↓Z.e_asg, ↓Z.e_st_d, ↓Z.e_st_own, ↓Z.e_st_loc, ↓Z.e_next, ↓Z.e_break, ↓Z.e_cont, ↓Z.e_ifS, ↓Z.e_ret, ↓Z.e_retN, ↓Z.e_drop, ↓Z.e_never, ↓Z.e_c, ↓Z.e_var, ↓Z.e_z1, ↓Z.e_z2, ↓Z.e_via, ↓Z.e_a0, ↓Z.e_a, ↓Z.e_tup, ↓Z.e_lst, ↓Z.e_dnew, ↓Z.e_b, ↓Z.e_and, ↓Z.e_or, ↓Z.e_not, ↓Z.e_andV, ↓Z.e_orV, ↓Z.e_notV, ↓Z.e_if, ↓Z.e_call, ↓Z.e_meth, ↓Z.e_chain, ↓Z.e_no, ↓Z.e_pt, ↓Z.e_sl, Z.x_comp, Z.x_nx, Z.x_asg, Z.x_st, Z.x_if, Z.x_rt, Z.x_ret, Z.x_z2, Z.x_d, Z.x_via, Z.x_cons, Z.x_fix, Z.x_a, Z.x_tup, Z.x_lst, Z.x_ok, Z.x_not, Z.x_notV, Z.x_call, Z.x_self, Z.x_meth2, Z.x_meth1, Z.x_chain2, Z.x_chain1, Z.x_pt, Z.x_sl3, Z.x_sl2, Z.x_sl1, Z.bind_ok, Z.bind_bad, Z.bind_ite, Z.bind_bind, Z.seqK_nx, Z.seqK_rt, Z.seqK_bk, Z.seqK_ct, Z.told_d, Z.told_own, Z.told_loc, Z.toldK_own, Z.varK_own, Z.varK_d, Z.fix_d, Z.fix_own, Z.fix_loc, Z.fixK_own, Z.fixK_d, Z.celled_own, Z.celled_cell, Z.oB_bl, Z.chK_bl, Z.chainK_int, Z.contK_own, Z.cont_int, Z.cont_str, Z.cont_bl, Z.cont_non, Z.cont_lst, Z.cont_con, Z.cont_tup, Z.cont_dct, Z.cont_obj, Z.cont_cell, Z.cont_own, Z.cont_loc, Z.w_add, Z.addK_int, Z.addK_str, Z.addK_lst, Z.addK_tup, Z.w_sub, Z.w_mulG, Z.mulK_int, Z.mulK_lst, Z.w_mod, Z.w_div, Z.w_pow, Z.w_cmp, Z.w_neg, Z.w_min, Z.w_isi, Z.w_isN_n, Z.w_eq, Z.w_in, Z.w_ix, Z.w_len, Z.lenK_lst, Z.lenK_con, Z.lenK_dct, Z.w_fld, Z.isi_int, Z.isi_bl, Z.isi_str, Z.isi_non, Z.isi_lst, Z.isi_con, Z.isi_tup, Z.isi_dct, Z.isT, Z.w_isN_int, Z.w_isN_tup, Z.flv, ↓Z.e_lc, ↓Z.e_yes, ↓Z.e_itL, Z.x_itL_lst, Z.x_itL_con, ↓Z.e_itS, Z.x_itS, Z.wipe_mk, Z.zwipe_nil, Z.zwipe_cons, Z.w_dict, Z.dictK_dct, Z.w_list, Z.listK_lst, Z.listK_con, Z.listK_dct, Z.w_int_bl, Z.w_int_int, Z.w_sl, Z.slK_lst, Z.slK_con, ↓Z.e_rg1, Z.x_rg1, ↓Z.e_for, Z.x_turn, ↓Z.e_zip, Z.x_zip1, ↓Z.e_en, Z.x_en_lst, Z.w_unp, Z.unp2, Z.unp3, Z.unp4, Z.unp5, Z.setAll_cons, Z.setAll_nil, ↓Z.e_m1s, Z.x_m1s, Z.slK_str, Z.lenK_str, ↓Z.e_m2, Z.x_m2, Z.x_isL, Z.isLK_lst, Z.x_isD, Z.isDK_dct, Z.x_rv, Z.w_b2, Z.b2_append, Z.b2_extend, Z.w_b1, Z.b1_clear, Z.mod_cell, Z.mod_loc, Z.modK_own, ↓Z.e_sf, Z.x_sf1, Z.x_sf2, Z.x_sf3, ↓Z.e_mk, Z.x_mk, Z.x_sto, ↓Z.e_dp, Z.x_dp1, Z.x_dp2, Z.x_dp3, Z.x_dp4, Z.eqK_int, Z.eqK_str, Z.w_ne, Z.neK_nil, Z.neK_dct, Z.eqK_nil, Z.frz_new, Z.Sto.put_same, Z.put_put, Z.new_put, Z.new_get, Z.sfn0, Z.sfn1, Z.sfn2, Z.sfn3, Z.sfn4, Z.sfn5, Z.sfn6, Z.sfn7, Z.sfn8, decide_false, decide_true, Z.Wp_bad, Z.Wp_ok, Z.Wp_ite, List.set_cons_zero, List.set_cons_succ, List.getElem?_cons_zero, List.getElem?_cons_succ, List.cons_append, List.nil_append, List.append_nil, List.isEmpty_nil, List.isEmpty_cons, if_true, if_false, Bool.false_eq_true, true_implies, false_implies, implies_true, reduceCtorEq, Bool.not_true, Bool.not_false, eq_self, and_self, and_true, true_and, mx_names, Z.methK_obj T.mN_places, *]
    exact ⟨_, rfl⟩
  · have d1 := decide_eq_false c1
    clear A c1
    simp only [↓Z.e_seq, ↓Z.e_asg, ↓Z.e_st_d, ↓Z.e_st_own, ↓Z.e_st_loc, ↓Z.e_next, ↓Z.e_break, ↓Z.e_cont, ↓Z.e_ifS, ↓Z.e_ret, ↓Z.e_retN, ↓Z.e_drop, ↓Z.e_never, ↓Z.e_c, ↓Z.e_var, ↓Z.e_z1, ↓Z.e_z2, ↓Z.e_via, ↓Z.e_a0, ↓Z.e_a, ↓Z.e_tup, ↓Z.e_lst, ↓Z.e_dnew, ↓Z.e_b, ↓Z.e_and, ↓Z.e_or, ↓Z.e_not, ↓Z.e_andV, ↓Z.e_orV, ↓Z.e_notV, ↓Z.e_if, ↓Z.e_call, ↓Z.e_meth, ↓Z.e_chain, ↓Z.e_no, ↓Z.e_pt, ↓Z.e_sl, Z.x_comp, Z.x_nx, Z.x_asg, Z.x_st, Z.x_if, Z.x_rt, Z.x_ret, Z.x_z2, Z.x_d, Z.x_via, Z.x_cons, Z.x_fix, Z.x_a, Z.x_tup, Z.x_lst, Z.x_ok, Z.x_not, Z.x_notV, Z.x_call, Z.x_self, Z.x_meth2, Z.x_meth1, Z.x_chain2, Z.x_chain1, Z.x_pt, Z.x_sl3, Z.x_sl2, Z.x_sl1, Z.bind_ok, Z.bind_bad, Z.bind_ite, Z.bind_bind, Z.seqK_nx, Z.seqK_rt, Z.seqK_bk, Z.seqK_ct, Z.told_d, Z.told_own, Z.told_loc, Z.toldK_own, Z.varK_own, Z.varK_d, Z.fix_d, Z.fix_own, Z.fix_loc, Z.fixK_own, Z.fixK_d, Z.celled_own, Z.celled_cell, Z.oB_bl, Z.chK_bl, Z.chainK_int, Z.contK_own, Z.cont_int, Z.cont_str, Z.cont_bl, Z.cont_non, Z.cont_lst, Z.cont_con, Z.cont_tup, Z.cont_dct, Z.cont_obj, Z.cont_cell, Z.cont_own, Z.cont_loc, Z.w_add, Z.addK_int, Z.addK_str, Z.addK_lst, Z.addK_tup, Z.w_sub, Z.w_mulG, Z.mulK_int, Z.mulK_lst, Z.w_mod, Z.w_div, Z.w_pow, Z.w_cmp, Z.w_neg, Z.w_min, Z.w_isi, Z.w_isN_n, Z.w_eq, Z.w_in, Z.w_ix, Z.w_len, Z.lenK_lst, Z.lenK_con, Z.lenK_dct, Z.w_fld, Z.isi_int, Z.isi_bl, Z.isi_str, Z.isi_non, Z.isi_lst, Z.isi_con, Z.isi_tup, Z.isi_dct, Z.isT, Z.w_isN_int, Z.w_isN_tup, Z.flv, ↓Z.e_lc, ↓Z.e_yes, ↓Z.e_itL, Z.x_itL_lst, Z.x_itL_con, ↓Z.e_itS, Z.x_itS, Z.wipe_mk, Z.zwipe_nil, Z.zwipe_cons, Z.w_dict, Z.dictK_dct, Z.w_list, Z.listK_lst, Z.listK_con, Z.listK_dct, Z.w_int_bl, Z.w_int_int, Z.w_sl, Z.slK_lst, Z.slK_con, ↓Z.e_rg1, Z.x_rg1, ↓Z.e_for, Z.x_turn, ↓Z.e_zip, Z.x_zip1, ↓Z.e_en, Z.x_en_lst, Z.w_unp, Z.unp2, Z.unp3, Z.unp4, Z.unp5, Z.setAll_cons, Z.setAll_nil, ↓Z.e_m1s, Z.x_m1s, Z.slK_str, Z.lenK_str, ↓Z.e_m2, Z.x_m2, Z.x_isL, Z.isLK_lst, Z.x_isD, Z.isDK_dct, Z.x_rv, Z.w_b2, Z.b2_append, Z.b2_extend, Z.w_b1, Z.b1_clear, Z.mod_cell, Z.mod_loc, Z.modK_own, ↓Z.e_sf, Z.x_sf1, Z.x_sf2, Z.x_sf3, ↓Z.e_mk, Z.x_mk, Z.x_sto, ↓Z.e_dp, Z.x_dp1, Z.x_dp2, Z.x_dp3, Z.x_dp4, Z.eqK_int, Z.eqK_str, Z.w_ne, Z.neK_nil, Z.neK_dct, Z.eqK_nil, Z.frz_new, Z.Sto.put_same, Z.put_put, Z.new_put, Z.new_get, Z.sfn0, Z.sfn1, Z.sfn2, Z.sfn3, Z.sfn4, Z.sfn5, Z.sfn6, Z.sfn7, Z.sfn8, decide_false, decide_true, Z.Wp_bad, Z.Wp_ok, Z.Wp_ite, List.set_cons_zero, List.set_cons_succ, List.getElem?_cons_zero, List.getElem?_cons_succ, List.cons_append, List.nil_append, List.append_nil, List.isEmpty_nil, List.isEmpty_cons, if_true, if_false, Bool.false_eq_true, true_implies, false_implies, implies_true, reduceCtorEq, Bool.not_true, Bool.not_false, eq_self, and_self, and_true, true_and, *]
    exact ⟨_, rfl⟩
theorem ask2_ok (A : AW S n l d m ml md h N hs) : Wp (ask2 (askSt n m h w N v5 (some (.d (.int u))) v7 v8 v9 S)) (fun fl s' => fl = .nx ∧ s' = askSt n m h w N v5 (some (.d (.int u))) v7 v8 v9 S) XF := by
  have q1 := A.net.n
  have q2 := A.mod.m
  have k1 := fun sl => g_given (sl := sl) A.net
  have k2 := fun (s : SD) i => g_whole (s := s) i
  unfold ask2
  by_cases c1 : u = 2
  · have d1 := decide_eq_true c1
    clear A c1
    simp only [↓Z.e_seq, ↓Z.e_asg, ↓Z.e_st_d, ↓Z.e_st_own, ↓Z.e_st_loc, ↓Z.e_next, ↓Z.e_break, ↓Z.e_cont, ↓Z.e_ifS, ↓Z.e_ret, ↓Z.e_retN, ↓Z.e_drop, ↓Z.e_never, ↓Z.e_c, ↓Z.e_var, ↓Z.e_z1, ↓Z.e_z2, ↓Z.e_via, ↓Z.e_a0, ↓Z.e_a, ↓Z.e_tup, ↓Z.e_lst, ↓Z.e_dnew, ↓Z.e_b, ↓Z.e_and, ↓Z.e_or, ↓Z.e_not, ↓Z.e_andV, ↓Z.e_orV, ↓Z.e_notV, ↓Z.e_if, ↓Z.e_call, ↓Z.e_meth, ↓Z.e_chain, ↓Z.e_no, ↓Z.e_pt, ↓Z.e_sl, Z.x_comp, Z.x_nx, Z.x_asg, Z.x_st, Z.x_if, Z.x_rt, Z.x_ret, Z.x_z2, Z.x_d, Z.x_via, Z.x_cons, Z.x_fix, Z.x_a, Z.x_tup, Z.x_lst, Z.x_ok, Z.x_not, Z.x_notV, Z.x_call, Z.x_self, Z.x_meth2, Z.x_meth1, Z.x_chain2, Z.x_chain1, Z.x_pt, Z.x_sl3, Z.x_sl2, Z.x_sl1, Z.bind_ok, Z.bind_bad, Z.bind_ite, Z.bind_bind, Z.seqK_nx, Z.seqK_rt, Z.seqK_bk, Z.seqK_ct, Z.told_d, Z.told_own, Z.told_loc, Z.toldK_own, Z.varK_own, Z.varK_d, Z.fix_d, Z.fix_own, Z.fix_loc, Z.fixK_own, Z.fixK_d, Z.celled_own, Z.celled_cell, Z.oB_bl, Z.chK_bl, Z.chainK_int, Z.contK_own, Z.cont_int, Z.cont_str, Z.cont_bl, Z.cont_non, Z.cont_lst, Z.cont_con, Z.cont_tup, Z.cont_dct, Z.cont_obj, Z.cont_cell, Z.cont_own, Z.cont_loc, Z.w_add, Z.addK_int, Z.addK_str, Z.addK_lst, Z.addK_tup, Z.w_sub, Z.w_mulG, Z.mulK_int, Z.mulK_lst, Z.w_mod, Z.w_div, Z.w_pow, Z.w_cmp, Z.w_neg, Z.w_min, Z.w_isi, Z.w_isN_n, Z.w_eq, Z.w_in, Z.w_ix, Z.w_len, Z.lenK_lst, Z.lenK_con, Z.lenK_dct, Z.w_fld, Z.isi_int, Z.isi_bl, Z.isi_str, Z.isi_non, Z.isi_lst, Z.isi_con, Z.isi_tup, Z.isi_dct, Z.isT, Z.w_isN_int, Z.w_isN_tup, Z.flv, ↓Z.e_lc, ↓Z.e_yes, ↓Z.e_itL, Z.x_itL_lst, Z.x_itL_con, ↓Z.e_itS, Z.x_itS, Z.wipe_mk, Z.zwipe_nil, Z.zwipe_cons, Z.w_dict, Z.dictK_dct, Z.w_list, Z.listK_lst, Z.listK_con, Z.listK_dct, Z.w_int_bl, Z.w_int_int, Z.w_sl, Z.slK_lst, Z.slK_con, ↓Z.e_rg1, Z.x_rg1, ↓Z.e_for, Z.x_turn, ↓Z.e_zip, Z.x_zip1, ↓Z.e_en, Z.x_en_lst, Z.w_unp, Z.unp2, Z.unp3, Z.unp4, Z.unp5, Z.setAll_cons, Z.setAll_nil, ↓Z.e_m1s, Z.x_m1s, Z.slK_str, Z.lenK_str, ↓Z.e_m2, Z.x_m2, Z.x_isL, Z.isLK_lst, Z.x_isD, Z.isDK_dct, Z.x_rv, Z.w_b2, Z.b2_append, Z.b2_extend, Z.w_b1, Z.b1_clear, Z.mod_cell, Z.mod_loc, Z.modK_own, ↓Z.e_sf, Z.x_sf1, Z.x_sf2, Z.x_sf3, ↓Z.e_mk, Z.x_mk, Z.x_sto, ↓Z.e_dp, Z.x_dp1, Z.x_dp2, Z.x_dp3, Z.x_dp4, Z.eqK_int, Z.eqK_str, Z.w_ne, Z.neK_nil, Z.neK_dct, Z.eqK_nil, Z.frz_new, Z.Sto.put_same, Z.put_put, Z.new_put, Z.new_get, Z.sfn0, Z.sfn1, Z.sfn2, Z.sfn3, Z.sfn4, Z.sfn5, Z.sfn6, Z.sfn7, Z.sfn8, decide_false, decide_true, Z.Wp_bad, Z.Wp_ok, Z.Wp_ite, List.set_cons_zero, List.set_cons_succ, List.getElem?_cons_zero, List.getElem?_cons_succ, List.cons_append, List.nil_append, List.append_nil, List.isEmpty_nil, List.isEmpty_cons, if_true, if_false, Bool.false_eq_true, true_implies, false_implies, implies_true, reduceCtorEq, Bool.not_true, Bool.not_false, eq_self, and_self, and_true, true_and, mx_given, Z.methK_obj T.mN_given, *]
  · have d1 := decide_eq_false c1
    clear A c1
    simp only [↓Z.e_seq, ↓Z.e_asg, ↓Z.e_st_d, ↓Z.e_st_own, ↓Z.e_st_loc, ↓Z.e_next, ↓Z.e_break, ↓Z.e_cont, ↓Z.e_ifS, ↓Z.e_ret, ↓Z.e_retN, ↓Z.e_drop, ↓Z.e_never, ↓Z.e_c, ↓Z.e_var, ↓Z.e_z1, ↓Z.e_z2, ↓Z.e_via, ↓Z.e_a0, ↓Z.e_a, ↓Z.e_tup, ↓Z.e_lst, ↓Z.e_dnew, ↓Z.e_b, ↓Z.e_and, ↓Z.e_or, ↓Z.e_not, ↓Z.e_andV, ↓Z.e_orV, ↓Z.e_notV, ↓Z.e_if, ↓Z.e_call, ↓Z.e_meth, ↓Z.e_chain, ↓Z.e_no, ↓Z.e_pt, ↓Z.e_sl, Z.x_comp, Z.x_nx, Z.x_asg, Z.x_st, Z.x_if, Z.x_rt, Z.x_ret, Z.x_z2, Z.x_d, Z.x_via, Z.x_cons, Z.x_fix, Z.x_a, Z.x_tup, Z.x_lst, Z.x_ok, Z.x_not, Z.x_notV, Z.x_call, Z.x_self, Z.x_meth2, Z.x_meth1, Z.x_chain2, Z.x_chain1, Z.x_pt, Z.x_sl3, Z.x_sl2, Z.x_sl1, Z.bind_ok, Z.bind_bad, Z.bind_ite, Z.bind_bind, Z.seqK_nx, Z.seqK_rt, Z.seqK_bk, Z.seqK_ct, Z.told_d, Z.told_own, Z.told_loc, Z.toldK_own, Z.varK_own, Z.varK_d, Z.fix_d, Z.fix_own, Z.fix_loc, Z.fixK_own, Z.fixK_d, Z.celled_own, Z.celled_cell, Z.oB_bl, Z.chK_bl, Z.chainK_int, Z.contK_own, Z.cont_int, Z.cont_str, Z.cont_bl, Z.cont_non, Z.cont_lst, Z.cont_con, Z.cont_tup, Z.cont_dct, Z.cont_obj, Z.cont_cell, Z.cont_own, Z.cont_loc, Z.w_add, Z.addK_int, Z.addK_str, Z.addK_lst, Z.addK_tup, Z.w_sub, Z.w_mulG, Z.mulK_int, Z.mulK_lst, Z.w_mod, Z.w_div, Z.w_pow, Z.w_cmp, Z.w_neg, Z.w_min, Z.w_isi, Z.w_isN_n, Z.w_eq, Z.w_in, Z.w_ix, Z.w_len, Z.lenK_lst, Z.lenK_con, Z.lenK_dct, Z.w_fld, Z.isi_int, Z.isi_bl, Z.isi_str, Z.isi_non, Z.isi_lst, Z.isi_con, Z.isi_tup, Z.isi_dct, Z.isT, Z.w_isN_int, Z.w_isN_tup, Z.flv, ↓Z.e_lc, ↓Z.e_yes, ↓Z.e_itL, Z.x_itL_lst, Z.x_itL_con, ↓Z.e_itS, Z.x_itS, Z.wipe_mk, Z.zwipe_nil, Z.zwipe_cons, Z.w_dict, Z.dictK_dct, Z.w_list, Z.listK_lst, Z.listK_con, Z.listK_dct, Z.w_int_bl, Z.w_int_int, Z.w_sl, Z.slK_lst, Z.slK_con, ↓Z.e_rg1, Z.x_rg1, ↓Z.e_for, Z.x_turn, ↓Z.e_zip, Z.x_zip1, ↓Z.e_en, Z.x_en_lst, Z.w_unp, Z.unp2, Z.unp3, Z.unp4, Z.unp5, Z.setAll_cons, Z.setAll_nil, ↓Z.e_m1s, Z.x_m1s, Z.slK_str, Z.lenK_str, ↓Z.e_m2, Z.x_m2, Z.x_isL, Z.isLK_lst, Z.x_isD, Z.isDK_dct, Z.x_rv, Z.w_b2, Z.b2_append, Z.b2_extend, Z.w_b1, Z.b1_clear, Z.mod_cell, Z.mod_loc, Z.modK_own, ↓Z.e_sf, Z.x_sf1, Z.x_sf2, Z.x_sf3, ↓Z.e_mk, Z.x_mk, Z.x_sto, ↓Z.e_dp, Z.x_dp1, Z.x_dp2, Z.x_dp3, Z.x_dp4, Z.eqK_int, Z.eqK_str, Z.w_ne, Z.neK_nil, Z.neK_dct, Z.eqK_nil, Z.frz_new, Z.Sto.put_same, Z.put_put, Z.new_put, Z.new_get, Z.sfn0, Z.sfn1, Z.sfn2, Z.sfn3, Z.sfn4, Z.sfn5, Z.sfn6, Z.sfn7, Z.sfn8, decide_false, decide_true, Z.Wp_bad, Z.Wp_ok, Z.Wp_ite, List.set_cons_zero, List.set_cons_succ, List.getElem?_cons_zero, List.getElem?_cons_succ, List.cons_append, List.nil_append, List.append_nil, List.isEmpty_nil, List.isEmpty_cons, if_true, if_false, Bool.false_eq_true, true_implies, false_implies, implies_true, reduceCtorEq, Bool.not_true, Bool.not_false, eq_self, and_self, and_true, true_and, *]
theorem zips_map : ∀ ts : List (Int × TD), zips (ts.map tieD) (ts.map row6) = ts.map fun q => .tup [tieD q, row6 q]
  | [] => rfl
  | q :: ts => by rw [List.map_cons, List.map_cons, zips, zips_map ts, List.map_cons]
theorem ask3_ok (A : AW S n l d m ml md h N hs) (hl : hs.length ≤ 100000) : Wp (ask3 (askSt n m h w N v5 (some (.d (.int u))) v7 v8 v9 S)) (fun fl s' => fl = .nx ∧ ∃ v8' v9' S' hs', s' = askSt n m h w N v5 (some (.d (.int u))) v7 v8' v9' S' ∧ Ask S S' h ∧ hs'.length ≤ 3 ∧ AW S' n l d m ml md h N (hs ++ hs')) XF := by
  have q1 := A.net.n
  have q5 := A.held
  have ne : (N.ties.map row6).isEmpty = N.ties.isEmpty := by cases N.ties <;> rfl
  by_cases c1 : u = 3
  · have d1 := decide_eq_true c1
    by_cases c2 : N.ties = []
    · have e : N.ties.isEmpty = true := by rw [c2]; rfl
      have fin : AW S n l d m ml md h N (hs ++ []) := by rw [List.append_nil]; exact A
      unfold ask3
      clear A c1 c2 q1 q5 hl
      simp only [↓Z.e_seq, ↓Z.e_asg, ↓Z.e_st_d, ↓Z.e_st_own, ↓Z.e_st_loc, ↓Z.e_next, ↓Z.e_break, ↓Z.e_cont, ↓Z.e_ifS, ↓Z.e_ret, ↓Z.e_retN, ↓Z.e_drop, ↓Z.e_never, ↓Z.e_c, ↓Z.e_var, ↓Z.e_z1, ↓Z.e_z2, ↓Z.e_via, ↓Z.e_a0, ↓Z.e_a, ↓Z.e_tup, ↓Z.e_lst, ↓Z.e_dnew, ↓Z.e_b, ↓Z.e_and, ↓Z.e_or, ↓Z.e_not, ↓Z.e_andV, ↓Z.e_orV, ↓Z.e_notV, ↓Z.e_if, ↓Z.e_call, ↓Z.e_meth, ↓Z.e_chain, ↓Z.e_no, ↓Z.e_pt, ↓Z.e_sl, Z.x_comp, Z.x_nx, Z.x_asg, Z.x_st, Z.x_if, Z.x_rt, Z.x_ret, Z.x_z2, Z.x_d, Z.x_via, Z.x_cons, Z.x_fix, Z.x_a, Z.x_tup, Z.x_lst, Z.x_ok, Z.x_not, Z.x_notV, Z.x_call, Z.x_self, Z.x_meth2, Z.x_meth1, Z.x_chain2, Z.x_chain1, Z.x_pt, Z.x_sl3, Z.x_sl2, Z.x_sl1, Z.bind_ok, Z.bind_bad, Z.bind_ite, Z.bind_bind, Z.seqK_nx, Z.seqK_rt, Z.seqK_bk, Z.seqK_ct, Z.told_d, Z.told_own, Z.told_loc, Z.toldK_own, Z.varK_own, Z.varK_d, Z.fix_d, Z.fix_own, Z.fix_loc, Z.fixK_own, Z.fixK_d, Z.celled_own, Z.celled_cell, Z.oB_bl, Z.chK_bl, Z.chainK_int, Z.contK_own, Z.cont_int, Z.cont_str, Z.cont_bl, Z.cont_non, Z.cont_lst, Z.cont_con, Z.cont_tup, Z.cont_dct, Z.cont_obj, Z.cont_cell, Z.cont_own, Z.cont_loc, Z.w_add, Z.addK_int, Z.addK_str, Z.addK_lst, Z.addK_tup, Z.w_sub, Z.w_mulG, Z.mulK_int, Z.mulK_lst, Z.w_mod, Z.w_div, Z.w_pow, Z.w_cmp, Z.w_neg, Z.w_min, Z.w_isi, Z.w_isN_n, Z.w_eq, Z.w_in, Z.w_ix, Z.w_len, Z.lenK_lst, Z.lenK_con, Z.lenK_dct, Z.w_fld, Z.isi_int, Z.isi_bl, Z.isi_str, Z.isi_non, Z.isi_lst, Z.isi_con, Z.isi_tup, Z.isi_dct, Z.isT, Z.w_isN_int, Z.w_isN_tup, Z.flv, ↓Z.e_lc, ↓Z.e_yes, ↓Z.e_itL, Z.x_itL_lst, Z.x_itL_con, ↓Z.e_itS, Z.x_itS, Z.wipe_mk, Z.zwipe_nil, Z.zwipe_cons, Z.w_dict, Z.dictK_dct, Z.w_list, Z.listK_lst, Z.listK_con, Z.listK_dct, Z.w_int_bl, Z.w_int_int, Z.w_sl, Z.slK_lst, Z.slK_con, ↓Z.e_rg1, Z.x_rg1, ↓Z.e_for, Z.x_turn, ↓Z.e_zip, Z.x_zip1, ↓Z.e_en, Z.x_en_lst, Z.w_unp, Z.unp2, Z.unp3, Z.unp4, Z.unp5, Z.setAll_cons, Z.setAll_nil, ↓Z.e_m1s, Z.x_m1s, Z.slK_str, Z.lenK_str, ↓Z.e_m2, Z.x_m2, Z.x_isL, Z.isLK_lst, Z.x_isD, Z.isDK_dct, Z.x_rv, Z.w_b2, Z.b2_append, Z.b2_extend, Z.w_b1, Z.b1_clear, Z.mod_cell, Z.mod_loc, Z.modK_own, ↓Z.e_sf, Z.x_sf1, Z.x_sf2, Z.x_sf3, ↓Z.e_mk, Z.x_mk, Z.x_sto, ↓Z.e_dp, Z.x_dp1, Z.x_dp2, Z.x_dp3, Z.x_dp4, Z.eqK_int, Z.eqK_str, Z.w_ne, Z.neK_nil, Z.neK_dct, Z.eqK_nil, Z.frz_new, Z.Sto.put_same, Z.put_put, Z.new_put, Z.new_get, Z.sfn0, Z.sfn1, Z.sfn2, Z.sfn3, Z.sfn4, Z.sfn5, Z.sfn6, Z.sfn7, Z.sfn8, decide_false, decide_true, Z.Wp_bad, Z.Wp_ok, Z.Wp_ite, List.set_cons_zero, List.set_cons_succ, List.getElem?_cons_zero, List.getElem?_cons_succ, List.cons_append, List.nil_append, List.append_nil, List.isEmpty_nil, List.isEmpty_cons, if_true, if_false, Bool.false_eq_true, true_implies, false_implies, implies_true, reduceCtorEq, Bool.not_true, Bool.not_false, eq_self, and_self, and_true, true_and, ne, e, d1]
      exact ⟨_, _, _, [], rfl, Ask.refl, by decide, fin⟩
    · have e : N.ties.isEmpty = false := by cases h : N.ties with | nil => exact absurd h c2 | cons a r => rfl
      have h0 : 0 < N.ties.length := List.length_pos_iff.mpr c2
      have e0 := Int.emod_nonneg (w / 8) (show (N.ties.length : Int) ≠ 0 by omega)
      have e1 := Int.emod_lt_of_pos (w / 8) (show 0 < (N.ties.length : Int) by omega)
      have h2 : (w / 8 % (N.ties.length : Int)).toNat < N.ties.length := by omega
      generalize eq : N.ties[(w / 8 % (N.ties.length : Int)).toNat] = q
      have hq : q ∈ N.ties := eq ▸ List.getElem_mem h2
      have ix : dIx (.lst (N.ties.map row6)) (.int (w / 8 % (N.ties.length : Int))) = some (row6 q) := by
        show atI _ _ = _
        rw [atI_in D.non e0 (by rw [List.length_map]; exact e1), List.getD_eq_getElem?_getD, List.getElem?_map, List.getElem?_eq_getElem h2, eq]
        rfl
      have r1 := fun s : SD => ixK_ok (s := s) ix
      have r2 : ∀ s : SD, ixK s (some (row6 q)) (some (.int 0)) = .ok (.d (.int q.1)) s := fun s => ixK_ok rfl
      have r3 : ∀ s : SD, s.cont (.d (row6 q)) = some (row6 q) := fun _ => rfl
      have k1 := fun sl => g_tie_of (sl := sl) A.net (tieOf_mem A.good.rise hq)
      have k2 := fun s : SD => g_row (s := s) q
      have al := A.good.al.2 q hq
      have k3 : ∀ s : SD, neK s (some (row6 q)) (some (row6 q)) = .ok (.d (.bl false)) s := fun s => neK_tup (s := s) (eq_row al.1 al.2)
      have g1 : ((hs.map pairD).length < sizeLine) = True := eq_true (by rw [List.length_map]; exact Nat.lt_of_le_of_lt hl (by decide))
      have p0 : (0 < (N.ties.length : Int)) = True := eq_true (by omega)
      have z3 : ∀ i : Int, CDivW i 8 = True := fun i => eq_true (M.CDivW_small (by decide) (by decide))
      have ak : Ask S (S.put h (.lst (hs.map pairD ++ [.tup [tieD q, row6 q]]))) h := ⟨Nat.le_refl _, fun i _ hi => Sto.put_ne hi⟩
      have fin := A.go (hs' := [q]) ak (by rw [Sto.put_same, List.map_append]; rfl) (fun p hp => by rw [List.mem_singleton.mp hp]; exact al)
      unfold ask3
      clear A c1 c2 hl hq eq ix al h0 e0 e1 h2
      rw [List.length_map] at g1
      simp only [↓Z.e_seq, ↓Z.e_asg, ↓Z.e_st_d, ↓Z.e_st_own, ↓Z.e_st_loc, ↓Z.e_next, ↓Z.e_break, ↓Z.e_cont, ↓Z.e_ifS, ↓Z.e_ret, ↓Z.e_retN, ↓Z.e_drop, ↓Z.e_never, ↓Z.e_c, ↓Z.e_var, ↓Z.e_z1, ↓Z.e_z2, ↓Z.e_via, ↓Z.e_a0, ↓Z.e_a, ↓Z.e_tup, ↓Z.e_lst, ↓Z.e_dnew, ↓Z.e_b, ↓Z.e_and, ↓Z.e_or, ↓Z.e_not, ↓Z.e_andV, ↓Z.e_orV, ↓Z.e_notV, ↓Z.e_if, ↓Z.e_call, ↓Z.e_meth, ↓Z.e_chain, ↓Z.e_no, ↓Z.e_pt, ↓Z.e_sl, Z.x_comp, Z.x_nx, Z.x_asg, Z.x_st, Z.x_if, Z.x_rt, Z.x_ret, Z.x_z2, Z.x_d, Z.x_via, Z.x_cons, Z.x_fix, Z.x_a, Z.x_tup, Z.x_lst, Z.x_ok, Z.x_not, Z.x_notV, Z.x_call, Z.x_self, Z.x_meth2, Z.x_meth1, Z.x_chain2, Z.x_chain1, Z.x_pt, Z.x_sl3, Z.x_sl2, Z.x_sl1, Z.bind_ok, Z.bind_bad, Z.bind_ite, Z.bind_bind, Z.seqK_nx, Z.seqK_rt, Z.seqK_bk, Z.seqK_ct, Z.told_d, Z.told_own, Z.told_loc, Z.toldK_own, Z.varK_own, Z.varK_d, Z.fix_d, Z.fix_own, Z.fix_loc, Z.fixK_own, Z.fixK_d, Z.celled_own, Z.celled_cell, Z.oB_bl, Z.chK_bl, Z.chainK_int, Z.contK_own, Z.cont_int, Z.cont_str, Z.cont_bl, Z.cont_non, Z.cont_lst, Z.cont_con, Z.cont_tup, Z.cont_dct, Z.cont_obj, Z.cont_cell, Z.cont_own, Z.cont_loc, Z.w_add, Z.addK_int, Z.addK_str, Z.addK_lst, Z.addK_tup, Z.w_sub, Z.w_mulG, Z.mulK_int, Z.mulK_lst, Z.w_mod, Z.w_div, Z.w_pow, Z.w_cmp, Z.w_neg, Z.w_min, Z.w_isi, Z.w_isN_n, Z.w_eq, Z.w_in, Z.w_ix, Z.w_len, Z.lenK_lst, Z.lenK_con, Z.lenK_dct, Z.w_fld, Z.isi_int, Z.isi_bl, Z.isi_str, Z.isi_non, Z.isi_lst, Z.isi_con, Z.isi_tup, Z.isi_dct, Z.isT, Z.w_isN_int, Z.w_isN_tup, Z.flv, ↓Z.e_lc, ↓Z.e_yes, ↓Z.e_itL, Z.x_itL_lst, Z.x_itL_con, ↓Z.e_itS, Z.x_itS, Z.wipe_mk, Z.zwipe_nil, Z.zwipe_cons, Z.w_dict, Z.dictK_dct, Z.w_list, Z.listK_lst, Z.listK_con, Z.listK_dct, Z.w_int_bl, Z.w_int_int, Z.w_sl, Z.slK_lst, Z.slK_con, ↓Z.e_rg1, Z.x_rg1, ↓Z.e_for, Z.x_turn, ↓Z.e_zip, Z.x_zip1, ↓Z.e_en, Z.x_en_lst, Z.w_unp, Z.unp2, Z.unp3, Z.unp4, Z.unp5, Z.setAll_cons, Z.setAll_nil, ↓Z.e_m1s, Z.x_m1s, Z.slK_str, Z.lenK_str, ↓Z.e_m2, Z.x_m2, Z.x_isL, Z.isLK_lst, Z.x_isD, Z.isDK_dct, Z.x_rv, Z.w_b2, Z.b2_append, Z.b2_extend, Z.w_b1, Z.b1_clear, Z.mod_cell, Z.mod_loc, Z.modK_own, ↓Z.e_sf, Z.x_sf1, Z.x_sf2, Z.x_sf3, ↓Z.e_mk, Z.x_mk, Z.x_sto, ↓Z.e_dp, Z.x_dp1, Z.x_dp2, Z.x_dp3, Z.x_dp4, Z.eqK_int, Z.eqK_str, Z.w_ne, Z.neK_nil, Z.neK_dct, Z.eqK_nil, Z.frz_new, Z.Sto.put_same, Z.put_put, Z.new_put, Z.new_get, Z.sfn0, Z.sfn1, Z.sfn2, Z.sfn3, Z.sfn4, Z.sfn5, Z.sfn6, Z.sfn7, Z.sfn8, decide_false, decide_true, Z.Wp_bad, Z.Wp_ok, Z.Wp_ite, List.set_cons_zero, List.set_cons_succ, List.getElem?_cons_zero, List.getElem?_cons_succ, List.cons_append, List.nil_append, List.append_nil, List.isEmpty_nil, List.isEmpty_cons, if_true, if_false, Bool.false_eq_true, true_implies, false_implies, implies_true, reduceCtorEq, Bool.not_true, Bool.not_false, eq_self, and_self, and_true, true_and, ne, Z.methK_obj T.mN_tie_of, List.length_map, *]
      exact ⟨_, _, _, [q], rfl, ak, by show 1 ≤ 3; decide, fin⟩
  · have d1 := decide_eq_false c1
    have fin : AW S n l d m ml md h N (hs ++ []) := by rw [List.append_nil]; exact A
    unfold ask3
    clear A c1 q1 q5 hl
    simp only [↓Z.e_seq, ↓Z.e_asg, ↓Z.e_st_d, ↓Z.e_st_own, ↓Z.e_st_loc, ↓Z.e_next, ↓Z.e_break, ↓Z.e_cont, ↓Z.e_ifS, ↓Z.e_ret, ↓Z.e_retN, ↓Z.e_drop, ↓Z.e_never, ↓Z.e_c, ↓Z.e_var, ↓Z.e_z1, ↓Z.e_z2, ↓Z.e_via, ↓Z.e_a0, ↓Z.e_a, ↓Z.e_tup, ↓Z.e_lst, ↓Z.e_dnew, ↓Z.e_b, ↓Z.e_and, ↓Z.e_or, ↓Z.e_not, ↓Z.e_andV, ↓Z.e_orV, ↓Z.e_notV, ↓Z.e_if, ↓Z.e_call, ↓Z.e_meth, ↓Z.e_chain, ↓Z.e_no, ↓Z.e_pt, ↓Z.e_sl, Z.x_comp, Z.x_nx, Z.x_asg, Z.x_st, Z.x_if, Z.x_rt, Z.x_ret, Z.x_z2, Z.x_d, Z.x_via, Z.x_cons, Z.x_fix, Z.x_a, Z.x_tup, Z.x_lst, Z.x_ok, Z.x_not, Z.x_notV, Z.x_call, Z.x_self, Z.x_meth2, Z.x_meth1, Z.x_chain2, Z.x_chain1, Z.x_pt, Z.x_sl3, Z.x_sl2, Z.x_sl1, Z.bind_ok, Z.bind_bad, Z.bind_ite, Z.bind_bind, Z.seqK_nx, Z.seqK_rt, Z.seqK_bk, Z.seqK_ct, Z.told_d, Z.told_own, Z.told_loc, Z.toldK_own, Z.varK_own, Z.varK_d, Z.fix_d, Z.fix_own, Z.fix_loc, Z.fixK_own, Z.fixK_d, Z.celled_own, Z.celled_cell, Z.oB_bl, Z.chK_bl, Z.chainK_int, Z.contK_own, Z.cont_int, Z.cont_str, Z.cont_bl, Z.cont_non, Z.cont_lst, Z.cont_con, Z.cont_tup, Z.cont_dct, Z.cont_obj, Z.cont_cell, Z.cont_own, Z.cont_loc, Z.w_add, Z.addK_int, Z.addK_str, Z.addK_lst, Z.addK_tup, Z.w_sub, Z.w_mulG, Z.mulK_int, Z.mulK_lst, Z.w_mod, Z.w_div, Z.w_pow, Z.w_cmp, Z.w_neg, Z.w_min, Z.w_isi, Z.w_isN_n, Z.w_eq, Z.w_in, Z.w_ix, Z.w_len, Z.lenK_lst, Z.lenK_con, Z.lenK_dct, Z.w_fld, Z.isi_int, Z.isi_bl, Z.isi_str, Z.isi_non, Z.isi_lst, Z.isi_con, Z.isi_tup, Z.isi_dct, Z.isT, Z.w_isN_int, Z.w_isN_tup, Z.flv, ↓Z.e_lc, ↓Z.e_yes, ↓Z.e_itL, Z.x_itL_lst, Z.x_itL_con, ↓Z.e_itS, Z.x_itS, Z.wipe_mk, Z.zwipe_nil, Z.zwipe_cons, Z.w_dict, Z.dictK_dct, Z.w_list, Z.listK_lst, Z.listK_con, Z.listK_dct, Z.w_int_bl, Z.w_int_int, Z.w_sl, Z.slK_lst, Z.slK_con, ↓Z.e_rg1, Z.x_rg1, ↓Z.e_for, Z.x_turn, ↓Z.e_zip, Z.x_zip1, ↓Z.e_en, Z.x_en_lst, Z.w_unp, Z.unp2, Z.unp3, Z.unp4, Z.unp5, Z.setAll_cons, Z.setAll_nil, ↓Z.e_m1s, Z.x_m1s, Z.slK_str, Z.lenK_str, ↓Z.e_m2, Z.x_m2, Z.x_isL, Z.isLK_lst, Z.x_isD, Z.isDK_dct, Z.x_rv, Z.w_b2, Z.b2_append, Z.b2_extend, Z.w_b1, Z.b1_clear, Z.mod_cell, Z.mod_loc, Z.modK_own, ↓Z.e_sf, Z.x_sf1, Z.x_sf2, Z.x_sf3, ↓Z.e_mk, Z.x_mk, Z.x_sto, ↓Z.e_dp, Z.x_dp1, Z.x_dp2, Z.x_dp3, Z.x_dp4, Z.eqK_int, Z.eqK_str, Z.w_ne, Z.neK_nil, Z.neK_dct, Z.eqK_nil, Z.frz_new, Z.Sto.put_same, Z.put_put, Z.new_put, Z.new_get, Z.sfn0, Z.sfn1, Z.sfn2, Z.sfn3, Z.sfn4, Z.sfn5, Z.sfn6, Z.sfn7, Z.sfn8, decide_false, decide_true, Z.Wp_bad, Z.Wp_ok, Z.Wp_ite, List.set_cons_zero, List.set_cons_succ, List.getElem?_cons_zero, List.getElem?_cons_succ, List.cons_append, List.nil_append, List.append_nil, List.isEmpty_nil, List.isEmpty_cons, if_true, if_false, Bool.false_eq_true, true_implies, false_implies, implies_true, reduceCtorEq, Bool.not_true, Bool.not_false, eq_self, and_self, and_true, true_and, d1]
    exact ⟨_, _, _, [], rfl, Ask.refl, by decide, fin⟩
theorem rows_lc9 {v0 v1 v2 v3 v4 v5 v6 v7 v8 v9 : Option Vl} {ts : List (Int × TD)} {j : Nat} (hl : ts.length ≤ 40) (hj : S.get j = some (.lst (ts.map tieD))) :
    lcK (zSt 9) zYes (zCall v_Lrow [] (zA (zVar 9) zA0)) [9] ⟨[.d (.cell j)], fun s => s.st.get j = some (.lst (ts.map tieD)), ts.map tieD⟩ ⟨[v0, v1, v2, v3, v4, v5, v6, v7, v8, v9], S⟩ = .ok (.own (.lst (ts.map row6))) ⟨[v0, v1, v2, v3, v4, v5, v6, v7, v8, none], S⟩ := by
  rw [lc_map (fun x => match x with | .obj _ [(_, .int i), (_, .str ta), (_, .str he), (_, .int le), (_, .non), (_, .int pr)] => row6 (i, ⟨ta, he, le, none, pr⟩) | .obj _ [(_, .int i), (_, .str ta), (_, .str he), (_, .int le), (_, .int mo), (_, .int pr)] => row6 (i, ⟨ta, he, le, some mo, pr⟩) | _ => .non) rfl Nl.d1 hj (fun x hx => ?_) (by show (ts.map tieD).length ≤ _; rw [List.length_map]; exact Nat.le_trans hl (by decide))]
  · rw [List.map_map]
    congr 3
    refine List.map_congr_left fun q _ => ?_
    obtain ⟨i, ta, he, le, mo, pr⟩ := q
    cases mo <;> rfl
  · obtain ⟨q, _, rfl⟩ := List.mem_map.mp hx
    have e := fun s : SD => g_row (s := s) q
    clear hj hx
    unfold Z.Turn
    walk_at "zs"
    obtain ⟨i, ta, he, le, mo, pr⟩ := q
    cases mo <;> rfl
theorem nl2 {x y : D} : Nl [.d x, .d y] := fun e he j => by
  rcases List.mem_cons.mp he with rfl | he
  · exact fun h => nomatch h
  · rw [List.mem_singleton.mp he]; exact fun h => nomatch h
theorem zip_lc9 {v0 v1 v2 v3 v5 v6 v7 v8 v9 : Option Vl} {ts : List (Int × TD)} {j : Nat} (hl : ts.length ≤ 40) (hj : S.get j = some (.lst (ts.map tieD))) :
    lcK (zUnp [9, 8]) zYes (zTup (zA (zVar 9) (zA (zVar 8) zA0))) [9, 8] ⟨[.d (.cell j), .d (.lst (ts.map row6))], fun s => s.st.get j = some (.lst (ts.map tieD)), zips (ts.map tieD) (ts.map row6)⟩
      ⟨[v0, v1, v2, v3, some (.d (.lst (ts.map row6))), v5, v6, v7, v8, v9], S⟩ = .ok (.own (.lst (ts.map pairD))) ⟨[v0, v1, v2, v3, some (.d (.lst (ts.map row6))), v5, v6, v7, none, none], S⟩ := by
  rw [lc_map id rfl nl2 hj (fun x hx => ?_) (by rw [zips_map]; show (ts.map _).length ≤ _; rw [List.length_map]; exact Nat.le_trans hl (by decide))]
  · rw [List.map_id]
    show R.ok (Vl.own (.lst (zips _ _))) _ = _
    rw [zips_map]
    rfl
  · have hx : x ∈ zips (ts.map tieD) (ts.map row6) := hx
    rw [zips_map] at hx
    obtain ⟨q, _, rfl⟩ := List.mem_map.mp hx
    clear hj hx
    unfold Z.Turn
    walk_at "zs"
    rfl
theorem ask1_ok (A : AW S n l d m ml md h N hs) (hl : hs.length ≤ 100000) : Wp (ask1 (askSt n m h w N v5 (some (.d (.int u))) v7 v8 v9 S)) (fun fl s' => fl = .nx ∧ ∃ v7' v8' v9' S' hs', s' = askSt n m h w N v5 (some (.d (.int u))) v7' v8' v9' S' ∧ Ask S S' h ∧ hs'.length ≤ 3 ∧ AW S' n l d m ml md h N (hs ++ hs')) XF := by
  by_cases c1 : u = 1
  · have d1 := decide_eq_true c1
    have q1 := A.net.n
    have hb := A.hb
    have k1 := fun sl => g_ties (sl := sl) A.net A.good.rise A.good.tl
    have g0 : ∀ x, (S.new x).get S.nx = some x := fun x => new_get
    have g1 : ∀ x, (S.new x).get h = some (.lst (hs.map pairD)) := fun x => (new_ne (by omega)).trans A.held
    have r1 := fun (v0 v1 v2 v3 v4 v5 v6 v7 v8 v9 : Option Vl) => rows_lc9 (v0 := v0) (v1 := v1) (v2 := v2) (v3 := v3) (v4 := v4) (v5 := v5) (v6 := v6) (v7 := v7) (v8 := v8) (v9 := v9) (S := S.new (.lst (N.ties.map tieD))) A.good.tl (g0 _)
    have r2 := fun (v0 v1 v2 v3 v5 v6 v7 v8 v9 : Option Vl) => zip_lc9 (v0 := v0) (v1 := v1) (v2 := v2) (v3 := v3) (v5 := v5) (v6 := v6) (v7 := v7) (v8 := v8) (v9 := v9) (S := S.new (.lst (N.ties.map tieD))) A.good.tl (g0 _)
    have r3 : ∀ sl, itLK (.d (.cell S.nx)) ⟨sl, S.new (.lst (N.ties.map tieD))⟩ = .ok ⟨[.d (.cell S.nx)], fun s => s.st.get S.nx = some (.lst (N.ties.map tieD)), N.ties.map tieD⟩ ⟨sl, S.new (.lst (N.ties.map tieD))⟩ := fun sl => itL_cell (s := ⟨sl, S.new (.lst (N.ties.map tieD))⟩) (g0 _)
    have r4 : ∀ sl, zip2K (.d (.cell S.nx)) (.d (.lst (N.ties.map row6))) ⟨sl, S.new (.lst (N.ties.map tieD))⟩ = .ok ⟨[.d (.cell S.nx), .d (.lst (N.ties.map row6))], fun s => s.cont (.d (.cell S.nx)) = some (.lst (N.ties.map tieD)) ∧ s.cont (.d (.lst (N.ties.map row6))) = some (.lst (N.ties.map row6)), zips (N.ties.map tieD) (N.ties.map row6)⟩ ⟨sl, S.new (.lst (N.ties.map tieD))⟩ := fun sl => zip2_ok (s := ⟨sl, S.new (.lst (N.ties.map tieD))⟩) (g0 _) rfl
    have r5 : ∀ s : SD, neK s (some (.lst (N.ties.map row6))) (some (.lst (N.ties.map row6))) = .ok (.d (.bl false)) s := fun s => neK_lst (s := s) (eq_rows A.good.al.2)
    have hc : Z.cutD (N.ties.map pairD) none (some 3) = (N.ties.take 3).map pairD := by rw [cutD_to _ (by decide), ← List.map_take]; rfl
    have g2 : ((hs.map pairD).length + ((N.ties.take 3).map pairD).length ≤ sizeLine) = True := eq_true (by rw [List.length_map, List.length_map, List.length_take]; exact Nat.le_trans (show _ ≤ 100010 by omega) (by decide))
    have g3 : ∀ x y, ((S.new x).put h y).get S.nx = some x := fun x y => (Sto.put_ne (by omega)).trans new_get
    have ak : ∀ x y z, Ask S (((S.new x).put h y).put S.nx z) h := fun x y z => ⟨Nat.le_succ _, fun i h1 h2 => by rw [Sto.put_ne (by omega), Sto.put_ne h2, new_ne (by omega)]⟩
    have fin := A.go (hs' := N.ties.take 3) (ak (.lst (N.ties.map tieD)) (.lst (hs.map pairD ++ (N.ties.take 3).map pairD)) (.lst [])) (by rw [Sto.put_ne (by omega), Sto.put_same, List.map_append]) (fun p hp => A.good.al.2 p (List.mem_of_mem_take hp))
    have hl3 : (N.ties.take 3).length ≤ 3 := by rw [List.length_take]; omega
    unfold ask1
    clear A c1 hl hb
    simp only [↓Z.e_seq, ↓Z.e_asg, ↓Z.e_st_d, ↓Z.e_st_own, ↓Z.e_st_loc, ↓Z.e_next, ↓Z.e_break, ↓Z.e_cont, ↓Z.e_ifS, ↓Z.e_ret, ↓Z.e_retN, ↓Z.e_drop, ↓Z.e_never, ↓Z.e_c, ↓Z.e_var, ↓Z.e_z1, ↓Z.e_z2, ↓Z.e_via, ↓Z.e_a0, ↓Z.e_a, ↓Z.e_tup, ↓Z.e_lst, ↓Z.e_dnew, ↓Z.e_b, ↓Z.e_and, ↓Z.e_or, ↓Z.e_not, ↓Z.e_andV, ↓Z.e_orV, ↓Z.e_notV, ↓Z.e_if, ↓Z.e_call, ↓Z.e_meth, ↓Z.e_chain, ↓Z.e_no, ↓Z.e_pt, ↓Z.e_sl, Z.x_comp, Z.x_nx, Z.x_asg, Z.x_st, Z.x_if, Z.x_rt, Z.x_ret, Z.x_z2, Z.x_d, Z.x_via, Z.x_cons, Z.x_fix, Z.x_a, Z.x_tup, Z.x_lst, Z.x_ok, Z.x_not, Z.x_notV, Z.x_call, Z.x_self, Z.x_meth2, Z.x_meth1, Z.x_chain2, Z.x_chain1, Z.x_pt, Z.x_sl3, Z.x_sl2, Z.x_sl1, Z.bind_ok, Z.bind_bad, Z.bind_ite, Z.bind_bind, Z.seqK_nx, Z.seqK_rt, Z.seqK_bk, Z.seqK_ct, Z.told_d, Z.told_own, Z.told_loc, Z.toldK_own, Z.varK_own, Z.varK_d, Z.fix_d, Z.fix_own, Z.fix_loc, Z.fixK_own, Z.fixK_d, Z.celled_own, Z.celled_cell, Z.oB_bl, Z.chK_bl, Z.chainK_int, Z.contK_own, Z.cont_int, Z.cont_str, Z.cont_bl, Z.cont_non, Z.cont_lst, Z.cont_con, Z.cont_tup, Z.cont_dct, Z.cont_obj, Z.cont_cell, Z.cont_own, Z.cont_loc, Z.w_add, Z.addK_int, Z.addK_str, Z.addK_lst, Z.addK_tup, Z.w_sub, Z.w_mulG, Z.mulK_int, Z.mulK_lst, Z.w_mod, Z.w_div, Z.w_pow, Z.w_cmp, Z.w_neg, Z.w_min, Z.w_isi, Z.w_isN_n, Z.w_eq, Z.w_in, Z.w_ix, Z.w_len, Z.lenK_lst, Z.lenK_con, Z.lenK_dct, Z.w_fld, Z.isi_int, Z.isi_bl, Z.isi_str, Z.isi_non, Z.isi_lst, Z.isi_con, Z.isi_tup, Z.isi_dct, Z.isT, Z.w_isN_int, Z.w_isN_tup, Z.flv, ↓Z.e_lc, ↓Z.e_yes, ↓Z.e_itL, Z.x_itL_lst, Z.x_itL_con, ↓Z.e_itS, Z.x_itS, Z.wipe_mk, Z.zwipe_nil, Z.zwipe_cons, Z.w_dict, Z.dictK_dct, Z.w_list, Z.listK_lst, Z.listK_con, Z.listK_dct, Z.w_int_bl, Z.w_int_int, Z.w_sl, Z.slK_lst, Z.slK_con, ↓Z.e_rg1, Z.x_rg1, ↓Z.e_for, Z.x_turn, ↓Z.e_zip, Z.x_zip1, ↓Z.e_en, Z.x_en_lst, Z.w_unp, Z.unp2, Z.unp3, Z.unp4, Z.unp5, Z.setAll_cons, Z.setAll_nil, ↓Z.e_m1s, Z.x_m1s, Z.slK_str, Z.lenK_str, ↓Z.e_m2, Z.x_m2, Z.x_isL, Z.isLK_lst, Z.x_isD, Z.isDK_dct, Z.x_rv, Z.w_b2, Z.b2_append, Z.b2_extend, Z.w_b1, Z.b1_clear, Z.mod_cell, Z.mod_loc, Z.modK_own, ↓Z.e_sf, Z.x_sf1, Z.x_sf2, Z.x_sf3, ↓Z.e_mk, Z.x_mk, Z.x_sto, ↓Z.e_dp, Z.x_dp1, Z.x_dp2, Z.x_dp3, Z.x_dp4, Z.eqK_int, Z.eqK_str, Z.w_ne, Z.neK_nil, Z.neK_dct, Z.eqK_nil, Z.frz_new, Z.Sto.put_same, Z.put_put, Z.new_put, Z.new_get, Z.sfn0, Z.sfn1, Z.sfn2, Z.sfn3, Z.sfn4, Z.sfn5, Z.sfn6, Z.sfn7, Z.sfn8, decide_false, decide_true, Z.Wp_bad, Z.Wp_ok, Z.Wp_ite, List.set_cons_zero, List.set_cons_succ, List.getElem?_cons_zero, List.getElem?_cons_succ, List.cons_append, List.nil_append, List.append_nil, List.isEmpty_nil, List.isEmpty_cons, if_true, if_false, Bool.false_eq_true, true_implies, false_implies, implies_true, reduceCtorEq, Bool.not_true, Bool.not_false, eq_self, and_self, and_true, true_and, Z.methK_obj T.mN_ties, *]
    exact ⟨_, _, _, _, N.ties.take 3, rfl, ak _ _ _, hl3, fin⟩
  · have d1 := decide_eq_false c1
    have fin : AW S n l d m ml md h N (hs ++ []) := by rw [List.append_nil]; exact A
    unfold ask1
    clear A c1 hl
    simp only [↓Z.e_seq, ↓Z.e_asg, ↓Z.e_st_d, ↓Z.e_st_own, ↓Z.e_st_loc, ↓Z.e_next, ↓Z.e_break, ↓Z.e_cont, ↓Z.e_ifS, ↓Z.e_ret, ↓Z.e_retN, ↓Z.e_drop, ↓Z.e_never, ↓Z.e_c, ↓Z.e_var, ↓Z.e_z1, ↓Z.e_z2, ↓Z.e_via, ↓Z.e_a0, ↓Z.e_a, ↓Z.e_tup, ↓Z.e_lst, ↓Z.e_dnew, ↓Z.e_b, ↓Z.e_and, ↓Z.e_or, ↓Z.e_not, ↓Z.e_andV, ↓Z.e_orV, ↓Z.e_notV, ↓Z.e_if, ↓Z.e_call, ↓Z.e_meth, ↓Z.e_chain, ↓Z.e_no, ↓Z.e_pt, ↓Z.e_sl, Z.x_comp, Z.x_nx, Z.x_asg, Z.x_st, Z.x_if, Z.x_rt, Z.x_ret, Z.x_z2, Z.x_d, Z.x_via, Z.x_cons, Z.x_fix, Z.x_a, Z.x_tup, Z.x_lst, Z.x_ok, Z.x_not, Z.x_notV, Z.x_call, Z.x_self, Z.x_meth2, Z.x_meth1, Z.x_chain2, Z.x_chain1, Z.x_pt, Z.x_sl3, Z.x_sl2, Z.x_sl1, Z.bind_ok, Z.bind_bad, Z.bind_ite, Z.bind_bind, Z.seqK_nx, Z.seqK_rt, Z.seqK_bk, Z.seqK_ct, Z.told_d, Z.told_own, Z.told_loc, Z.toldK_own, Z.varK_own, Z.varK_d, Z.fix_d, Z.fix_own, Z.fix_loc, Z.fixK_own, Z.fixK_d, Z.celled_own, Z.celled_cell, Z.oB_bl, Z.chK_bl, Z.chainK_int, Z.contK_own, Z.cont_int, Z.cont_str, Z.cont_bl, Z.cont_non, Z.cont_lst, Z.cont_con, Z.cont_tup, Z.cont_dct, Z.cont_obj, Z.cont_cell, Z.cont_own, Z.cont_loc, Z.w_add, Z.addK_int, Z.addK_str, Z.addK_lst, Z.addK_tup, Z.w_sub, Z.w_mulG, Z.mulK_int, Z.mulK_lst, Z.w_mod, Z.w_div, Z.w_pow, Z.w_cmp, Z.w_neg, Z.w_min, Z.w_isi, Z.w_isN_n, Z.w_eq, Z.w_in, Z.w_ix, Z.w_len, Z.lenK_lst, Z.lenK_con, Z.lenK_dct, Z.w_fld, Z.isi_int, Z.isi_bl, Z.isi_str, Z.isi_non, Z.isi_lst, Z.isi_con, Z.isi_tup, Z.isi_dct, Z.isT, Z.w_isN_int, Z.w_isN_tup, Z.flv, ↓Z.e_lc, ↓Z.e_yes, ↓Z.e_itL, Z.x_itL_lst, Z.x_itL_con, ↓Z.e_itS, Z.x_itS, Z.wipe_mk, Z.zwipe_nil, Z.zwipe_cons, Z.w_dict, Z.dictK_dct, Z.w_list, Z.listK_lst, Z.listK_con, Z.listK_dct, Z.w_int_bl, Z.w_int_int, Z.w_sl, Z.slK_lst, Z.slK_con, ↓Z.e_rg1, Z.x_rg1, ↓Z.e_for, Z.x_turn, ↓Z.e_zip, Z.x_zip1, ↓Z.e_en, Z.x_en_lst, Z.w_unp, Z.unp2, Z.unp3, Z.unp4, Z.unp5, Z.setAll_cons, Z.setAll_nil, ↓Z.e_m1s, Z.x_m1s, Z.slK_str, Z.lenK_str, ↓Z.e_m2, Z.x_m2, Z.x_isL, Z.isLK_lst, Z.x_isD, Z.isDK_dct, Z.x_rv, Z.w_b2, Z.b2_append, Z.b2_extend, Z.w_b1, Z.b1_clear, Z.mod_cell, Z.mod_loc, Z.modK_own, ↓Z.e_sf, Z.x_sf1, Z.x_sf2, Z.x_sf3, ↓Z.e_mk, Z.x_mk, Z.x_sto, ↓Z.e_dp, Z.x_dp1, Z.x_dp2, Z.x_dp3, Z.x_dp4, Z.eqK_int, Z.eqK_str, Z.w_ne, Z.neK_nil, Z.neK_dct, Z.eqK_nil, Z.frz_new, Z.Sto.put_same, Z.put_put, Z.new_put, Z.new_get, Z.sfn0, Z.sfn1, Z.sfn2, Z.sfn3, Z.sfn4, Z.sfn5, Z.sfn6, Z.sfn7, Z.sfn8, decide_false, decide_true, Z.Wp_bad, Z.Wp_ok, Z.Wp_ite, List.set_cons_zero, List.set_cons_succ, List.getElem?_cons_zero, List.getElem?_cons_succ, List.cons_append, List.nil_append, List.append_nil, List.isEmpty_nil, List.isEmpty_cons, if_true, if_false, Bool.false_eq_true, true_implies, false_implies, implies_true, reduceCtorEq, Bool.not_true, Bool.not_false, eq_self, and_self, and_true, true_and, d1]
    exact ⟨_, _, _, _, [], rfl, Ask.refl, by decide, fin⟩
theorem go_x {nn : Nat} {bb : SD → R Fl} {ds : List D} {r : Vl} {P : Sto → Prop} (h : Wp (bb ⟨starts nn ds, S⟩) (fun fl s' => flv fl = some r ∧ P s'.st) XF) : ∃ S', P S' ∧ ∀ sl, goF (zFn nn bb) ds ⟨sl, S⟩ = .ok r ⟨sl, S'⟩ := by
  obtain ⟨fl, s', e, h1, h2⟩ := h.is
  exact ⟨s'.st, h2, fun sl => go_e (by rw [e]; exact ⟨h1, rfl⟩)⟩
theorem pick13 (j : Int) : ∃ v : Int, (v = 1 ∨ v = 3) ∧ dIx (.lst [.int 1, .int 3]) (.int (j % 2)) = some (.int v) := by
  rcases (show j % 2 = 0 ∨ j % 2 = 1 by omega) with e | e <;> rw [e]
  · exact ⟨1, .inl rfl, rfl⟩
  · exact ⟨3, .inr rfl, rfl⟩
theorem g_Lasked (A : AW S n l d m ml md h N hs) (hl : hs.length ≤ 90000) : ∃ S', (Ask S S' h ∧ ∃ hs', hs'.length ≤ 24 ∧ AW S' n l d m ml md h N (hs ++ hs')) ∧ ∀ sl, goF v_Lasked [.cell n, .cell m, .int w, .cell h] ⟨sl, S⟩ = .ok (.d (.bl true)) ⟨sl, S'⟩ := by
  refine go_x ?_
  show Wp (b_Lasked ⟨[some (.d (.cell n)), some (.d (.cell m)), some (.d (.int w)), some (.d (.cell h)), none, none, none, none, none, none], S⟩) _ _
  rw [asked_eq]
  have k1 := fun sl => g_Lrows (sl := sl) A.mod.mdl A.good.rise A.good.tl
  have z1 : (-(2 ^ 62) ≤ (4 : Int) ∧ (4 : Int) < 2 ^ 62) = True := eq_true (by decide)
  simp only [↓Z.e_seq, ↓Z.e_asg, ↓Z.e_st_d, ↓Z.e_st_own, ↓Z.e_st_loc, ↓Z.e_next, ↓Z.e_break, ↓Z.e_cont, ↓Z.e_ifS, ↓Z.e_ret, ↓Z.e_retN, ↓Z.e_drop, ↓Z.e_never, ↓Z.e_c, ↓Z.e_var, ↓Z.e_z1, ↓Z.e_z2, ↓Z.e_via, ↓Z.e_a0, ↓Z.e_a, ↓Z.e_tup, ↓Z.e_lst, ↓Z.e_dnew, ↓Z.e_b, ↓Z.e_and, ↓Z.e_or, ↓Z.e_not, ↓Z.e_andV, ↓Z.e_orV, ↓Z.e_notV, ↓Z.e_if, ↓Z.e_call, ↓Z.e_meth, ↓Z.e_chain, ↓Z.e_no, ↓Z.e_pt, ↓Z.e_sl, Z.x_comp, Z.x_nx, Z.x_asg, Z.x_st, Z.x_if, Z.x_rt, Z.x_ret, Z.x_z2, Z.x_d, Z.x_via, Z.x_cons, Z.x_fix, Z.x_a, Z.x_tup, Z.x_lst, Z.x_ok, Z.x_not, Z.x_notV, Z.x_call, Z.x_self, Z.x_meth2, Z.x_meth1, Z.x_chain2, Z.x_chain1, Z.x_pt, Z.x_sl3, Z.x_sl2, Z.x_sl1, Z.bind_ok, Z.bind_bad, Z.bind_ite, Z.bind_bind, Z.seqK_nx, Z.seqK_rt, Z.seqK_bk, Z.seqK_ct, Z.told_d, Z.told_own, Z.told_loc, Z.toldK_own, Z.varK_own, Z.varK_d, Z.fix_d, Z.fix_own, Z.fix_loc, Z.fixK_own, Z.fixK_d, Z.celled_own, Z.celled_cell, Z.oB_bl, Z.chK_bl, Z.chainK_int, Z.contK_own, Z.cont_int, Z.cont_str, Z.cont_bl, Z.cont_non, Z.cont_lst, Z.cont_con, Z.cont_tup, Z.cont_dct, Z.cont_obj, Z.cont_cell, Z.cont_own, Z.cont_loc, Z.w_add, Z.addK_int, Z.addK_str, Z.addK_lst, Z.addK_tup, Z.w_sub, Z.w_mulG, Z.mulK_int, Z.mulK_lst, Z.w_mod, Z.w_div, Z.w_pow, Z.w_cmp, Z.w_neg, Z.w_min, Z.w_isi, Z.w_isN_n, Z.w_eq, Z.w_in, Z.w_ix, Z.w_len, Z.lenK_lst, Z.lenK_con, Z.lenK_dct, Z.w_fld, Z.isi_int, Z.isi_bl, Z.isi_str, Z.isi_non, Z.isi_lst, Z.isi_con, Z.isi_tup, Z.isi_dct, Z.isT, Z.w_isN_int, Z.w_isN_tup, Z.flv, ↓Z.e_lc, ↓Z.e_yes, ↓Z.e_itL, Z.x_itL_lst, Z.x_itL_con, ↓Z.e_itS, Z.x_itS, Z.wipe_mk, Z.zwipe_nil, Z.zwipe_cons, Z.w_dict, Z.dictK_dct, Z.w_list, Z.listK_lst, Z.listK_con, Z.listK_dct, Z.w_int_bl, Z.w_int_int, Z.w_sl, Z.slK_lst, Z.slK_con, ↓Z.e_rg1, Z.x_rg1, ↓Z.e_for, Z.x_turn, ↓Z.e_zip, Z.x_zip1, ↓Z.e_en, Z.x_en_lst, Z.w_unp, Z.unp2, Z.unp3, Z.unp4, Z.unp5, Z.setAll_cons, Z.setAll_nil, ↓Z.e_m1s, Z.x_m1s, Z.slK_str, Z.lenK_str, ↓Z.e_m2, Z.x_m2, Z.x_isL, Z.isLK_lst, Z.x_isD, Z.isDK_dct, Z.x_rv, Z.w_b2, Z.b2_append, Z.b2_extend, Z.w_b1, Z.b1_clear, Z.mod_cell, Z.mod_loc, Z.modK_own, ↓Z.e_sf, Z.x_sf1, Z.x_sf2, Z.x_sf3, ↓Z.e_mk, Z.x_mk, Z.x_sto, ↓Z.e_dp, Z.x_dp1, Z.x_dp2, Z.x_dp3, Z.x_dp4, Z.eqK_int, Z.eqK_str, Z.w_ne, Z.neK_nil, Z.neK_dct, Z.eqK_nil, Z.frz_new, Z.Sto.put_same, Z.put_put, Z.new_put, Z.new_get, Z.sfn0, Z.sfn1, Z.sfn2, Z.sfn3, Z.sfn4, Z.sfn5, Z.sfn6, Z.sfn7, Z.sfn8, decide_false, decide_true, Z.Wp_bad, Z.Wp_ok, Z.Wp_ite, List.set_cons_zero, List.set_cons_succ, List.getElem?_cons_zero, List.getElem?_cons_succ, List.cons_append, List.nil_append, List.append_nil, List.isEmpty_nil, List.isEmpty_cons, if_true, if_false, Bool.false_eq_true, true_implies, false_implies, implies_true, reduceCtorEq, Bool.not_true, Bool.not_false, eq_self, and_self, and_true, true_and, k1, z1]
  rw [Wp_bind]
  refine for_w (fun j s => ∃ v5 v6 v7 v8 v9 S' hs', s = askSt n m h w N v5 v6 v7 v8 v9 S' ∧ Ask S S' h ∧ hs'.length ≤ 6 * j ∧ AW S' n l d m ml md h N (hs ++ hs')) nl0 (fun _ _ _ => trivial) ⟨_, _, _, _, _, S, [], rfl, Ask.refl, by decide, by rw [List.append_nil]; exact A⟩ (fun j x s e hI => ?_) (fun s hI => ?_)
  · obtain ⟨v5, v6, v7, v8, v9, S1, hs1, rfl, k0, l0, A1⟩ := hI
    have hm : x ∈ Z.upTo 0 4 := List.mem_of_getElem? e
    have hj : j < 4 := by have := (List.getElem?_eq_some_iff.mp e).1; rw [show (Z.upTo 0 (Int.toNat 4)).length = 4 from up_len 4] at this; exact this
    obtain ⟨i, i0, i1, rfl⟩ := up_mem hm
    obtain ⟨v, hv, ev⟩ := pick13 (w / 4)
    have r1 := fun s : SD => ixK_ok (s := s) ev
    have z3 : ∀ i : Int, CDivW i 4 = True := fun i => eq_true (M.CDivW_small (by decide) (by decide))
    have z4 : CMulX i v = True := eq_true (by rcases hv with rfl | rfl <;> exact M.CMulX_small (by omega) (by omega) (by omega) (by omega))
    have z8 : ((0 : Int) < 4) = True := by simp
    have z9 : ((0 : Int) < 2) = True := by simp
    simp only [askW, ↓Z.e_seq, ↓Z.e_asg, ↓Z.e_st_d, ↓Z.e_st_own, ↓Z.e_st_loc, ↓Z.e_next, ↓Z.e_break, ↓Z.e_cont, ↓Z.e_ifS, ↓Z.e_ret, ↓Z.e_retN, ↓Z.e_drop, ↓Z.e_never, ↓Z.e_c, ↓Z.e_var, ↓Z.e_z1, ↓Z.e_z2, ↓Z.e_via, ↓Z.e_a0, ↓Z.e_a, ↓Z.e_tup, ↓Z.e_lst, ↓Z.e_dnew, ↓Z.e_b, ↓Z.e_and, ↓Z.e_or, ↓Z.e_not, ↓Z.e_andV, ↓Z.e_orV, ↓Z.e_notV, ↓Z.e_if, ↓Z.e_call, ↓Z.e_meth, ↓Z.e_chain, ↓Z.e_no, ↓Z.e_pt, ↓Z.e_sl, Z.x_comp, Z.x_nx, Z.x_asg, Z.x_st, Z.x_if, Z.x_rt, Z.x_ret, Z.x_z2, Z.x_d, Z.x_via, Z.x_cons, Z.x_fix, Z.x_a, Z.x_tup, Z.x_lst, Z.x_ok, Z.x_not, Z.x_notV, Z.x_call, Z.x_self, Z.x_meth2, Z.x_meth1, Z.x_chain2, Z.x_chain1, Z.x_pt, Z.x_sl3, Z.x_sl2, Z.x_sl1, Z.bind_ok, Z.bind_bad, Z.bind_ite, Z.bind_bind, Z.seqK_nx, Z.seqK_rt, Z.seqK_bk, Z.seqK_ct, Z.told_d, Z.told_own, Z.told_loc, Z.toldK_own, Z.varK_own, Z.varK_d, Z.fix_d, Z.fix_own, Z.fix_loc, Z.fixK_own, Z.fixK_d, Z.celled_own, Z.celled_cell, Z.oB_bl, Z.chK_bl, Z.chainK_int, Z.contK_own, Z.cont_int, Z.cont_str, Z.cont_bl, Z.cont_non, Z.cont_lst, Z.cont_con, Z.cont_tup, Z.cont_dct, Z.cont_obj, Z.cont_cell, Z.cont_own, Z.cont_loc, Z.w_add, Z.addK_int, Z.addK_str, Z.addK_lst, Z.addK_tup, Z.w_sub, Z.w_mulG, Z.mulK_int, Z.mulK_lst, Z.w_mod, Z.w_div, Z.w_pow, Z.w_cmp, Z.w_neg, Z.w_min, Z.w_isi, Z.w_isN_n, Z.w_eq, Z.w_in, Z.w_ix, Z.w_len, Z.lenK_lst, Z.lenK_con, Z.lenK_dct, Z.w_fld, Z.isi_int, Z.isi_bl, Z.isi_str, Z.isi_non, Z.isi_lst, Z.isi_con, Z.isi_tup, Z.isi_dct, Z.isT, Z.w_isN_int, Z.w_isN_tup, Z.flv, ↓Z.e_lc, ↓Z.e_yes, ↓Z.e_itL, Z.x_itL_lst, Z.x_itL_con, ↓Z.e_itS, Z.x_itS, Z.wipe_mk, Z.zwipe_nil, Z.zwipe_cons, Z.w_dict, Z.dictK_dct, Z.w_list, Z.listK_lst, Z.listK_con, Z.listK_dct, Z.w_int_bl, Z.w_int_int, Z.w_sl, Z.slK_lst, Z.slK_con, ↓Z.e_rg1, Z.x_rg1, ↓Z.e_for, Z.x_turn, ↓Z.e_zip, Z.x_zip1, ↓Z.e_en, Z.x_en_lst, Z.w_unp, Z.unp2, Z.unp3, Z.unp4, Z.unp5, Z.setAll_cons, Z.setAll_nil, ↓Z.e_m1s, Z.x_m1s, Z.slK_str, Z.lenK_str, ↓Z.e_m2, Z.x_m2, Z.x_isL, Z.isLK_lst, Z.x_isD, Z.isDK_dct, Z.x_rv, Z.w_b2, Z.b2_append, Z.b2_extend, Z.w_b1, Z.b1_clear, Z.mod_cell, Z.mod_loc, Z.modK_own, ↓Z.e_sf, Z.x_sf1, Z.x_sf2, Z.x_sf3, ↓Z.e_mk, Z.x_mk, Z.x_sto, ↓Z.e_dp, Z.x_dp1, Z.x_dp2, Z.x_dp3, Z.x_dp4, Z.eqK_int, Z.eqK_str, Z.w_ne, Z.neK_nil, Z.neK_dct, Z.eqK_nil, Z.frz_new, Z.Sto.put_same, Z.put_put, Z.new_put, Z.new_get, Z.sfn0, Z.sfn1, Z.sfn2, Z.sfn3, Z.sfn4, Z.sfn5, Z.sfn6, Z.sfn7, Z.sfn8, decide_false, decide_true, Z.Wp_bad, Z.Wp_ok, Z.Wp_ite, List.set_cons_zero, List.set_cons_succ, List.getElem?_cons_zero, List.getElem?_cons_succ, List.cons_append, List.nil_append, List.append_nil, List.isEmpty_nil, List.isEmpty_cons, if_true, if_false, Bool.false_eq_true, true_implies, false_implies, implies_true, reduceCtorEq, Bool.not_true, Bool.not_false, eq_self, and_self, and_true, true_and, r1, z3, z4, z8, z9]
    rw [Wp_bind]
    refine (ask0_ok (v5 := some (.d (.int i))) (v7 := v7) (v8 := v8) (v9 := v9) (w := w) A1).mono (fun fl s' hh => ?_) fun _ _ _ hh => hh.elim
    obtain ⟨rfl, v7, rfl⟩ := hh
    show Wp (zSeq ask1 (zSeq ask2 ask3) _) _ _
    rw [e_seq, Wp_bind]
    refine (ask1_ok (v5 := some (.d (.int i))) (v7 := v7) (v8 := v8) (v9 := v9) (w := w) A1 (by rw [List.length_append]; omega)).mono (fun fl s' hh => ?_) fun _ _ _ hh => hh.elim
    obtain ⟨rfl, v7, v8, v9, S2, hs2, rfl, k2, l2, A2⟩ := hh
    show Wp (zSeq ask2 ask3 _) _ _
    rw [e_seq, Wp_bind]
    refine (ask2_ok (v5 := some (.d (.int i))) (v7 := v7) (v8 := v8) (v9 := v9) (w := w) A2).mono (fun fl s' hh => ?_) fun _ _ _ hh => hh.elim
    obtain ⟨rfl, rfl⟩ := hh
    show Wp (ask3 _) _ _
    refine (ask3_ok (v5 := some (.d (.int i))) (v7 := v7) (v8 := v8) (v9 := v9) (w := w) A2 (by rw [List.length_append, List.length_append]; omega)).mono (fun fl s' hh => ?_) fun _ _ _ hh => hh.elim
    obtain ⟨rfl, v8, v9, S3, hs3, rfl, k3, l3, A3⟩ := hh
    exact ⟨_, _, _, _, _, S3, hs1 ++ hs2 ++ hs3, rfl, (k0.trans k2).trans k3, by rw [List.length_append, List.length_append]; omega, by rw [← List.append_assoc, ← List.append_assoc]; exact A3⟩
  · obtain ⟨v5, v6, v7, v8, v9, S1, hs1, rfl, k0, l0, A1⟩ := hI
    have l0 : hs1.length ≤ 6 * 4 := by rw [show (Z.upTo 0 (Int.toNat 4)).length = 4 from up_len 4] at l0; exact l0
    exact ⟨rfl, k0, hs1, l0, A1⟩
end
end T

namespace T
open PySem PySem.Spec PyProof.Rows L2 M Z A
open Classical
section
noncomputable def lawC : SD → R Fl := (zIfS (zB (z2 oEq (z2 oMod (zCall v_Ldraw [] (zA (zVar 8) (zA (zVar 7) (zA (zC (.int 20)) zA0)))) (zC (.int 9))) (zC (.int 1)))) (zSeq (zAsg (zMeth "Net" "copied" v_Net_copied [] (zVar 3) zA0) (zSt 9)) (zSeq (zIfS (zNot (zB (z1 (oIsC is_Net false) (zVar 9)))) (zRet (zC (.bl false))) zNext) (zSeq (zDrop (zM2 isL (oB2 fAppend) (zVar 5) (zFix (zTup (zA (zVar 3) (zA (zDisp (zP (.inr "names") (z1 oList (z2 oIx (zVar 4) (zC (.str "names")))) (zP (.inr "ties") (z1 oDict (z2 oIx (zVar 4) (zC (.str "ties")))) (zP (.inr "given") (z2 oIx (zVar 4) (zC (.str "given"))) zP0)))) zA0)))))) (zAsg (zVar 9) (zSt 3))))) zNext)
noncomputable def lawD : SD → R Fl := (zIfS (zNot (zB (zCall v_Ldeed [] (zA (zVar 3) (zA (zVar 4) (zA (zVar 2) (zA (zVar 8) (zA (zVar 7) zA0)))))))) (zRet (zC (.bl false))) zNext)
noncomputable def lawA : SD → R Fl := (zIfS (zNot (zB (zCall v_Lasked [] (zA (zVar 3) (zA (zVar 4) (zA (zCall v_Ldraw [] (zA (zVar 8) (zA (zVar 7) (zA (zC (.int 21)) zA0)))) (zA (zVar 6) zA0))))))) (zRet (zC (.bl false))) zNext)
noncomputable def lawF : SD → R Fl := (zFor (zEnum (zFix (zVar 1))) (zUnp [7, 8]) (zSeq lawC (zSeq lawD lawA)))
noncomputable def lawE : SD → R Fl := (zSeq (zIfS (zB (z2 oNe (zLc (zItL (zFix (zVar 5))) (zSt 10) (zNot (zB (zCall v_Lstands [] (zA (z2 oIx (zVar 10) (zC (.int 0))) (zA (z2 oIx (zVar 10) (zC (.int 1))) zA0))))) (zVar 10) [10]) (zLst zA0))) (zRet (zC (.bl false))) zNext) (zRet (z2 oEq (zLc (zItL (zFix (zVar 6))) (zSt 10) (zB (z2 oNe (zCall v_Lrow [] (zA (z2 oIx (zVar 10) (zC (.int 0))) zA0)) (z2 oIx (zVar 10) (zC (.int 1))))) (zVar 10) [10]) (zLst zA0))))
theorem law_eq : b_law = (zSeq (zAsg (zFix (zSl (zVar 0) zNo (zPt (zC (.int 63))))) (zSt 1)) (zSeq (zAsg (zFix (zCall v_Lpool [] (zA (z1 oSum (zSl (zVar 1) zNo (zPt (zC (.int 3))))) zA0))) (zSt 2)) (zSeq (zAsg (zMake "Net" v_Net_init [] zA0) (zSt 3)) (zSeq (zAsg (zCell (zDisp (zP (.inr "names") (zCell (zLst zA0)) (zP (.inr "ties") (zCell zDnew) (zP (.inr "given") (zC (.int 0)) zP0))))) (zSt 4)) (zSeq (zAsg (zCell (zLst zA0)) (zSt 5)) (zSeq (zAsg (zCell (zLst zA0)) (zSt 6)) (zSeq (zIfS (zOr (zNot (zB (zCall v_Lwhole [] (zA (zC (.int 1000000000000000000000000000000000000000000000000000000000000)) (zA (z2 oPow (zC (.int 10)) (zC (.int 60))) zA0))))) (zNot (zB (zCall v_Lstands [] (zA (zVar 3) (zA (zVar 4) zA0)))))) (zRet (zC (.bl false))) zNext) (zSeq lawF lawE)))))))) := rfl
variable {s : SD} {S S' : Sto} {sl : List (Option Vl)} {x y z : D} {n l d m ml md h P : Nat} {N N' : ND} {g i c k w u : Int} {t : TD} {a b : D} {q : Int × TD} {hs hs' : List (Int × TD)} {ps : List Str} {past : List (Nat × ND)} {p : Nat × ND}
def Apart (i : Nat) (L : List Nat) : Prop := ∀ j ∈ L, i ≠ j
def pastD (p : Nat × ND) : D := .tup [.cell p.1, frzM p.2]
/-- a net that was left behind -/
structure Old (S : Sto) (L : List Nat) (p : Nat × ND) (l0 d0 : Nat) : Prop where
  net : NetAt S p.1 l0 d0 p.2
  good : Good p.2
  b : p.1 < S.nx ∧ l0 < S.nx ∧ d0 < S.nx
  a : Apart p.1 L ∧ Apart l0 L ∧ Apart d0 L
structure LW (S : Sto) (n l d m ml md h P : Nat) (N : ND) (hs : List (Int × TD)) (past : List (Nat × ND)) : Prop where
  aw : AW S n l d m ml md h N hs
  pb : P < S.nx
  pn : Apart P [n, l, d, m, ml, md, h]
  pg : S.get P = some (.lst (past.map pastD))
  old : ∀ p ∈ past, ∃ l0 d0, Old S [n, l, d, m, ml, md, h, P] p l0 d0
theorem Apart.at {i j : Nat} {L : List Nat} (h : Apart i L) (hj : j ∈ L := by simp) : i ≠ j := h j hj
theorem Old.go {L : List Nat} {l0 d0 : Nat} (o : Old S L p l0 d0) (nx : S.nx ≤ S'.nx) (fr : ∀ i, i < S.nx → Apart i L → S'.get i = S.get i) : Old S' L p l0 d0 := by
  obtain ⟨⟨n1, n2, n3⟩, g, ⟨b1, b2, b3⟩, ⟨a1, a2, a3⟩⟩ := o
  exact ⟨⟨(fr _ b1 a1).trans n1, (fr _ b2 a2).trans n2, (fr _ b3 a3).trans n3⟩, g, ⟨by omega, by omega, by omega⟩, ⟨a1, a2, a3⟩⟩
theorem LW.deed (W : LW S n l d m ml md h P N hs past) (D : Did S S' n l d m ml md N') : LW S' n l d m ml md h P N' hs past := by
  obtain ⟨⟨⟨b1, b2, b3, b4, b5, b6, a1, a2, a3, a4, a5⟩, hN, hM, hG, hb, ⟨c1, c2, c3, c4, c5, c6⟩, hh, hal⟩, pb, pn, pg, old⟩ := W
  have nx := D.nx
  refine ⟨⟨⟨by omega, by omega, by omega, by omega, by omega, by omega, a1, a2, a3, a4, a5⟩, D.net, D.mod, D.good, by omega, ⟨c1, c2, c3, c4, c5, c6⟩, ?_, hal⟩, by omega, pn, ?_, fun p hp => ?_⟩
  · rw [D.fr h hb c1 c2 c3 c4 c5 c6]; exact hh
  · rw [D.fr P pb pn.at pn.at pn.at pn.at pn.at pn.at]; exact pg
  · obtain ⟨l0, d0, o⟩ := old p hp
    exact ⟨l0, d0, o.go nx fun i hi ha => D.fr i hi ha.at ha.at ha.at ha.at ha.at ha.at⟩
theorem LW.ask (W : LW S n l d m ml md h P N hs past) (k : Ask S S' h) (A : AW S' n l d m ml md h N (hs ++ hs')) : LW S' n l d m ml md h P N (hs ++ hs') past := by
  have nx := k.nx
  have pb := W.pb
  refine ⟨A, by omega, W.pn, ?_, fun p hp => ?_⟩
  · rw [k.fr P W.pb W.pn.at]; exact W.pg
  · obtain ⟨l0, d0, o⟩ := W.old p hp
    exact ⟨l0, d0, o.go nx fun i hi ha => k.fr i hi ha.at⟩
theorem netC_old {i : Nat} (hi : i < S.nx) : (netC S N).get i = S.get i := by
  unfold netC
  simp [show i ≠ S.nx by omega, show i ≠ S.nx + 1 by omega, show i ≠ S.nx + 2 by omega, show i ≠ S.nx + 3 by omega, show i ≠ S.nx + 4 by omega]
theorem LW.copy (W : LW S n l d m ml md h P N hs past) : LW ((netC S N).put P (.lst ((past ++ [(n, N)]).map pastD))) S.nx (S.nx + 3) (S.nx + 4) m ml md h P N hs (past ++ [(n, N)]) := by
  obtain ⟨⟨⟨b1, b2, b3, b4, b5, b6, ⟨a1, a2, a3⟩, ⟨a4, a5, a6⟩, ⟨a7, a8, a9⟩, a10, ⟨a11, a12, a13⟩⟩, ⟨n1, n2, n3⟩, ⟨m1, m2, m3⟩, hG, hb, ⟨c1, c2, c3, c4, c5, c6⟩, hh, hal⟩, pb, pn, pg, old⟩ := W
  have p1 : P ≠ m := pn.at
  have p2 : P ≠ ml := pn.at
  have p3 : P ≠ md := pn.at
  have p4 : P ≠ h := pn.at
  have p5 : P ≠ n := pn.at
  have p6 : P ≠ l := pn.at
  have p7 : P ≠ d := pn.at
  have fr : ∀ i, i < S.nx → i ≠ P → ((netC S N).put P (.lst ((past ++ [(n, N)]).map pastD))).get i = S.get i := fun i hi hp => by rw [Sto.put_ne hp, netC_old hi]
  have nx : ((netC S N).put P (.lst ((past ++ [(n, N)]).map pastD))).nx = S.nx + 5 := rfl
  have apart : ∀ i, i < S.nx → i ≠ m → i ≠ ml → i ≠ md → i ≠ h → i ≠ P → Apart i [S.nx, S.nx + 3, S.nx + 4, m, ml, md, h, P] := fun i hi h1 h2 h3 h4 h5 j hj => by
    simp only [List.mem_cons, List.not_mem_nil, or_false] at hj
    omega
  refine ⟨⟨⟨by omega, by omega, by omega, by omega, by omega, by omega, ⟨by omega, by omega, by omega⟩, ⟨by omega, by omega, by omega⟩, ⟨by omega, by omega, by omega⟩, a10, ⟨by omega, by omega, by omega⟩⟩, ⟨?_, ?_, ?_⟩, ⟨?_, ?_, ?_⟩, hG, by omega, ⟨by omega, by omega, by omega, c4, c5, c6⟩, ?_, hal⟩, by omega, ?_, Sto.put_same, fun p hp => ?_⟩
  · rw [Sto.put_ne (by omega)]; unfold netC; simp
  · rw [Sto.put_ne (by omega)]; unfold netC; simp
  · rw [Sto.put_ne (by omega)]; unfold netC; simp
  · rw [fr m b4 (Ne.symm p1)]; exact m1
  · rw [fr ml b5 (Ne.symm p2)]; exact m2
  · rw [fr md b6 (Ne.symm p3)]; exact m3
  · rw [fr h hb (Ne.symm p4)]; exact hh
  · intro j hj
    simp only [List.mem_cons, List.not_mem_nil, or_false] at hj
    omega
  · rcases List.mem_append.mp hp with hp | hp
    · obtain ⟨l0, d0, ⟨o1, o2, o3⟩, og, ⟨x1, x2, x3⟩, ⟨y1, y2, y3⟩⟩ := old p hp
      exact ⟨l0, d0, ⟨(fr _ x1 y1.at).trans o1, (fr _ x2 y2.at).trans o2, (fr _ x3 y3.at).trans o3⟩, og, ⟨by omega, by omega, by omega⟩, ⟨apart _ x1 y1.at y1.at y1.at y1.at y1.at, apart _ x2 y2.at y2.at y2.at y2.at y2.at, apart _ x3 y3.at y3.at y3.at y3.at y3.at⟩⟩
    · rw [List.mem_singleton.mp hp]
      exact ⟨l, d, ⟨(fr _ b1 (Ne.symm p5)).trans n1, (fr _ b2 (Ne.symm p6)).trans n2, (fr _ b3 (Ne.symm p7)).trans n3⟩, hG, ⟨by show n < _; omega, by omega, by omega⟩, ⟨apart _ b1 a1 a2 a3 (Ne.symm c1) (Ne.symm p5), apart _ b2 a4 a5 a6 (Ne.symm c2) (Ne.symm p6), apart _ b3 a7 a8 a9 (Ne.symm c3) (Ne.symm p7)⟩⟩
def dispK : List (Key × D) → SD → R Vl := fun ks s => if ks.length ≤ 15 then .ok (.own (.dct (dmerge ks))) s else .bad
theorem x_disp {ks : List (Key × D)} : dispK ks s = if ks.length ≤ 15 then .ok (.own (.dct (dmerge ks))) s else .bad := rfl
theorem e_disp {fp : SD → R (List (Key × D))} : zDisp fp s = (fp s).bind dispK := rfl
def p3K (kk : Key) (x : D) : List (Key × D) → SD → R (List (Key × D)) := fun ks s => .ok ((kk, x) :: ks) s
theorem x_p3 {kk : Key} {ks : List (Key × D)} : p3K kk x ks s = .ok ((kk, x) :: ks) s := rfl
def p2K (kk : Key) (fp : SD → R (List (Key × D))) : D → SD → R (List (Key × D)) := fun x s => (fp s).bind (p3K kk x)
theorem x_p2 {kk : Key} {fp : SD → R (List (Key × D))} : p2K kk fp x s = (fp s).bind (p3K kk x) := rfl
def p1K (kk : Key) (fp : SD → R (List (Key × D))) : Vl → SD → R (List (Key × D)) := fun a s => (s.fix a).bind (p2K kk fp)
theorem x_p1 {kk : Key} {fp : SD → R (List (Key × D))} {a : Vl} : p1K kk fp a s = (s.fix a).bind (p2K kk fp) := rfl
theorem e_p {kk : Key} {fv : SD → R Vl} {fp : SD → R (List (Key × D))} : zP kk fv fp s = (fv s).bind (p1K kk fp) := rfl
theorem e_p0 : zP0 s = .ok [] s := rfl
theorem mN_copied : fval (netF l d g) "copied" = none := rfl
variable {v0 v7 v8 v9 v10 : Option Vl} {cs : List D}
abbrev lawSt (v0 : Option Vl) (cs : List D) (ps : List Str) (n m P h : Nat) (v7 v8 v9 v10 : Option Vl) (S : Sto) : SD :=
  ⟨[v0, some (.d (.lst cs)), some (.d (.lst (ps.map .str))), some (.d (.cell n)), some (.d (.cell m)), some (.d (.cell P)), some (.d (.cell h)), v7, v8, v9, v10], S⟩
theorem isc_net {S : Sto} {j : Nat} {fs : List (Str × D)} (hj : S.get j = some (.obj "Net" fs)) : oIsC is_Net false (.d (.cell j)) ⟨sl, S⟩ = .ok (.d (.bl true)) ⟨sl, S⟩ := by
  unfold oIsC
  simp only [cont_cell, hj]
  rfl
theorem lawC_ok (W : LW S n l d m ml md h P N hs past) (k0 : 0 ≤ k) (k1 : k ≤ 1000) (hp : past.length ≤ 100) : Wp (lawC (lawSt v0 cs ps n m P h (some (.d (.int k))) (some (.d (.int c))) v9 v10 S)) (fun fl s' => fl = .nx ∧ ∃ v9' n' l' d' S' past', s' = lawSt v0 cs ps n' m P h (some (.d (.int k))) (some (.d (.int c))) v9' v10 S' ∧ past'.length ≤ past.length + 1 ∧ LW S' n' l' d' m ml md h P N hs past') XF := by
  obtain ⟨j, j0, j1, e1⟩ := g_draw c k 20 k0 k1 (by decide) (by decide)
  have z8 : ((0 : Int) < 9) = True := by simp
  by_cases c1 : j % 9 = 1
  · have d1 := decide_eq_true c1
    have q1 := W.aw.net.n
    have kc := fun sl => g_copied (sl := sl) W.aw.net W.aw.six.b1 W.aw.six.b2 W.aw.six.b3
    have ic : ∀ sl, oIsC is_Net false (.d (.cell S.nx)) ⟨sl, netC S N⟩ = .ok (.d (.bl true)) ⟨sl, netC S N⟩ := fun sl => isc_net (fs := netF (S.nx + 3) (S.nx + 4) N.given) (by unfold netC; simp)
    have g1 : (netC S N).get P = some (.lst (past.map pastD)) := (netC_old W.pb).trans W.pg
    have g2 : (netC S N).get m = some (.dct (modF ml md N.given)) := (netC_old W.aw.six.b4).trans W.aw.mod.m
    have g3 : (netC S N).get ml = some (.lst (N.names.map .str)) := (netC_old W.aw.six.b5).trans W.aw.mod.l
    have g4 : (netC S N).get md = some (.dct (rowsG row5 N.ties)) := (netC_old W.aw.six.b6).trans W.aw.mod.d
    have dm : dmerge [(.inr "names", .lst (N.names.map .str)), (.inr "ties", .dct (rowsG row5 N.ties)), (.inr "given", .int N.given)] = [(.inr "names", .lst (N.names.map .str)), (.inr "ties", .dct (rowsG row5 N.ties)), (.inr "given", .int N.given)] := rfl
    have l3 : ([((.inr "names" : Key), D.lst (N.names.map .str)), (.inr "ties", .dct (rowsG row5 N.ties)), (.inr "given", .int N.given)].length ≤ 15) = True := eq_true (by show 3 ≤ 15; decide)
    have z1 : ((past.map pastD).length < sizeLine) = True := eq_true (by rw [List.length_map]; exact Nat.lt_of_le_of_lt hp (by decide))
    have fin := W.copy
    unfold lawC
    clear W c1 hp j0 j1 k0 k1
    simp only [↓Z.e_seq, ↓Z.e_asg, ↓Z.e_st_d, ↓Z.e_st_own, ↓Z.e_st_loc, ↓Z.e_next, ↓Z.e_break, ↓Z.e_cont, ↓Z.e_ifS, ↓Z.e_ret, ↓Z.e_retN, ↓Z.e_drop, ↓Z.e_never, ↓Z.e_c, ↓Z.e_var, ↓Z.e_z1, ↓Z.e_z2, ↓Z.e_via, ↓Z.e_a0, ↓Z.e_a, ↓Z.e_tup, ↓Z.e_lst, ↓Z.e_dnew, ↓Z.e_b, ↓Z.e_and, ↓Z.e_or, ↓Z.e_not, ↓Z.e_andV, ↓Z.e_orV, ↓Z.e_notV, ↓Z.e_if, ↓Z.e_call, ↓Z.e_meth, ↓Z.e_chain, ↓Z.e_no, ↓Z.e_pt, ↓Z.e_sl, Z.x_comp, Z.x_nx, Z.x_asg, Z.x_st, Z.x_if, Z.x_rt, Z.x_ret, Z.x_z2, Z.x_d, Z.x_via, Z.x_cons, Z.x_fix, Z.x_a, Z.x_tup, Z.x_lst, Z.x_ok, Z.x_not, Z.x_notV, Z.x_call, Z.x_self, Z.x_meth2, Z.x_meth1, Z.x_chain2, Z.x_chain1, Z.x_pt, Z.x_sl3, Z.x_sl2, Z.x_sl1, Z.bind_ok, Z.bind_bad, Z.bind_ite, Z.bind_bind, Z.seqK_nx, Z.seqK_rt, Z.seqK_bk, Z.seqK_ct, Z.told_d, Z.told_own, Z.told_loc, Z.toldK_own, Z.varK_own, Z.varK_d, Z.fix_d, Z.fix_own, Z.fix_loc, Z.fixK_own, Z.fixK_d, Z.celled_own, Z.celled_cell, Z.oB_bl, Z.chK_bl, Z.chainK_int, Z.contK_own, Z.cont_int, Z.cont_str, Z.cont_bl, Z.cont_non, Z.cont_lst, Z.cont_con, Z.cont_tup, Z.cont_dct, Z.cont_obj, Z.cont_cell, Z.cont_own, Z.cont_loc, Z.w_add, Z.addK_int, Z.addK_str, Z.addK_lst, Z.addK_tup, Z.w_sub, Z.w_mulG, Z.mulK_int, Z.mulK_lst, Z.w_mod, Z.w_div, Z.w_pow, Z.w_cmp, Z.w_neg, Z.w_min, Z.w_isi, Z.w_isN_n, Z.w_eq, Z.w_in, Z.w_ix, Z.w_len, Z.lenK_lst, Z.lenK_con, Z.lenK_dct, Z.w_fld, Z.isi_int, Z.isi_bl, Z.isi_str, Z.isi_non, Z.isi_lst, Z.isi_con, Z.isi_tup, Z.isi_dct, Z.isT, Z.w_isN_int, Z.w_isN_tup, Z.flv, ↓Z.e_lc, ↓Z.e_yes, ↓Z.e_itL, Z.x_itL_lst, Z.x_itL_con, ↓Z.e_itS, Z.x_itS, Z.wipe_mk, Z.zwipe_nil, Z.zwipe_cons, Z.w_dict, Z.dictK_dct, Z.w_list, Z.listK_lst, Z.listK_con, Z.listK_dct, Z.w_int_bl, Z.w_int_int, Z.w_sl, Z.slK_lst, Z.slK_con, ↓Z.e_rg1, Z.x_rg1, ↓Z.e_for, Z.x_turn, ↓Z.e_zip, Z.x_zip1, ↓Z.e_en, Z.x_en_lst, Z.w_unp, Z.unp2, Z.unp3, Z.unp4, Z.unp5, Z.setAll_cons, Z.setAll_nil, ↓Z.e_m1s, Z.x_m1s, Z.slK_str, Z.lenK_str, ↓Z.e_m2, Z.x_m2, Z.x_isL, Z.isLK_lst, Z.x_isD, Z.isDK_dct, Z.x_rv, Z.w_b2, Z.b2_append, Z.b2_extend, Z.w_b1, Z.b1_clear, Z.mod_cell, Z.mod_loc, Z.modK_own, ↓Z.e_sf, Z.x_sf1, Z.x_sf2, Z.x_sf3, ↓Z.e_mk, Z.x_mk, Z.x_sto, ↓Z.e_dp, Z.x_dp1, Z.x_dp2, Z.x_dp3, Z.x_dp4, Z.eqK_int, Z.eqK_str, Z.w_ne, Z.neK_nil, Z.neK_dct, Z.eqK_nil, Z.frz_new, Z.Sto.put_same, Z.put_put, Z.new_put, Z.new_get, Z.sfn0, Z.sfn1, Z.sfn2, Z.sfn3, Z.sfn4, Z.sfn5, Z.sfn6, Z.sfn7, Z.sfn8, decide_false, decide_true, Z.Wp_bad, Z.Wp_ok, Z.Wp_ite, List.set_cons_zero, List.set_cons_succ, List.getElem?_cons_zero, List.getElem?_cons_succ, List.cons_append, List.nil_append, List.append_nil, List.isEmpty_nil, List.isEmpty_cons, if_true, if_false, Bool.false_eq_true, true_implies, false_implies, implies_true, reduceCtorEq, Bool.not_true, Bool.not_false, eq_self, and_self, and_true, true_and, ↓e_disp, x_disp, ↓e_p, x_p1, x_p2, x_p3, ↓e_p0, mx_names, mx_ties, mx_given, Z.methK_obj T.mN_copied, *]
    exact ⟨_, _, _, _, _, past ++ [(n, N)], by rw [show (past ++ [(n, N)]).map pastD = past.map pastD ++ [.tup [.cell n, frzM N]] by rw [List.map_append]; rfl]; rfl, by rw [List.length_append]; exact Nat.le_refl _, fin⟩
  · have d1 := decide_eq_false c1
    unfold lawC
    simp only [↓Z.e_seq, ↓Z.e_asg, ↓Z.e_st_d, ↓Z.e_st_own, ↓Z.e_st_loc, ↓Z.e_next, ↓Z.e_break, ↓Z.e_cont, ↓Z.e_ifS, ↓Z.e_ret, ↓Z.e_retN, ↓Z.e_drop, ↓Z.e_never, ↓Z.e_c, ↓Z.e_var, ↓Z.e_z1, ↓Z.e_z2, ↓Z.e_via, ↓Z.e_a0, ↓Z.e_a, ↓Z.e_tup, ↓Z.e_lst, ↓Z.e_dnew, ↓Z.e_b, ↓Z.e_and, ↓Z.e_or, ↓Z.e_not, ↓Z.e_andV, ↓Z.e_orV, ↓Z.e_notV, ↓Z.e_if, ↓Z.e_call, ↓Z.e_meth, ↓Z.e_chain, ↓Z.e_no, ↓Z.e_pt, ↓Z.e_sl, Z.x_comp, Z.x_nx, Z.x_asg, Z.x_st, Z.x_if, Z.x_rt, Z.x_ret, Z.x_z2, Z.x_d, Z.x_via, Z.x_cons, Z.x_fix, Z.x_a, Z.x_tup, Z.x_lst, Z.x_ok, Z.x_not, Z.x_notV, Z.x_call, Z.x_self, Z.x_meth2, Z.x_meth1, Z.x_chain2, Z.x_chain1, Z.x_pt, Z.x_sl3, Z.x_sl2, Z.x_sl1, Z.bind_ok, Z.bind_bad, Z.bind_ite, Z.bind_bind, Z.seqK_nx, Z.seqK_rt, Z.seqK_bk, Z.seqK_ct, Z.told_d, Z.told_own, Z.told_loc, Z.toldK_own, Z.varK_own, Z.varK_d, Z.fix_d, Z.fix_own, Z.fix_loc, Z.fixK_own, Z.fixK_d, Z.celled_own, Z.celled_cell, Z.oB_bl, Z.chK_bl, Z.chainK_int, Z.contK_own, Z.cont_int, Z.cont_str, Z.cont_bl, Z.cont_non, Z.cont_lst, Z.cont_con, Z.cont_tup, Z.cont_dct, Z.cont_obj, Z.cont_cell, Z.cont_own, Z.cont_loc, Z.w_add, Z.addK_int, Z.addK_str, Z.addK_lst, Z.addK_tup, Z.w_sub, Z.w_mulG, Z.mulK_int, Z.mulK_lst, Z.w_mod, Z.w_div, Z.w_pow, Z.w_cmp, Z.w_neg, Z.w_min, Z.w_isi, Z.w_isN_n, Z.w_eq, Z.w_in, Z.w_ix, Z.w_len, Z.lenK_lst, Z.lenK_con, Z.lenK_dct, Z.w_fld, Z.isi_int, Z.isi_bl, Z.isi_str, Z.isi_non, Z.isi_lst, Z.isi_con, Z.isi_tup, Z.isi_dct, Z.isT, Z.w_isN_int, Z.w_isN_tup, Z.flv, ↓Z.e_lc, ↓Z.e_yes, ↓Z.e_itL, Z.x_itL_lst, Z.x_itL_con, ↓Z.e_itS, Z.x_itS, Z.wipe_mk, Z.zwipe_nil, Z.zwipe_cons, Z.w_dict, Z.dictK_dct, Z.w_list, Z.listK_lst, Z.listK_con, Z.listK_dct, Z.w_int_bl, Z.w_int_int, Z.w_sl, Z.slK_lst, Z.slK_con, ↓Z.e_rg1, Z.x_rg1, ↓Z.e_for, Z.x_turn, ↓Z.e_zip, Z.x_zip1, ↓Z.e_en, Z.x_en_lst, Z.w_unp, Z.unp2, Z.unp3, Z.unp4, Z.unp5, Z.setAll_cons, Z.setAll_nil, ↓Z.e_m1s, Z.x_m1s, Z.slK_str, Z.lenK_str, ↓Z.e_m2, Z.x_m2, Z.x_isL, Z.isLK_lst, Z.x_isD, Z.isDK_dct, Z.x_rv, Z.w_b2, Z.b2_append, Z.b2_extend, Z.w_b1, Z.b1_clear, Z.mod_cell, Z.mod_loc, Z.modK_own, ↓Z.e_sf, Z.x_sf1, Z.x_sf2, Z.x_sf3, ↓Z.e_mk, Z.x_mk, Z.x_sto, ↓Z.e_dp, Z.x_dp1, Z.x_dp2, Z.x_dp3, Z.x_dp4, Z.eqK_int, Z.eqK_str, Z.w_ne, Z.neK_nil, Z.neK_dct, Z.eqK_nil, Z.frz_new, Z.Sto.put_same, Z.put_put, Z.new_put, Z.new_get, Z.sfn0, Z.sfn1, Z.sfn2, Z.sfn3, Z.sfn4, Z.sfn5, Z.sfn6, Z.sfn7, Z.sfn8, decide_false, decide_true, Z.Wp_bad, Z.Wp_ok, Z.Wp_ite, List.set_cons_zero, List.set_cons_succ, List.getElem?_cons_zero, List.getElem?_cons_succ, List.cons_append, List.nil_append, List.append_nil, List.isEmpty_nil, List.isEmpty_cons, if_true, if_false, Bool.false_eq_true, true_implies, false_implies, implies_true, reduceCtorEq, Bool.not_true, Bool.not_false, eq_self, and_self, and_true, true_and, e1, z8, d1]
    exact ⟨_, _, _, _, _, past, rfl, Nat.le_succ _, W⟩
theorem lawD_ok (W : LW S n l d m ml md h P N hs past) (k0 : 0 ≤ k) (k1 : k ≤ 1000) (h0 : ps ≠ []) (hl : ps.length ≤ 18) (hps : ∀ z ∈ ps, NmOk z) : Wp (lawD (lawSt v0 cs ps n m P h (some (.d (.int k))) (some (.d (.int c))) v9 v10 S)) (fun fl s' => fl = .nx ∧ ∃ S' N', s' = lawSt v0 cs ps n m P h (some (.d (.int k))) (some (.d (.int c))) v9 v10 S' ∧ LW S' n l d m ml md h P N' hs past) XF := by
  obtain ⟨S', N', D, e⟩ := g_Ldeed (c := c) W.aw.six W.aw.net W.aw.mod W.aw.good h0 hl hps k0 k1
  unfold lawD
  simp only [↓Z.e_seq, ↓Z.e_asg, ↓Z.e_st_d, ↓Z.e_st_own, ↓Z.e_st_loc, ↓Z.e_next, ↓Z.e_break, ↓Z.e_cont, ↓Z.e_ifS, ↓Z.e_ret, ↓Z.e_retN, ↓Z.e_drop, ↓Z.e_never, ↓Z.e_c, ↓Z.e_var, ↓Z.e_z1, ↓Z.e_z2, ↓Z.e_via, ↓Z.e_a0, ↓Z.e_a, ↓Z.e_tup, ↓Z.e_lst, ↓Z.e_dnew, ↓Z.e_b, ↓Z.e_and, ↓Z.e_or, ↓Z.e_not, ↓Z.e_andV, ↓Z.e_orV, ↓Z.e_notV, ↓Z.e_if, ↓Z.e_call, ↓Z.e_meth, ↓Z.e_chain, ↓Z.e_no, ↓Z.e_pt, ↓Z.e_sl, Z.x_comp, Z.x_nx, Z.x_asg, Z.x_st, Z.x_if, Z.x_rt, Z.x_ret, Z.x_z2, Z.x_d, Z.x_via, Z.x_cons, Z.x_fix, Z.x_a, Z.x_tup, Z.x_lst, Z.x_ok, Z.x_not, Z.x_notV, Z.x_call, Z.x_self, Z.x_meth2, Z.x_meth1, Z.x_chain2, Z.x_chain1, Z.x_pt, Z.x_sl3, Z.x_sl2, Z.x_sl1, Z.bind_ok, Z.bind_bad, Z.bind_ite, Z.bind_bind, Z.seqK_nx, Z.seqK_rt, Z.seqK_bk, Z.seqK_ct, Z.told_d, Z.told_own, Z.told_loc, Z.toldK_own, Z.varK_own, Z.varK_d, Z.fix_d, Z.fix_own, Z.fix_loc, Z.fixK_own, Z.fixK_d, Z.celled_own, Z.celled_cell, Z.oB_bl, Z.chK_bl, Z.chainK_int, Z.contK_own, Z.cont_int, Z.cont_str, Z.cont_bl, Z.cont_non, Z.cont_lst, Z.cont_con, Z.cont_tup, Z.cont_dct, Z.cont_obj, Z.cont_cell, Z.cont_own, Z.cont_loc, Z.w_add, Z.addK_int, Z.addK_str, Z.addK_lst, Z.addK_tup, Z.w_sub, Z.w_mulG, Z.mulK_int, Z.mulK_lst, Z.w_mod, Z.w_div, Z.w_pow, Z.w_cmp, Z.w_neg, Z.w_min, Z.w_isi, Z.w_isN_n, Z.w_eq, Z.w_in, Z.w_ix, Z.w_len, Z.lenK_lst, Z.lenK_con, Z.lenK_dct, Z.w_fld, Z.isi_int, Z.isi_bl, Z.isi_str, Z.isi_non, Z.isi_lst, Z.isi_con, Z.isi_tup, Z.isi_dct, Z.isT, Z.w_isN_int, Z.w_isN_tup, Z.flv, ↓Z.e_lc, ↓Z.e_yes, ↓Z.e_itL, Z.x_itL_lst, Z.x_itL_con, ↓Z.e_itS, Z.x_itS, Z.wipe_mk, Z.zwipe_nil, Z.zwipe_cons, Z.w_dict, Z.dictK_dct, Z.w_list, Z.listK_lst, Z.listK_con, Z.listK_dct, Z.w_int_bl, Z.w_int_int, Z.w_sl, Z.slK_lst, Z.slK_con, ↓Z.e_rg1, Z.x_rg1, ↓Z.e_for, Z.x_turn, ↓Z.e_zip, Z.x_zip1, ↓Z.e_en, Z.x_en_lst, Z.w_unp, Z.unp2, Z.unp3, Z.unp4, Z.unp5, Z.setAll_cons, Z.setAll_nil, ↓Z.e_m1s, Z.x_m1s, Z.slK_str, Z.lenK_str, ↓Z.e_m2, Z.x_m2, Z.x_isL, Z.isLK_lst, Z.x_isD, Z.isDK_dct, Z.x_rv, Z.w_b2, Z.b2_append, Z.b2_extend, Z.w_b1, Z.b1_clear, Z.mod_cell, Z.mod_loc, Z.modK_own, ↓Z.e_sf, Z.x_sf1, Z.x_sf2, Z.x_sf3, ↓Z.e_mk, Z.x_mk, Z.x_sto, ↓Z.e_dp, Z.x_dp1, Z.x_dp2, Z.x_dp3, Z.x_dp4, Z.eqK_int, Z.eqK_str, Z.w_ne, Z.neK_nil, Z.neK_dct, Z.eqK_nil, Z.frz_new, Z.Sto.put_same, Z.put_put, Z.new_put, Z.new_get, Z.sfn0, Z.sfn1, Z.sfn2, Z.sfn3, Z.sfn4, Z.sfn5, Z.sfn6, Z.sfn7, Z.sfn8, decide_false, decide_true, Z.Wp_bad, Z.Wp_ok, Z.Wp_ite, List.set_cons_zero, List.set_cons_succ, List.getElem?_cons_zero, List.getElem?_cons_succ, List.cons_append, List.nil_append, List.append_nil, List.isEmpty_nil, List.isEmpty_cons, if_true, if_false, Bool.false_eq_true, true_implies, false_implies, implies_true, reduceCtorEq, Bool.not_true, Bool.not_false, eq_self, and_self, and_true, true_and, e]
  exact ⟨_, N', rfl, W.deed D⟩
theorem lawA_ok (W : LW S n l d m ml md h P N hs past) (k0 : 0 ≤ k) (k1 : k ≤ 1000) (hl : hs.length ≤ 90000) : Wp (lawA (lawSt v0 cs ps n m P h (some (.d (.int k))) (some (.d (.int c))) v9 v10 S)) (fun fl s' => fl = .nx ∧ ∃ S' hs', s' = lawSt v0 cs ps n m P h (some (.d (.int k))) (some (.d (.int c))) v9 v10 S' ∧ hs'.length ≤ 24 ∧ LW S' n l d m ml md h P N (hs ++ hs') past) XF := by
  obtain ⟨j, j0, j1, e1⟩ := g_draw c k 21 k0 k1 (by decide) (by decide)
  obtain ⟨S', ⟨ka, hs', hl', A⟩, e⟩ := g_Lasked (w := j) W.aw hl
  unfold lawA
  simp only [↓Z.e_seq, ↓Z.e_asg, ↓Z.e_st_d, ↓Z.e_st_own, ↓Z.e_st_loc, ↓Z.e_next, ↓Z.e_break, ↓Z.e_cont, ↓Z.e_ifS, ↓Z.e_ret, ↓Z.e_retN, ↓Z.e_drop, ↓Z.e_never, ↓Z.e_c, ↓Z.e_var, ↓Z.e_z1, ↓Z.e_z2, ↓Z.e_via, ↓Z.e_a0, ↓Z.e_a, ↓Z.e_tup, ↓Z.e_lst, ↓Z.e_dnew, ↓Z.e_b, ↓Z.e_and, ↓Z.e_or, ↓Z.e_not, ↓Z.e_andV, ↓Z.e_orV, ↓Z.e_notV, ↓Z.e_if, ↓Z.e_call, ↓Z.e_meth, ↓Z.e_chain, ↓Z.e_no, ↓Z.e_pt, ↓Z.e_sl, Z.x_comp, Z.x_nx, Z.x_asg, Z.x_st, Z.x_if, Z.x_rt, Z.x_ret, Z.x_z2, Z.x_d, Z.x_via, Z.x_cons, Z.x_fix, Z.x_a, Z.x_tup, Z.x_lst, Z.x_ok, Z.x_not, Z.x_notV, Z.x_call, Z.x_self, Z.x_meth2, Z.x_meth1, Z.x_chain2, Z.x_chain1, Z.x_pt, Z.x_sl3, Z.x_sl2, Z.x_sl1, Z.bind_ok, Z.bind_bad, Z.bind_ite, Z.bind_bind, Z.seqK_nx, Z.seqK_rt, Z.seqK_bk, Z.seqK_ct, Z.told_d, Z.told_own, Z.told_loc, Z.toldK_own, Z.varK_own, Z.varK_d, Z.fix_d, Z.fix_own, Z.fix_loc, Z.fixK_own, Z.fixK_d, Z.celled_own, Z.celled_cell, Z.oB_bl, Z.chK_bl, Z.chainK_int, Z.contK_own, Z.cont_int, Z.cont_str, Z.cont_bl, Z.cont_non, Z.cont_lst, Z.cont_con, Z.cont_tup, Z.cont_dct, Z.cont_obj, Z.cont_cell, Z.cont_own, Z.cont_loc, Z.w_add, Z.addK_int, Z.addK_str, Z.addK_lst, Z.addK_tup, Z.w_sub, Z.w_mulG, Z.mulK_int, Z.mulK_lst, Z.w_mod, Z.w_div, Z.w_pow, Z.w_cmp, Z.w_neg, Z.w_min, Z.w_isi, Z.w_isN_n, Z.w_eq, Z.w_in, Z.w_ix, Z.w_len, Z.lenK_lst, Z.lenK_con, Z.lenK_dct, Z.w_fld, Z.isi_int, Z.isi_bl, Z.isi_str, Z.isi_non, Z.isi_lst, Z.isi_con, Z.isi_tup, Z.isi_dct, Z.isT, Z.w_isN_int, Z.w_isN_tup, Z.flv, ↓Z.e_lc, ↓Z.e_yes, ↓Z.e_itL, Z.x_itL_lst, Z.x_itL_con, ↓Z.e_itS, Z.x_itS, Z.wipe_mk, Z.zwipe_nil, Z.zwipe_cons, Z.w_dict, Z.dictK_dct, Z.w_list, Z.listK_lst, Z.listK_con, Z.listK_dct, Z.w_int_bl, Z.w_int_int, Z.w_sl, Z.slK_lst, Z.slK_con, ↓Z.e_rg1, Z.x_rg1, ↓Z.e_for, Z.x_turn, ↓Z.e_zip, Z.x_zip1, ↓Z.e_en, Z.x_en_lst, Z.w_unp, Z.unp2, Z.unp3, Z.unp4, Z.unp5, Z.setAll_cons, Z.setAll_nil, ↓Z.e_m1s, Z.x_m1s, Z.slK_str, Z.lenK_str, ↓Z.e_m2, Z.x_m2, Z.x_isL, Z.isLK_lst, Z.x_isD, Z.isDK_dct, Z.x_rv, Z.w_b2, Z.b2_append, Z.b2_extend, Z.w_b1, Z.b1_clear, Z.mod_cell, Z.mod_loc, Z.modK_own, ↓Z.e_sf, Z.x_sf1, Z.x_sf2, Z.x_sf3, ↓Z.e_mk, Z.x_mk, Z.x_sto, ↓Z.e_dp, Z.x_dp1, Z.x_dp2, Z.x_dp3, Z.x_dp4, Z.eqK_int, Z.eqK_str, Z.w_ne, Z.neK_nil, Z.neK_dct, Z.eqK_nil, Z.frz_new, Z.Sto.put_same, Z.put_put, Z.new_put, Z.new_get, Z.sfn0, Z.sfn1, Z.sfn2, Z.sfn3, Z.sfn4, Z.sfn5, Z.sfn6, Z.sfn7, Z.sfn8, decide_false, decide_true, Z.Wp_bad, Z.Wp_ok, Z.Wp_ite, List.set_cons_zero, List.set_cons_succ, List.getElem?_cons_zero, List.getElem?_cons_succ, List.cons_append, List.nil_append, List.append_nil, List.isEmpty_nil, List.isEmpty_cons, if_true, if_false, Bool.false_eq_true, true_implies, false_implies, implies_true, reduceCtorEq, Bool.not_true, Bool.not_false, eq_self, and_self, and_true, true_and, e1, e]
  exact ⟨_, hs', rfl, hl', W.ask ka A⟩
variable {ns : List Int}
theorem lawF_ok (W : LW S n l d m ml md h P N [] []) (hn : ns.length ≤ 63) (h0 : ps ≠ []) (hl : ps.length ≤ 18) (hps : ∀ z ∈ ps, NmOk z) :
    Wp (lawF (lawSt v0 (ns.map .int) ps n m P h v7 v8 v9 v10 S)) (fun fl s' => fl = .nx ∧ ∃ v7 v8 v9 n l d S' N' hs past, s' = lawSt v0 (ns.map .int) ps n m P h v7 v8 v9 v10 S' ∧ hs.length ≤ 2000 ∧ past.length ≤ 63 ∧ LW S' n l d m ml md h P N' hs past) XF := by
  unfold lawF
  simp only [↓Z.e_seq, ↓Z.e_asg, ↓Z.e_st_d, ↓Z.e_st_own, ↓Z.e_st_loc, ↓Z.e_next, ↓Z.e_break, ↓Z.e_cont, ↓Z.e_ifS, ↓Z.e_ret, ↓Z.e_retN, ↓Z.e_drop, ↓Z.e_never, ↓Z.e_c, ↓Z.e_var, ↓Z.e_z1, ↓Z.e_z2, ↓Z.e_via, ↓Z.e_a0, ↓Z.e_a, ↓Z.e_tup, ↓Z.e_lst, ↓Z.e_dnew, ↓Z.e_b, ↓Z.e_and, ↓Z.e_or, ↓Z.e_not, ↓Z.e_andV, ↓Z.e_orV, ↓Z.e_notV, ↓Z.e_if, ↓Z.e_call, ↓Z.e_meth, ↓Z.e_chain, ↓Z.e_no, ↓Z.e_pt, ↓Z.e_sl, Z.x_comp, Z.x_nx, Z.x_asg, Z.x_st, Z.x_if, Z.x_rt, Z.x_ret, Z.x_z2, Z.x_d, Z.x_via, Z.x_cons, Z.x_fix, Z.x_a, Z.x_tup, Z.x_lst, Z.x_ok, Z.x_not, Z.x_notV, Z.x_call, Z.x_self, Z.x_meth2, Z.x_meth1, Z.x_chain2, Z.x_chain1, Z.x_pt, Z.x_sl3, Z.x_sl2, Z.x_sl1, Z.bind_ok, Z.bind_bad, Z.bind_ite, Z.bind_bind, Z.seqK_nx, Z.seqK_rt, Z.seqK_bk, Z.seqK_ct, Z.told_d, Z.told_own, Z.told_loc, Z.toldK_own, Z.varK_own, Z.varK_d, Z.fix_d, Z.fix_own, Z.fix_loc, Z.fixK_own, Z.fixK_d, Z.celled_own, Z.celled_cell, Z.oB_bl, Z.chK_bl, Z.chainK_int, Z.contK_own, Z.cont_int, Z.cont_str, Z.cont_bl, Z.cont_non, Z.cont_lst, Z.cont_con, Z.cont_tup, Z.cont_dct, Z.cont_obj, Z.cont_cell, Z.cont_own, Z.cont_loc, Z.w_add, Z.addK_int, Z.addK_str, Z.addK_lst, Z.addK_tup, Z.w_sub, Z.w_mulG, Z.mulK_int, Z.mulK_lst, Z.w_mod, Z.w_div, Z.w_pow, Z.w_cmp, Z.w_neg, Z.w_min, Z.w_isi, Z.w_isN_n, Z.w_eq, Z.w_in, Z.w_ix, Z.w_len, Z.lenK_lst, Z.lenK_con, Z.lenK_dct, Z.w_fld, Z.isi_int, Z.isi_bl, Z.isi_str, Z.isi_non, Z.isi_lst, Z.isi_con, Z.isi_tup, Z.isi_dct, Z.isT, Z.w_isN_int, Z.w_isN_tup, Z.flv, ↓Z.e_lc, ↓Z.e_yes, ↓Z.e_itL, Z.x_itL_lst, Z.x_itL_con, ↓Z.e_itS, Z.x_itS, Z.wipe_mk, Z.zwipe_nil, Z.zwipe_cons, Z.w_dict, Z.dictK_dct, Z.w_list, Z.listK_lst, Z.listK_con, Z.listK_dct, Z.w_int_bl, Z.w_int_int, Z.w_sl, Z.slK_lst, Z.slK_con, ↓Z.e_rg1, Z.x_rg1, ↓Z.e_for, Z.x_turn, ↓Z.e_zip, Z.x_zip1, ↓Z.e_en, Z.x_en_lst, Z.w_unp, Z.unp2, Z.unp3, Z.unp4, Z.unp5, Z.setAll_cons, Z.setAll_nil, ↓Z.e_m1s, Z.x_m1s, Z.slK_str, Z.lenK_str, ↓Z.e_m2, Z.x_m2, Z.x_isL, Z.isLK_lst, Z.x_isD, Z.isDK_dct, Z.x_rv, Z.w_b2, Z.b2_append, Z.b2_extend, Z.w_b1, Z.b1_clear, Z.mod_cell, Z.mod_loc, Z.modK_own, ↓Z.e_sf, Z.x_sf1, Z.x_sf2, Z.x_sf3, ↓Z.e_mk, Z.x_mk, Z.x_sto, ↓Z.e_dp, Z.x_dp1, Z.x_dp2, Z.x_dp3, Z.x_dp4, Z.eqK_int, Z.eqK_str, Z.w_ne, Z.neK_nil, Z.neK_dct, Z.eqK_nil, Z.frz_new, Z.Sto.put_same, Z.put_put, Z.new_put, Z.new_get, Z.sfn0, Z.sfn1, Z.sfn2, Z.sfn3, Z.sfn4, Z.sfn5, Z.sfn6, Z.sfn7, Z.sfn8, decide_false, decide_true, Z.Wp_bad, Z.Wp_ok, Z.Wp_ite, List.set_cons_zero, List.set_cons_succ, List.getElem?_cons_zero, List.getElem?_cons_succ, List.cons_append, List.nil_append, List.append_nil, List.isEmpty_nil, List.isEmpty_cons, if_true, if_false, Bool.false_eq_true, true_implies, false_implies, implies_true, reduceCtorEq, Bool.not_true, Bool.not_false, eq_self, and_self, and_true, true_and]
  refine for_w (fun j s => ∃ v7 v8 v9 n l d S' N' hs past, s = lawSt v0 (ns.map .int) ps n m P h v7 v8 v9 v10 S' ∧ hs.length ≤ 24 * j ∧ past.length ≤ j ∧ LW S' n l d m ml md h P N' hs past) Nl.d1 (fun _ _ _ => trivial) ⟨v7, v8, v9, n, l, d, S, N, [], [], rfl, by decide, by decide, W⟩ (fun j x s e hI => ?_) (fun s hI => ?_)
  · obtain ⟨v7, v8, v9, n, l, d, S1, N1, hs1, past1, rfl, l1, l2, W1⟩ := hI
    have e : (places (ns.map D.int))[j]? = some x := e
    rw [places_get, List.getElem?_map] at e
    cases en : ns[j]? with
    | none => rw [en] at e; cases e
    | some c =>
      rw [en] at e
      cases e
      have hj : j < ns.length := (List.getElem?_eq_some_iff.mp en).1
      simp only [↓Z.e_seq, ↓Z.e_asg, ↓Z.e_st_d, ↓Z.e_st_own, ↓Z.e_st_loc, ↓Z.e_next, ↓Z.e_break, ↓Z.e_cont, ↓Z.e_ifS, ↓Z.e_ret, ↓Z.e_retN, ↓Z.e_drop, ↓Z.e_never, ↓Z.e_c, ↓Z.e_var, ↓Z.e_z1, ↓Z.e_z2, ↓Z.e_via, ↓Z.e_a0, ↓Z.e_a, ↓Z.e_tup, ↓Z.e_lst, ↓Z.e_dnew, ↓Z.e_b, ↓Z.e_and, ↓Z.e_or, ↓Z.e_not, ↓Z.e_andV, ↓Z.e_orV, ↓Z.e_notV, ↓Z.e_if, ↓Z.e_call, ↓Z.e_meth, ↓Z.e_chain, ↓Z.e_no, ↓Z.e_pt, ↓Z.e_sl, Z.x_comp, Z.x_nx, Z.x_asg, Z.x_st, Z.x_if, Z.x_rt, Z.x_ret, Z.x_z2, Z.x_d, Z.x_via, Z.x_cons, Z.x_fix, Z.x_a, Z.x_tup, Z.x_lst, Z.x_ok, Z.x_not, Z.x_notV, Z.x_call, Z.x_self, Z.x_meth2, Z.x_meth1, Z.x_chain2, Z.x_chain1, Z.x_pt, Z.x_sl3, Z.x_sl2, Z.x_sl1, Z.bind_ok, Z.bind_bad, Z.bind_ite, Z.bind_bind, Z.seqK_nx, Z.seqK_rt, Z.seqK_bk, Z.seqK_ct, Z.told_d, Z.told_own, Z.told_loc, Z.toldK_own, Z.varK_own, Z.varK_d, Z.fix_d, Z.fix_own, Z.fix_loc, Z.fixK_own, Z.fixK_d, Z.celled_own, Z.celled_cell, Z.oB_bl, Z.chK_bl, Z.chainK_int, Z.contK_own, Z.cont_int, Z.cont_str, Z.cont_bl, Z.cont_non, Z.cont_lst, Z.cont_con, Z.cont_tup, Z.cont_dct, Z.cont_obj, Z.cont_cell, Z.cont_own, Z.cont_loc, Z.w_add, Z.addK_int, Z.addK_str, Z.addK_lst, Z.addK_tup, Z.w_sub, Z.w_mulG, Z.mulK_int, Z.mulK_lst, Z.w_mod, Z.w_div, Z.w_pow, Z.w_cmp, Z.w_neg, Z.w_min, Z.w_isi, Z.w_isN_n, Z.w_eq, Z.w_in, Z.w_ix, Z.w_len, Z.lenK_lst, Z.lenK_con, Z.lenK_dct, Z.w_fld, Z.isi_int, Z.isi_bl, Z.isi_str, Z.isi_non, Z.isi_lst, Z.isi_con, Z.isi_tup, Z.isi_dct, Z.isT, Z.w_isN_int, Z.w_isN_tup, Z.flv, ↓Z.e_lc, ↓Z.e_yes, ↓Z.e_itL, Z.x_itL_lst, Z.x_itL_con, ↓Z.e_itS, Z.x_itS, Z.wipe_mk, Z.zwipe_nil, Z.zwipe_cons, Z.w_dict, Z.dictK_dct, Z.w_list, Z.listK_lst, Z.listK_con, Z.listK_dct, Z.w_int_bl, Z.w_int_int, Z.w_sl, Z.slK_lst, Z.slK_con, ↓Z.e_rg1, Z.x_rg1, ↓Z.e_for, Z.x_turn, ↓Z.e_zip, Z.x_zip1, ↓Z.e_en, Z.x_en_lst, Z.w_unp, Z.unp2, Z.unp3, Z.unp4, Z.unp5, Z.setAll_cons, Z.setAll_nil, ↓Z.e_m1s, Z.x_m1s, Z.slK_str, Z.lenK_str, ↓Z.e_m2, Z.x_m2, Z.x_isL, Z.isLK_lst, Z.x_isD, Z.isDK_dct, Z.x_rv, Z.w_b2, Z.b2_append, Z.b2_extend, Z.w_b1, Z.b1_clear, Z.mod_cell, Z.mod_loc, Z.modK_own, ↓Z.e_sf, Z.x_sf1, Z.x_sf2, Z.x_sf3, ↓Z.e_mk, Z.x_mk, Z.x_sto, ↓Z.e_dp, Z.x_dp1, Z.x_dp2, Z.x_dp3, Z.x_dp4, Z.eqK_int, Z.eqK_str, Z.w_ne, Z.neK_nil, Z.neK_dct, Z.eqK_nil, Z.frz_new, Z.Sto.put_same, Z.put_put, Z.new_put, Z.new_get, Z.sfn0, Z.sfn1, Z.sfn2, Z.sfn3, Z.sfn4, Z.sfn5, Z.sfn6, Z.sfn7, Z.sfn8, decide_false, decide_true, Z.Wp_bad, Z.Wp_ok, Z.Wp_ite, List.set_cons_zero, List.set_cons_succ, List.getElem?_cons_zero, List.getElem?_cons_succ, List.cons_append, List.nil_append, List.append_nil, List.isEmpty_nil, List.isEmpty_cons, if_true, if_false, Bool.false_eq_true, true_implies, false_implies, implies_true, reduceCtorEq, Bool.not_true, Bool.not_false, eq_self, and_self, and_true, true_and]
      rw [Wp_bind]
      refine (lawC_ok (v9 := v9) (v10 := v10) (v0 := v0) (cs := ns.map .int) (ps := ps) (c := c) (k := (j : Nat)) W1 (by omega) (by omega) (by omega)).mono (fun fl s' hh => ?_) fun _ _ _ hh => hh.elim
      obtain ⟨rfl, v9, n, l, d, S2, past2, rfl, l3, W2⟩ := hh
      show Wp (zSeq lawD lawA _) _ _
      rw [e_seq, Wp_bind]
      refine (lawD_ok (v9 := v9) (v10 := v10) (v0 := v0) (cs := ns.map .int) (ps := ps) (c := c) (k := (j : Nat)) W2 (by omega) (by omega) h0 hl hps).mono (fun fl s' hh => ?_) fun _ _ _ hh => hh.elim
      obtain ⟨rfl, S3, N3, rfl, W3⟩ := hh
      show Wp (lawA _) _ _
      refine (lawA_ok (v9 := v9) (v10 := v10) (v0 := v0) (cs := ns.map .int) (ps := ps) (c := c) (k := (j : Nat)) W3 (by omega) (by omega) (by omega)).mono (fun fl s' hh => ?_) fun _ _ _ hh => hh.elim
      obtain ⟨rfl, S4, hs4, rfl, l4, W4⟩ := hh
      exact ⟨_, _, _, _, _, _, S4, N3, _, past2, rfl, by rw [List.length_append]; omega, by omega, W4⟩
  · obtain ⟨v7, v8, v9, n, l, d, S1, N1, hs1, past1, rfl, l1, l2, W1⟩ := hI
    have hp : (places (ns.map D.int)).length = ns.length := by unfold places; rw [List.length_map, List.length_zipIdx, List.length_map]
    have l1 : hs1.length ≤ 24 * (places (ns.map D.int)).length := l1
    have l2 : past1.length ≤ (places (ns.map D.int)).length := l2
    rw [hp] at l1 l2
    exact ⟨rfl, _, _, _, _, _, _, S1, N1, hs1, past1, rfl, by omega, by omega, W1⟩
theorem ff_nil {α : Type} (l : List α) : l.filter (fun _ => false) = [] := List.filter_eq_nil_iff.mpr fun _ _ => by decide
theorem past_lc (W : LW S n l d m ml md h P N hs past) (hl : past.length ≤ 63) : lcK (zSt 10) (zNot (zB (zCall v_Lstands [] (zA (z2 oIx (zVar 10) (zC (.int 0))) (zA (z2 oIx (zVar 10) (zC (.int 1))) zA0))))) (zVar 10) [10] ⟨[.d (.cell P)], fun s => s.st.get P = some (.lst (past.map pastD)), past.map pastD⟩ (lawSt v0 cs ps n m P h v7 v8 v9 v10 S) =
    .ok (.own (.lst [])) (lawSt v0 cs ps n m P h v7 v8 v9 none S) := by
  rw [lc_pure (fun _ => false) id rfl Nl.d1 W.pg (fun x hx => ?_) (by show (past.map pastD).length ≤ _; rw [List.length_map]; exact Nat.le_trans hl (by decide)), ff_nil]
  · rfl
  · obtain ⟨p, hp, rfl⟩ := List.mem_map.mp hx
    obtain ⟨l0, d0, o⟩ := W.old p hp
    have e := fun sl => g_Lstands (sl := sl) o.net frzM_mdl o.good
    have i0 : ∀ s : SD, ixK s (some (.tup [.cell p.1, frzM p.2])) (some (.int 0)) = .ok (.d (.cell p.1)) s := fun s => ixK_ok rfl
    have i1 : ∀ s : SD, ixK s (some (.tup [.cell p.1, frzM p.2])) (some (.int 1)) = .ok (.d (frzM p.2)) s := fun s => ixK_ok rfl
    unfold Z.Turn pastD
    clear W hx o
    simp only [↓Z.e_seq, ↓Z.e_asg, ↓Z.e_st_d, ↓Z.e_st_own, ↓Z.e_st_loc, ↓Z.e_next, ↓Z.e_break, ↓Z.e_cont, ↓Z.e_ifS, ↓Z.e_ret, ↓Z.e_retN, ↓Z.e_drop, ↓Z.e_never, ↓Z.e_c, ↓Z.e_var, ↓Z.e_z1, ↓Z.e_z2, ↓Z.e_via, ↓Z.e_a0, ↓Z.e_a, ↓Z.e_tup, ↓Z.e_lst, ↓Z.e_dnew, ↓Z.e_b, ↓Z.e_and, ↓Z.e_or, ↓Z.e_not, ↓Z.e_andV, ↓Z.e_orV, ↓Z.e_notV, ↓Z.e_if, ↓Z.e_call, ↓Z.e_meth, ↓Z.e_chain, ↓Z.e_no, ↓Z.e_pt, ↓Z.e_sl, Z.x_comp, Z.x_nx, Z.x_asg, Z.x_st, Z.x_if, Z.x_rt, Z.x_ret, Z.x_z2, Z.x_d, Z.x_via, Z.x_cons, Z.x_fix, Z.x_a, Z.x_tup, Z.x_lst, Z.x_ok, Z.x_not, Z.x_notV, Z.x_call, Z.x_self, Z.x_meth2, Z.x_meth1, Z.x_chain2, Z.x_chain1, Z.x_pt, Z.x_sl3, Z.x_sl2, Z.x_sl1, Z.bind_ok, Z.bind_bad, Z.bind_ite, Z.bind_bind, Z.seqK_nx, Z.seqK_rt, Z.seqK_bk, Z.seqK_ct, Z.told_d, Z.told_own, Z.told_loc, Z.toldK_own, Z.varK_own, Z.varK_d, Z.fix_d, Z.fix_own, Z.fix_loc, Z.fixK_own, Z.fixK_d, Z.celled_own, Z.celled_cell, Z.oB_bl, Z.chK_bl, Z.chainK_int, Z.contK_own, Z.cont_int, Z.cont_str, Z.cont_bl, Z.cont_non, Z.cont_lst, Z.cont_con, Z.cont_tup, Z.cont_dct, Z.cont_obj, Z.cont_cell, Z.cont_own, Z.cont_loc, Z.w_add, Z.addK_int, Z.addK_str, Z.addK_lst, Z.addK_tup, Z.w_sub, Z.w_mulG, Z.mulK_int, Z.mulK_lst, Z.w_mod, Z.w_div, Z.w_pow, Z.w_cmp, Z.w_neg, Z.w_min, Z.w_isi, Z.w_isN_n, Z.w_eq, Z.w_in, Z.w_ix, Z.w_len, Z.lenK_lst, Z.lenK_con, Z.lenK_dct, Z.w_fld, Z.isi_int, Z.isi_bl, Z.isi_str, Z.isi_non, Z.isi_lst, Z.isi_con, Z.isi_tup, Z.isi_dct, Z.isT, Z.w_isN_int, Z.w_isN_tup, Z.flv, ↓Z.e_lc, ↓Z.e_yes, ↓Z.e_itL, Z.x_itL_lst, Z.x_itL_con, ↓Z.e_itS, Z.x_itS, Z.wipe_mk, Z.zwipe_nil, Z.zwipe_cons, Z.w_dict, Z.dictK_dct, Z.w_list, Z.listK_lst, Z.listK_con, Z.listK_dct, Z.w_int_bl, Z.w_int_int, Z.w_sl, Z.slK_lst, Z.slK_con, ↓Z.e_rg1, Z.x_rg1, ↓Z.e_for, Z.x_turn, ↓Z.e_zip, Z.x_zip1, ↓Z.e_en, Z.x_en_lst, Z.w_unp, Z.unp2, Z.unp3, Z.unp4, Z.unp5, Z.setAll_cons, Z.setAll_nil, ↓Z.e_m1s, Z.x_m1s, Z.slK_str, Z.lenK_str, ↓Z.e_m2, Z.x_m2, Z.x_isL, Z.isLK_lst, Z.x_isD, Z.isDK_dct, Z.x_rv, Z.w_b2, Z.b2_append, Z.b2_extend, Z.w_b1, Z.b1_clear, Z.mod_cell, Z.mod_loc, Z.modK_own, ↓Z.e_sf, Z.x_sf1, Z.x_sf2, Z.x_sf3, ↓Z.e_mk, Z.x_mk, Z.x_sto, ↓Z.e_dp, Z.x_dp1, Z.x_dp2, Z.x_dp3, Z.x_dp4, Z.eqK_int, Z.eqK_str, Z.w_ne, Z.neK_nil, Z.neK_dct, Z.eqK_nil, Z.frz_new, Z.Sto.put_same, Z.put_put, Z.new_put, Z.new_get, Z.sfn0, Z.sfn1, Z.sfn2, Z.sfn3, Z.sfn4, Z.sfn5, Z.sfn6, Z.sfn7, Z.sfn8, decide_false, decide_true, Z.Wp_bad, Z.Wp_ok, Z.Wp_ite, List.set_cons_zero, List.set_cons_succ, List.getElem?_cons_zero, List.getElem?_cons_succ, List.cons_append, List.nil_append, List.append_nil, List.isEmpty_nil, List.isEmpty_cons, if_true, if_false, Bool.false_eq_true, true_implies, false_implies, implies_true, reduceCtorEq, Bool.not_true, Bool.not_false, eq_self, and_self, and_true, true_and, *]
theorem held_lc (W : LW S n l d m ml md h P N hs past) (hl : hs.length ≤ 2000) : lcK (zSt 10) (zB (z2 oNe (zCall v_Lrow [] (zA (z2 oIx (zVar 10) (zC (.int 0))) zA0)) (z2 oIx (zVar 10) (zC (.int 1))))) (zVar 10) [10] ⟨[.d (.cell h)], fun s => s.st.get h = some (.lst (hs.map pairD)), hs.map pairD⟩ (lawSt v0 cs ps n m P h v7 v8 v9 v10 S) =
    .ok (.own (.lst [])) (lawSt v0 cs ps n m P h v7 v8 v9 none S) := by
  rw [lc_pure (fun _ => false) id rfl Nl.d1 W.aw.held (fun x hx => ?_) (by show (hs.map pairD).length ≤ _; rw [List.length_map]; exact Nat.le_trans hl (by decide)), ff_nil]
  · rfl
  · obtain ⟨q, hq, rfl⟩ := List.mem_map.mp hx
    obtain ⟨a1, a2⟩ := W.aw.al q hq
    have e := fun s : SD => g_row (s := s) q
    have i0 : ∀ s : SD, ixK s (some (.tup [tieD q, row6 q])) (some (.int 0)) = .ok (.d (tieD q)) s := fun s => ixK_ok rfl
    have i1 : ∀ s : SD, ixK s (some (.tup [tieD q, row6 q])) (some (.int 1)) = .ok (.d (row6 q)) s := fun s => ixK_ok rfl
    have k3 : ∀ s : SD, neK s (some (row6 q)) (some (row6 q)) = .ok (.d (.bl false)) s := fun s => neK_tup (s := s) (eq_row a1 a2)
    have r3 : ∀ s : SD, s.cont (.d (row6 q)) = some (row6 q) := fun _ => rfl
    unfold Z.Turn pairD
    clear W hx
    simp only [↓Z.e_seq, ↓Z.e_asg, ↓Z.e_st_d, ↓Z.e_st_own, ↓Z.e_st_loc, ↓Z.e_next, ↓Z.e_break, ↓Z.e_cont, ↓Z.e_ifS, ↓Z.e_ret, ↓Z.e_retN, ↓Z.e_drop, ↓Z.e_never, ↓Z.e_c, ↓Z.e_var, ↓Z.e_z1, ↓Z.e_z2, ↓Z.e_via, ↓Z.e_a0, ↓Z.e_a, ↓Z.e_tup, ↓Z.e_lst, ↓Z.e_dnew, ↓Z.e_b, ↓Z.e_and, ↓Z.e_or, ↓Z.e_not, ↓Z.e_andV, ↓Z.e_orV, ↓Z.e_notV, ↓Z.e_if, ↓Z.e_call, ↓Z.e_meth, ↓Z.e_chain, ↓Z.e_no, ↓Z.e_pt, ↓Z.e_sl, Z.x_comp, Z.x_nx, Z.x_asg, Z.x_st, Z.x_if, Z.x_rt, Z.x_ret, Z.x_z2, Z.x_d, Z.x_via, Z.x_cons, Z.x_fix, Z.x_a, Z.x_tup, Z.x_lst, Z.x_ok, Z.x_not, Z.x_notV, Z.x_call, Z.x_self, Z.x_meth2, Z.x_meth1, Z.x_chain2, Z.x_chain1, Z.x_pt, Z.x_sl3, Z.x_sl2, Z.x_sl1, Z.bind_ok, Z.bind_bad, Z.bind_ite, Z.bind_bind, Z.seqK_nx, Z.seqK_rt, Z.seqK_bk, Z.seqK_ct, Z.told_d, Z.told_own, Z.told_loc, Z.toldK_own, Z.varK_own, Z.varK_d, Z.fix_d, Z.fix_own, Z.fix_loc, Z.fixK_own, Z.fixK_d, Z.celled_own, Z.celled_cell, Z.oB_bl, Z.chK_bl, Z.chainK_int, Z.contK_own, Z.cont_int, Z.cont_str, Z.cont_bl, Z.cont_non, Z.cont_lst, Z.cont_con, Z.cont_tup, Z.cont_dct, Z.cont_obj, Z.cont_cell, Z.cont_own, Z.cont_loc, Z.w_add, Z.addK_int, Z.addK_str, Z.addK_lst, Z.addK_tup, Z.w_sub, Z.w_mulG, Z.mulK_int, Z.mulK_lst, Z.w_mod, Z.w_div, Z.w_pow, Z.w_cmp, Z.w_neg, Z.w_min, Z.w_isi, Z.w_isN_n, Z.w_eq, Z.w_in, Z.w_ix, Z.w_len, Z.lenK_lst, Z.lenK_con, Z.lenK_dct, Z.w_fld, Z.isi_int, Z.isi_bl, Z.isi_str, Z.isi_non, Z.isi_lst, Z.isi_con, Z.isi_tup, Z.isi_dct, Z.isT, Z.w_isN_int, Z.w_isN_tup, Z.flv, ↓Z.e_lc, ↓Z.e_yes, ↓Z.e_itL, Z.x_itL_lst, Z.x_itL_con, ↓Z.e_itS, Z.x_itS, Z.wipe_mk, Z.zwipe_nil, Z.zwipe_cons, Z.w_dict, Z.dictK_dct, Z.w_list, Z.listK_lst, Z.listK_con, Z.listK_dct, Z.w_int_bl, Z.w_int_int, Z.w_sl, Z.slK_lst, Z.slK_con, ↓Z.e_rg1, Z.x_rg1, ↓Z.e_for, Z.x_turn, ↓Z.e_zip, Z.x_zip1, ↓Z.e_en, Z.x_en_lst, Z.w_unp, Z.unp2, Z.unp3, Z.unp4, Z.unp5, Z.setAll_cons, Z.setAll_nil, ↓Z.e_m1s, Z.x_m1s, Z.slK_str, Z.lenK_str, ↓Z.e_m2, Z.x_m2, Z.x_isL, Z.isLK_lst, Z.x_isD, Z.isDK_dct, Z.x_rv, Z.w_b2, Z.b2_append, Z.b2_extend, Z.w_b1, Z.b1_clear, Z.mod_cell, Z.mod_loc, Z.modK_own, ↓Z.e_sf, Z.x_sf1, Z.x_sf2, Z.x_sf3, ↓Z.e_mk, Z.x_mk, Z.x_sto, ↓Z.e_dp, Z.x_dp1, Z.x_dp2, Z.x_dp3, Z.x_dp4, Z.eqK_int, Z.eqK_str, Z.w_ne, Z.neK_nil, Z.neK_dct, Z.eqK_nil, Z.frz_new, Z.Sto.put_same, Z.put_put, Z.new_put, Z.new_get, Z.sfn0, Z.sfn1, Z.sfn2, Z.sfn3, Z.sfn4, Z.sfn5, Z.sfn6, Z.sfn7, Z.sfn8, decide_false, decide_true, Z.Wp_bad, Z.Wp_ok, Z.Wp_ite, List.set_cons_zero, List.set_cons_succ, List.getElem?_cons_zero, List.getElem?_cons_succ, List.cons_append, List.nil_append, List.append_nil, List.isEmpty_nil, List.isEmpty_cons, if_true, if_false, Bool.false_eq_true, true_implies, false_implies, implies_true, reduceCtorEq, Bool.not_true, Bool.not_false, eq_self, and_self, and_true, true_and, *]
theorem lawE_ok (W : LW S n l d m ml md h P N hs past) (h1 : hs.length ≤ 2000) (h2 : past.length ≤ 63) : Wp (lawE (lawSt v0 cs ps n m P h v7 v8 v9 v10 S)) (fun fl s' => fl = .rt (.d (.bl true))) XF := by
  have k1 := past_lc (v0 := v0) (cs := cs) (ps := ps) (v7 := v7) (v8 := v8) (v9 := v9) (v10 := v10) W h2
  have k2 := held_lc (v0 := v0) (cs := cs) (ps := ps) (v7 := v7) (v8 := v8) (v9 := v9) (v10 := none) W h1
  have k3 : ∀ sl, itLK (.d (.cell P)) ⟨sl, S⟩ = .ok ⟨[.d (.cell P)], fun s => s.st.get P = some (.lst (past.map pastD)), past.map pastD⟩ ⟨sl, S⟩ := fun sl => itL_cell (s := ⟨sl, S⟩) W.pg
  have k4 : ∀ sl, itLK (.d (.cell h)) ⟨sl, S⟩ = .ok ⟨[.d (.cell h)], fun s => s.st.get h = some (.lst (hs.map pairD)), hs.map pairD⟩ ⟨sl, S⟩ := fun sl => itL_cell (s := ⟨sl, S⟩) W.aw.held
  unfold lawE
  simp only [↓Z.e_seq, ↓Z.e_asg, ↓Z.e_st_d, ↓Z.e_st_own, ↓Z.e_st_loc, ↓Z.e_next, ↓Z.e_break, ↓Z.e_cont, ↓Z.e_ifS, ↓Z.e_ret, ↓Z.e_retN, ↓Z.e_drop, ↓Z.e_never, ↓Z.e_c, ↓Z.e_var, ↓Z.e_z1, ↓Z.e_z2, ↓Z.e_via, ↓Z.e_a0, ↓Z.e_a, ↓Z.e_tup, ↓Z.e_lst, ↓Z.e_dnew, ↓Z.e_b, ↓Z.e_and, ↓Z.e_or, ↓Z.e_not, ↓Z.e_andV, ↓Z.e_orV, ↓Z.e_notV, ↓Z.e_if, ↓Z.e_call, ↓Z.e_meth, ↓Z.e_chain, ↓Z.e_no, ↓Z.e_pt, ↓Z.e_sl, Z.x_comp, Z.x_nx, Z.x_asg, Z.x_st, Z.x_if, Z.x_rt, Z.x_ret, Z.x_z2, Z.x_d, Z.x_via, Z.x_cons, Z.x_fix, Z.x_a, Z.x_tup, Z.x_lst, Z.x_ok, Z.x_not, Z.x_notV, Z.x_call, Z.x_self, Z.x_meth2, Z.x_meth1, Z.x_chain2, Z.x_chain1, Z.x_pt, Z.x_sl3, Z.x_sl2, Z.x_sl1, Z.bind_ok, Z.bind_bad, Z.bind_ite, Z.bind_bind, Z.seqK_nx, Z.seqK_rt, Z.seqK_bk, Z.seqK_ct, Z.told_d, Z.told_own, Z.told_loc, Z.toldK_own, Z.varK_own, Z.varK_d, Z.fix_d, Z.fix_own, Z.fix_loc, Z.fixK_own, Z.fixK_d, Z.celled_own, Z.celled_cell, Z.oB_bl, Z.chK_bl, Z.chainK_int, Z.contK_own, Z.cont_int, Z.cont_str, Z.cont_bl, Z.cont_non, Z.cont_lst, Z.cont_con, Z.cont_tup, Z.cont_dct, Z.cont_obj, Z.cont_cell, Z.cont_own, Z.cont_loc, Z.w_add, Z.addK_int, Z.addK_str, Z.addK_lst, Z.addK_tup, Z.w_sub, Z.w_mulG, Z.mulK_int, Z.mulK_lst, Z.w_mod, Z.w_div, Z.w_pow, Z.w_cmp, Z.w_neg, Z.w_min, Z.w_isi, Z.w_isN_n, Z.w_eq, Z.w_in, Z.w_ix, Z.w_len, Z.lenK_lst, Z.lenK_con, Z.lenK_dct, Z.w_fld, Z.isi_int, Z.isi_bl, Z.isi_str, Z.isi_non, Z.isi_lst, Z.isi_con, Z.isi_tup, Z.isi_dct, Z.isT, Z.w_isN_int, Z.w_isN_tup, Z.flv, ↓Z.e_lc, ↓Z.e_yes, ↓Z.e_itL, Z.x_itL_lst, Z.x_itL_con, ↓Z.e_itS, Z.x_itS, Z.wipe_mk, Z.zwipe_nil, Z.zwipe_cons, Z.w_dict, Z.dictK_dct, Z.w_list, Z.listK_lst, Z.listK_con, Z.listK_dct, Z.w_int_bl, Z.w_int_int, Z.w_sl, Z.slK_lst, Z.slK_con, ↓Z.e_rg1, Z.x_rg1, ↓Z.e_for, Z.x_turn, ↓Z.e_zip, Z.x_zip1, ↓Z.e_en, Z.x_en_lst, Z.w_unp, Z.unp2, Z.unp3, Z.unp4, Z.unp5, Z.setAll_cons, Z.setAll_nil, ↓Z.e_m1s, Z.x_m1s, Z.slK_str, Z.lenK_str, ↓Z.e_m2, Z.x_m2, Z.x_isL, Z.isLK_lst, Z.x_isD, Z.isDK_dct, Z.x_rv, Z.w_b2, Z.b2_append, Z.b2_extend, Z.w_b1, Z.b1_clear, Z.mod_cell, Z.mod_loc, Z.modK_own, ↓Z.e_sf, Z.x_sf1, Z.x_sf2, Z.x_sf3, ↓Z.e_mk, Z.x_mk, Z.x_sto, ↓Z.e_dp, Z.x_dp1, Z.x_dp2, Z.x_dp3, Z.x_dp4, Z.eqK_int, Z.eqK_str, Z.w_ne, Z.neK_nil, Z.neK_dct, Z.eqK_nil, Z.frz_new, Z.Sto.put_same, Z.put_put, Z.new_put, Z.new_get, Z.sfn0, Z.sfn1, Z.sfn2, Z.sfn3, Z.sfn4, Z.sfn5, Z.sfn6, Z.sfn7, Z.sfn8, decide_false, decide_true, Z.Wp_bad, Z.Wp_ok, Z.Wp_ite, List.set_cons_zero, List.set_cons_succ, List.getElem?_cons_zero, List.getElem?_cons_succ, List.cons_append, List.nil_append, List.append_nil, List.isEmpty_nil, List.isEmpty_cons, if_true, if_false, Bool.false_eq_true, true_implies, false_implies, implies_true, reduceCtorEq, Bool.not_true, Bool.not_false, eq_self, and_self, and_true, true_and, k1, k2, k3, k4]
/-- the store as the loop finds it -/
def lawS (S : Sto) : Sto := ((((netS S).new (.lst [])).new (.dct [])).new (.dct (modF (S.nx + 3) (S.nx + 3 + 1) 0))).new (.lst [])
def lawS2 (S : Sto) : Sto := (lawS S).new (.lst [])
theorem netS_nx : (netS S).nx = S.nx + 3 := rfl
theorem good0 : Good ⟨[], [], 0⟩ := ⟨List.nodup_nil, fun z hz => (by cases hz), Nat.zero_le _, List.Pairwise.nil, Nat.zero_le _, fun q hq => (by cases hq), fun q hq => (by cases hq)⟩
theorem lawS2_get (i : Nat) : (lawS2 S).get i = if i = S.nx + 3 + 1 + 1 + 1 + 1 then some (.lst []) else if i = S.nx + 3 + 1 + 1 + 1 then some (.lst []) else if i = S.nx + 3 + 1 + 1 then some (.dct (modF (S.nx + 3) (S.nx + 3 + 1) 0)) else if i = S.nx + 3 + 1 then some (.dct []) else if i = S.nx + 3 then some (.lst []) else (netS S).get i := rfl
theorem law0 : LW (lawS2 S) S.nx (S.nx + 1) (S.nx + 2) (S.nx + 3 + 1 + 1) (S.nx + 3) (S.nx + 3 + 1) (S.nx + 3 + 1 + 1 + 1 + 1) (S.nx + 3 + 1 + 1 + 1) ⟨[], [], 0⟩ [] [] := by
  have nx : (lawS2 S).nx = S.nx + 8 := rfl
  refine ⟨⟨⟨by omega, by omega, by omega, by omega, by omega, by omega, ⟨by omega, by omega, by omega⟩, ⟨by omega, by omega, by omega⟩, ⟨by omega, by omega, by omega⟩, ⟨by omega, by omega, by omega⟩, ⟨by omega, by omega, by omega⟩⟩, ⟨?_, ?_, ?_⟩, ⟨?_, ?_, ?_⟩, good0, by omega, ⟨by omega, by omega, by omega, by omega, by omega, by omega⟩, ?_, fun q hq => by cases hq⟩, by omega, fun j hj => ?_, ?_, fun p hp => by cases hp⟩
  · rw [lawS2_get, if_neg (by omega), if_neg (by omega), if_neg (by omega), if_neg (by omega), if_neg (by omega)]; unfold netS; simp
  · rw [lawS2_get, if_neg (by omega), if_neg (by omega), if_neg (by omega), if_neg (by omega), if_neg (by omega)]; unfold netS; simp
  · rw [lawS2_get, if_neg (by omega), if_neg (by omega), if_neg (by omega), if_neg (by omega), if_neg (by omega)]; unfold netS; simp [rowsG]
  · rw [lawS2_get, if_neg (by omega), if_neg (by omega), if_pos rfl]
  · rw [lawS2_get, if_neg (by omega), if_neg (by omega), if_neg (by omega), if_neg (by omega), if_pos rfl]; rfl
  · rw [lawS2_get, if_neg (by omega), if_neg (by omega), if_neg (by omega), if_pos rfl]; rfl
  · rw [lawS2_get, if_pos rfl]; rfl
  · simp only [List.mem_cons, List.not_mem_nil, or_false] at hj
    omega
  · rw [lawS2_get, if_neg (by omega), if_pos rfl]; rfl
theorem g_law (ns : List Int) (S : Sto) : Wp (b_law ⟨[some (.d (.con (ns.map .int))), none, none, none, none, none, none, none, none, none, none], S⟩) (fun fl _ => fl = .rt (.d (.bl true))) XF := by
  obtain ⟨ps, h0, hps, hl, ep⟩ := g_pool (((ns.take 63).take 3).sum)
  have c1 : Z.cutD (ns.map D.int) none (some 63) = (ns.take 63).map D.int := by rw [cutD_to _ (by decide), ← List.map_take]; rfl
  have c2 : Z.cutD ((ns.take 63).map D.int) none (some 3) = ((ns.take 63).take 3).map D.int := by rw [cutD_to _ (by decide), ← List.map_take]; rfl
  have su := fun s : SD => sum_own (s := s) (ds := ((ns.take 63).take 3).map D.int) (dints_ints _)
  have e7 := fun sl => mkR_ok (sl := sl) (S := S) (i := S.nx) (F := v_Net_init) fun s => g_Net_init (sl := s.sl) (S := S)
  have hn : (ns.take 63).length ≤ 63 := by rw [List.length_take]; omega
  have W := law0 (S := S)
  have st := fun sl => g_Lstands (sl := sl) W.aw.net W.aw.mod.mdl W.aw.good
  have wh := fun (s : SD) => g_whole (s := s) M60
  have dm : ∀ a b c : D, dmerge [(.inr "names", a), (.inr "ties", b), (.inr "given", c)] = [(.inr "names", a), (.inr "ties", b), (.inr "given", c)] := fun _ _ _ => rfl
  have l3 : ∀ a b c : Key × D, ([a, b, c].length ≤ 15) = True := fun _ _ _ => eq_true (by show 3 ≤ 15; decide)
  unfold lawS2 lawS at st
  unfold modF at st
  rw [law_eq]
  simp only [↓Z.e_seq, ↓Z.e_asg, ↓Z.e_st_d, ↓Z.e_st_own, ↓Z.e_st_loc, ↓Z.e_next, ↓Z.e_break, ↓Z.e_cont, ↓Z.e_ifS, ↓Z.e_ret, ↓Z.e_retN, ↓Z.e_drop, ↓Z.e_never, ↓Z.e_c, ↓Z.e_var, ↓Z.e_z1, ↓Z.e_z2, ↓Z.e_via, ↓Z.e_a0, ↓Z.e_a, ↓Z.e_tup, ↓Z.e_lst, ↓Z.e_dnew, ↓Z.e_b, ↓Z.e_and, ↓Z.e_or, ↓Z.e_not, ↓Z.e_andV, ↓Z.e_orV, ↓Z.e_notV, ↓Z.e_if, ↓Z.e_call, ↓Z.e_meth, ↓Z.e_chain, ↓Z.e_no, ↓Z.e_pt, ↓Z.e_sl, Z.x_comp, Z.x_nx, Z.x_asg, Z.x_st, Z.x_if, Z.x_rt, Z.x_ret, Z.x_z2, Z.x_d, Z.x_via, Z.x_cons, Z.x_fix, Z.x_a, Z.x_tup, Z.x_lst, Z.x_ok, Z.x_not, Z.x_notV, Z.x_call, Z.x_self, Z.x_meth2, Z.x_meth1, Z.x_chain2, Z.x_chain1, Z.x_pt, Z.x_sl3, Z.x_sl2, Z.x_sl1, Z.bind_ok, Z.bind_bad, Z.bind_ite, Z.bind_bind, Z.seqK_nx, Z.seqK_rt, Z.seqK_bk, Z.seqK_ct, Z.told_d, Z.told_own, Z.told_loc, Z.toldK_own, Z.varK_own, Z.varK_d, Z.fix_d, Z.fix_own, Z.fix_loc, Z.fixK_own, Z.fixK_d, Z.celled_own, Z.celled_cell, Z.oB_bl, Z.chK_bl, Z.chainK_int, Z.contK_own, Z.cont_int, Z.cont_str, Z.cont_bl, Z.cont_non, Z.cont_lst, Z.cont_con, Z.cont_tup, Z.cont_dct, Z.cont_obj, Z.cont_cell, Z.cont_own, Z.cont_loc, Z.w_add, Z.addK_int, Z.addK_str, Z.addK_lst, Z.addK_tup, Z.w_sub, Z.w_mulG, Z.mulK_int, Z.mulK_lst, Z.w_mod, Z.w_div, Z.w_pow, Z.w_cmp, Z.w_neg, Z.w_min, Z.w_isi, Z.w_isN_n, Z.w_eq, Z.w_in, Z.w_ix, Z.w_len, Z.lenK_lst, Z.lenK_con, Z.lenK_dct, Z.w_fld, Z.isi_int, Z.isi_bl, Z.isi_str, Z.isi_non, Z.isi_lst, Z.isi_con, Z.isi_tup, Z.isi_dct, Z.isT, Z.w_isN_int, Z.w_isN_tup, Z.flv, ↓Z.e_lc, ↓Z.e_yes, ↓Z.e_itL, Z.x_itL_lst, Z.x_itL_con, ↓Z.e_itS, Z.x_itS, Z.wipe_mk, Z.zwipe_nil, Z.zwipe_cons, Z.w_dict, Z.dictK_dct, Z.w_list, Z.listK_lst, Z.listK_con, Z.listK_dct, Z.w_int_bl, Z.w_int_int, Z.w_sl, Z.slK_lst, Z.slK_con, ↓Z.e_rg1, Z.x_rg1, ↓Z.e_for, Z.x_turn, ↓Z.e_zip, Z.x_zip1, ↓Z.e_en, Z.x_en_lst, Z.w_unp, Z.unp2, Z.unp3, Z.unp4, Z.unp5, Z.setAll_cons, Z.setAll_nil, ↓Z.e_m1s, Z.x_m1s, Z.slK_str, Z.lenK_str, ↓Z.e_m2, Z.x_m2, Z.x_isL, Z.isLK_lst, Z.x_isD, Z.isDK_dct, Z.x_rv, Z.w_b2, Z.b2_append, Z.b2_extend, Z.w_b1, Z.b1_clear, Z.mod_cell, Z.mod_loc, Z.modK_own, ↓Z.e_sf, Z.x_sf1, Z.x_sf2, Z.x_sf3, ↓Z.e_mk, Z.x_mk, Z.x_sto, ↓Z.e_dp, Z.x_dp1, Z.x_dp2, Z.x_dp3, Z.x_dp4, Z.eqK_int, Z.eqK_str, Z.w_ne, Z.neK_nil, Z.neK_dct, Z.eqK_nil, Z.frz_new, Z.Sto.put_same, Z.put_put, Z.new_put, Z.new_get, Z.sfn0, Z.sfn1, Z.sfn2, Z.sfn3, Z.sfn4, Z.sfn5, Z.sfn6, Z.sfn7, Z.sfn8, decide_false, decide_true, Z.Wp_bad, Z.Wp_ok, Z.Wp_ite, List.set_cons_zero, List.set_cons_succ, List.getElem?_cons_zero, List.getElem?_cons_succ, List.cons_append, List.nil_append, List.append_nil, List.isEmpty_nil, List.isEmpty_cons, if_true, if_false, Bool.false_eq_true, true_implies, false_implies, implies_true, reduceCtorEq, Bool.not_true, Bool.not_false, eq_self, and_self, and_true, true_and, ↓e_disp, x_disp, ↓e_p, x_p1, x_p2, x_p3, ↓e_p0, cp60, pow60, new_nx, netS_nx, c1, c2, su, ep, e7, st, wh, dm, l3]
  rw [Wp_bind]
  refine (lawF_ok (v0 := some (.d (.con (ns.map .int)))) (v7 := none) (v8 := none) (v9 := none) (v10 := none) W hn h0 hl hps).mono (fun fl s' hh => ?_) fun _ _ _ hh => hh.elim
  obtain ⟨rfl, v7, v8, v9, n, l, d, S1, N1, hs1, past1, rfl, l1, l2, W1⟩ := hh
  show Wp (lawE _) _ _
  exact lawE_ok W1 l1 l2
end
end T

namespace T
open PySem PySem.Spec PyProof.Rows L2 M Z
open Classical
section
variable {P : Program} {w : World} {K : PySem.W.Frag} {mg : Str → Option Value} {base : Heap}
/-- the law's promise -/
def sp_law (K : PySem.W.Frag) : Sp := fun vs H Q _ => ∃ (a : Addr) (ns : List Int), vs = [.ref a] ∧ SqL K H a (ns.map V.int) ∧ ∀ H', Q (.bl true) H'
theorem reps_ints {G : Gc} {p : Wr} : ∀ ns : List Int, Reps G p (ns.map D.int) (ns.map V.int)
  | [] => rfl
  | n :: ns => ⟨.int n, ns.map V.int, rfl, rfl, reps_ints ns⟩
theorem law_sp {vs : List V} {H : Hp} {Q : VK} {E : XK} (h : sp_law K vs H Q E) : spF ⟨K, mg⟩ 1 v_law vs H Q (fun _ _ _ => False) := by
  obtain ⟨a, ns, rfl, hS, q⟩ := h
  refine ⟨rfl, ⟨fun _ => False, ⟨fun _ => a, 0, fun _ => False, H⟩, ⟨0, fun _ => none⟩⟩, 0, ⟨fun _ => a, 0, fun _ => False, H⟩, [], [], ⟨0, fun _ => none⟩, [.con (ns.map .int)], rfl, ?_, ?_, ?_⟩
  · exact { len := rfl, pn := rfl, nx := Nat.le_refl _, ebd := fun i d e => (by cases e), old := fun _ _ => rfl, bd := fun i d e => (by cases e), cel := fun i d e => (by cases e), inj := fun i j d e h => (by cases h), born := fun i d e => (by cases e), frm := fun a h => h.elim, kp := fun b o e _ => ⟨fun f => f.elim, .inl e⟩, sub := fun b o e => ⟨o, e⟩, grw := fun _ _ _ h => h, dom := fun a h => h.elim, ent := fun k e q => (by simp at q), own := fun k x a q => (by simp at q), sep := fun j k x y a q => (by simp at q) }
  · exact ⟨.ref a, [], rfl, ⟨a, ns.map V.int, rfl, hS.imp (fun r => ⟨id, r⟩) id, reps_ints ns⟩, rfl⟩
  · obtain ⟨fl, s', e, rfl⟩ := (g_law ns ⟨0, fun _ => none⟩).is
    have e2 : v_law [.con (ns.map .int)] ⟨0, fun _ => none⟩ = .ok (.d (.bl true)) s' := zFn_ok e rfl
    rw [e2]
    intro v p' h'
    obtain ⟨v', e3, r⟩ := h'.ent 0 (.d (.bl true)) rfl
    cases e3
    obtain rfl : v = .bl true := r
    exact q _
end
end T

open PySem PySem.Spec PyProof.Rows
namespace T
open PySem PySem.Spec PyProof.Rows L2 M Z
set_option maxHeartbeats 0 in
theorem all_mk {l : PySem.W.OpenLaw} {w : World} {K : PySem.W.Frag} {h : Heap} {mg : Str → Option Value} {fa : Addr} (X : K.In h) (G : h.Ns mainGlobals mg) (hfa : mg "law" = some (.ref fa))
    {CTie : Addr}
    {CNet : Addr}
    {t_g_LETTERS : Tok}
    {t_g_MOST_LETTERS : Tok}
    {t_g_MOST : Tok}
    {t_g_MOST_PLACES : Tok}
    {t_g_MOST_TIES : Tok}
    {f1 : Addr} {od1 an1 : Option Addr} {sl1 : Array (Option Value)} {oc1 kV1 dc1 pm1 cd1 ct1 : Value}
    {f2 : Addr} {od2 an2 : Option Addr} {sl2 : Array (Option Value)} {oc2 kV2 dc2 pm2 cd2 ct2 : Value}
    {f3 : Addr} {od3 an3 : Option Addr} {sl3 : Array (Option Value)} {oc3 kV3 dc3 pm3 cd3 ct3 : Value}
    {f4 : Addr} {od4 an4 : Option Addr} {sl4 : Array (Option Value)} {oc4 kV4 dc4 pm4 cd4 ct4 : Value}
    {f5 : Addr} {od5 an5 : Option Addr} {sl5 : Array (Option Value)} {oc5 kV5 dc5 pm5 cd5 ct5 : Value}
    {f6 : Addr} {od6 an6 : Option Addr} {sl6 : Array (Option Value)} {oc6 kV6 dc6 pm6 cd6 ct6 : Value}
    {f7 : Addr} {od7 an7 : Option Addr} {sl7 : Array (Option Value)} {oc7 kV7 dc7 pm7 cd7 ct7 : Value}
    {f8 : Addr} {od8 an8 : Option Addr} {sl8 : Array (Option Value)} {oc8 kV8 dc8 pm8 cd8 ct8 : Value}
    {f9 : Addr} {od9 an9 : Option Addr} {sl9 : Array (Option Value)} {oc9 kV9 dc9 pm9 cd9 ct9 : Value}
    {f10 : Addr} {od10 an10 : Option Addr} {sl10 : Array (Option Value)} {oc10 kV10 dc10 pm10 cd10 ct10 : Value}
    {f11 : Addr} {od11 an11 : Option Addr} {sl11 : Array (Option Value)} {oc11 kV11 dc11 pm11 cd11 ct11 : Value}
    {f12 : Addr} {od12 an12 : Option Addr} {sl12 : Array (Option Value)} {oc12 kV12 dc12 pm12 cd12 ct12 : Value}
    {f13 : Addr} {od13 an13 : Option Addr} {sl13 : Array (Option Value)} {oc13 kV13 dc13 pm13 cd13 ct13 : Value}
    {f14 : Addr} {od14 an14 : Option Addr} {sl14 : Array (Option Value)} {oc14 kV14 dc14 pm14 cd14 ct14 : Value}
    {T14 : Addr} {ocT14 : Value} {odT14 : Option Addr} {nT14 : Nat} {slT14 : Array (Option Value)} {tk14_0 tk14_2 : Tok}
    {f15 : Addr} {od15 an15 : Option Addr} {sl15 : Array (Option Value)} {oc15 kV15 dc15 pm15 cd15 ct15 : Value}
    {f16 : Addr} {od16 an16 : Option Addr} {sl16 : Array (Option Value)} {oc16 kV16 dc16 pm16 cd16 ct16 : Value}
    {f17 : Addr} {od17 an17 : Option Addr} {sl17 : Array (Option Value)} {oc17 kV17 dc17 pm17 cd17 ct17 : Value}
    {f18 : Addr} {od18 an18 : Option Addr} {sl18 : Array (Option Value)} {oc18 kV18 dc18 pm18 cd18 ct18 : Value}
    {f19 : Addr} {od19 an19 : Option Addr} {sl19 : Array (Option Value)} {oc19 kV19 dc19 pm19 cd19 ct19 : Value}
    {f20 : Addr} {od20 an20 : Option Addr} {sl20 : Array (Option Value)} {oc20 kV20 dc20 pm20 cd20 ct20 : Value}
    {f21 : Addr} {od21 an21 : Option Addr} {sl21 : Array (Option Value)} {oc21 kV21 dc21 pm21 cd21 ct21 : Value}
    {f22 : Addr} {od22 an22 : Option Addr} {sl22 : Array (Option Value)} {oc22 kV22 dc22 pm22 cd22 ct22 : Value}
    {f23 : Addr} {od23 an23 : Option Addr} {sl23 : Array (Option Value)} {oc23 kV23 dc23 pm23 cd23 ct23 : Value}
    {f24 : Addr} {od24 an24 : Option Addr} {sl24 : Array (Option Value)} {oc24 kV24 dc24 pm24 cd24 ct24 : Value}
    {f25 : Addr} {od25 an25 : Option Addr} {sl25 : Array (Option Value)} {oc25 kV25 dc25 pm25 cd25 ct25 : Value}
    {f26 : Addr} {od26 an26 : Option Addr} {sl26 : Array (Option Value)} {oc26 kV26 dc26 pm26 cd26 ct26 : Value}
    {f27 : Addr} {od27 an27 : Option Addr} {sl27 : Array (Option Value)} {oc27 kV27 dc27 pm27 cd27 ct27 : Value}
    {f28 : Addr} {od28 an28 : Option Addr} {sl28 : Array (Option Value)} {oc28 kV28 dc28 pm28 cd28 ct28 : Value}
    {f29 : Addr} {od29 an29 : Option Addr} {sl29 : Array (Option Value)} {oc29 kV29 dc29 pm29 cd29 ct29 : Value}
    {f30 : Addr} {od30 an30 : Option Addr} {sl30 : Array (Option Value)} {oc30 kV30 dc30 pm30 cd30 ct30 : Value}
    {f31 : Addr} {od31 an31 : Option Addr} {sl31 : Array (Option Value)} {oc31 kV31 dc31 pm31 cd31 ct31 : Value}
    {f32 : Addr} {od32 an32 : Option Addr} {sl32 : Array (Option Value)} {oc32 kV32 dc32 pm32 cd32 ct32 : Value}
    (m_Tie : PySem.W.nsIn K mainGlobals "Tie" = some (some (.ref CTie)))
    (m_Net : PySem.W.nsIn K mainGlobals "Net" = some (some (.ref CNet)))
    (pg_CTie : PySem.W.plainGet K CTie Str.empty = true)
    (hd_CTie : PySem.W.hasDictIn K CTie = true)
    (po_CTie : PySem.W.plainOver K CTie = true)
    (sa_CTie : PySem.W.findIn K (.ref CTie) "__setattr__" = some (some (.builtin "object.__setattr__")))
    (pg_CNet : PySem.W.plainGet K CNet Str.empty = true)
    (hd_CNet : PySem.W.hasDictIn K CNet = true)
    (po_CNet : PySem.W.plainOver K CNet = true)
    (sa_CNet : PySem.W.findIn K (.ref CNet) "__setattr__" = some (some (.builtin "object.__setattr__")))
    (z_all : PySem.W.nsIn K mainGlobals "all" = some none)
    (z_bool : PySem.W.nsIn K mainGlobals "bool" = some none)
    (z_dict : PySem.W.nsIn K mainGlobals "dict" = some none)
    (z_enumerate : PySem.W.nsIn K mainGlobals "enumerate" = some none)
    (z_int : PySem.W.nsIn K mainGlobals "int" = some none)
    (z_isinstance : PySem.W.nsIn K mainGlobals "isinstance" = some none)
    (z_len : PySem.W.nsIn K mainGlobals "len" = some none)
    (z_list : PySem.W.nsIn K mainGlobals "list" = some none)
    (z_min : PySem.W.nsIn K mainGlobals "min" = some none)
    (z_range : PySem.W.nsIn K mainGlobals "range" = some none)
    (z_sorted : PySem.W.nsIn K mainGlobals "sorted" = some none)
    (z_str : PySem.W.nsIn K mainGlobals "str" = some none)
    (z_sum : PySem.W.nsIn K mainGlobals "sum" = some none)
    (z_zip : PySem.W.nsIn K mainGlobals "zip" = some none)
    (g_LETTERS : PySem.W.nsIn K mainGlobals "LETTERS" = some (some (.str "abcdefghijklmnopqrstuvwxyz" t_g_LETTERS)))
    (g_MOST_LETTERS : PySem.W.nsIn K mainGlobals "MOST_LETTERS" = some (some (.int 12 t_g_MOST_LETTERS)))
    (g_MOST : PySem.W.nsIn K mainGlobals "MOST" = some (some (.int 1000000000000000000000000000000000000000000000000000000000000 t_g_MOST)))
    (g_MOST_PLACES : PySem.W.nsIn K mainGlobals "MOST_PLACES" = some (some (.int 14 t_g_MOST_PLACES)))
    (g_MOST_TIES : PySem.W.nsIn K mainGlobals "MOST_TIES" = some (some (.int 40 t_g_MOST_TIES)))
    (n_head_Tie : PySem.W.findIn K (.ref CTie) "head" = some none)
    (n_last_given_Net : PySem.W.findIn K (.ref CNet) "last_given" = some none)
    (n_least_Tie : PySem.W.findIn K (.ref CTie) "least" = some none)
    (n_most_Tie : PySem.W.findIn K (.ref CTie) "most" = some none)
    (n_names_Net : PySem.W.findIn K (.ref CNet) "names" = some none)
    (n_number_Tie : PySem.W.findIn K (.ref CTie) "number" = some none)
    (n_price_Tie : PySem.W.findIn K (.ref CTie) "price" = some none)
    (n_rows_Net : PySem.W.findIn K (.ref CNet) "rows" = some none)
    (n_tail_Tie : PySem.W.findIn K (.ref CTie) "tail" = some none)
    (in_Net1 : PySem.W.findIn K (.ref CNet) "__class__" = some (some (.builtin "object.__class__")))
    (in_Net2 : PySem.W.specialIn K (.builtin "object.__class__") "__get__" = some (some (.builtin "getset_descriptor.__get__")))
    (in_Net3 : PySem.W.takesIn K (.builtin "object.__class__") = some true)
    (in_Net4 : PySem.W.mroIn K CNet (.type "object") = some true)
    (a1 : PySem.W.nsIn K mainGlobals "is_whole" = some (some (.ref f1)))
    (l1 : K.lookup f1 = some ⟨oc1, od1, .func (PySem.W.fnOf "is_whole" "is_whole" (defArgs s_is_whole) (defBody s_is_whole) (defScope s_is_whole) .none kV1 dc1 pm1 an1 cd1 ct1), sl1⟩)
    (c1 : PySem.W.codeIn K cd1 "is_whole" = true)
    (k1 : PySem.W.keepIn K (.ref f1) = true)
    (a2 : PySem.W.nsIn K mainGlobals "is_among" = some (some (.ref f2)))
    (l2 : K.lookup f2 = some ⟨oc2, od2, .func (PySem.W.fnOf "is_among" "is_among" (defArgs s_is_among) (defBody s_is_among) (defScope s_is_among) .none kV2 dc2 pm2 an2 cd2 ct2), sl2⟩)
    (c2 : PySem.W.codeIn K cd2 "is_among" = true)
    (k2 : PySem.W.keepIn K (.ref f2) = true)
    (a3 : PySem.W.nsIn K mainGlobals "are_signs" = some (some (.ref f3)))
    (l3 : K.lookup f3 = some ⟨oc3, od3, .func (PySem.W.fnOf "are_signs" "are_signs" (defArgs s_are_signs) (defBody s_are_signs) (defScope s_are_signs) .none kV3 dc3 pm3 an3 cd3 ct3), sl3⟩)
    (c3 : PySem.W.codeIn K cd3 "are_signs" = true)
    (k3 : PySem.W.keepIn K (.ref f3) = true)
    (a4 : PySem.W.nsIn K mainGlobals "is_name" = some (some (.ref f4)))
    (l4 : K.lookup f4 = some ⟨oc4, od4, .func (PySem.W.fnOf "is_name" "is_name" (defArgs s_is_name) (defBody s_is_name) (defScope s_is_name) .none kV4 dc4 pm4 an4 cd4 ct4), sl4⟩)
    (c4 : PySem.W.codeIn K cd4 "is_name" = true)
    (k4 : PySem.W.keepIn K (.ref f4) = true)
    (a5 : PySem.W.nsIn K mainGlobals "need_room" = some (some (.ref f5)))
    (l5 : K.lookup f5 = some ⟨oc5, od5, .func (PySem.W.fnOf "need_room" "need_room" (defArgs s_need_room) (defBody s_need_room) (defScope s_need_room) .none kV5 dc5 pm5 an5 cd5 ct5), sl5⟩)
    (c5 : PySem.W.codeIn K cd5 "need_room" = true)
    (k5 : PySem.W.keepIn K (.ref f5) = true)
    (a6 : PySem.W.nsIn K mainGlobals "need_price" = some (some (.ref f6)))
    (l6 : K.lookup f6 = some ⟨oc6, od6, .func (PySem.W.fnOf "need_price" "need_price" (defArgs s_need_price) (defBody s_need_price) (defScope s_need_price) .none kV6 dc6 pm6 an6 cd6 ct6), sl6⟩)
    (c6 : PySem.W.codeIn K cd6 "need_price" = true)
    (k6 : PySem.W.keepIn K (.ref f6) = true)
    (a7 : PySem.W.findIn K (.ref CTie) "__init__" = some (some (.ref f7)))
    (i7 : PySem.W.isFn K (.ref f7) = true)
    (l7 : K.lookup f7 = some ⟨oc7, od7, .func (PySem.W.fnOf "__init__" "Tie.__init__" (defArgs s_Tie_init) (defBody s_Tie_init) (defScope s_Tie_init) .none kV7 dc7 pm7 an7 cd7 ct7), sl7⟩)
    (c7 : PySem.W.codeIn K cd7 "Tie.__init__" = true)
    (k7 : PySem.W.keepIn K (.ref f7) = true)
    (mk7 : PySem.W.makesIn K CTie = true)
    (kc7 : PySem.W.keepIn K (.ref CTie) = true)
    (a8 : PySem.W.findIn K (.ref CNet) "__init__" = some (some (.ref f8)))
    (i8 : PySem.W.isFn K (.ref f8) = true)
    (l8 : K.lookup f8 = some ⟨oc8, od8, .func (PySem.W.fnOf "__init__" "Net.__init__" (defArgs s_Net_init) (defBody s_Net_init) (defScope s_Net_init) .none kV8 dc8 pm8 an8 cd8 ct8), sl8⟩)
    (c8 : PySem.W.codeIn K cd8 "Net.__init__" = true)
    (k8 : PySem.W.keepIn K (.ref f8) = true)
    (mk8 : PySem.W.makesIn K CNet = true)
    (kc8 : PySem.W.keepIn K (.ref CNet) = true)
    (a9 : PySem.W.findIn K (.ref CNet) "places" = some (some (.ref f9)))
    (i9 : PySem.W.isFn K (.ref f9) = true)
    (l9 : K.lookup f9 = some ⟨oc9, od9, .func (PySem.W.fnOf "places" "Net.places" (defArgs s_Net_places) (defBody s_Net_places) (defScope s_Net_places) .none kV9 dc9 pm9 an9 cd9 ct9), sl9⟩)
    (c9 : PySem.W.codeIn K cd9 "Net.places" = true)
    (k9 : PySem.W.keepIn K (.ref f9) = true)
    (a10 : PySem.W.findIn K (.ref CNet) "ties" = some (some (.ref f10)))
    (i10 : PySem.W.isFn K (.ref f10) = true)
    (l10 : K.lookup f10 = some ⟨oc10, od10, .func (PySem.W.fnOf "ties" "Net.ties" (defArgs s_Net_ties) (defBody s_Net_ties) (defScope s_Net_ties) .none kV10 dc10 pm10 an10 cd10 ct10), sl10⟩)
    (c10 : PySem.W.codeIn K cd10 "Net.ties" = true)
    (k10 : PySem.W.keepIn K (.ref f10) = true)
    (a11 : PySem.W.findIn K (.ref CNet) "given" = some (some (.ref f11)))
    (i11 : PySem.W.isFn K (.ref f11) = true)
    (l11 : K.lookup f11 = some ⟨oc11, od11, .func (PySem.W.fnOf "given" "Net.given" (defArgs s_Net_given) (defBody s_Net_given) (defScope s_Net_given) .none kV11 dc11 pm11 an11 cd11 ct11), sl11⟩)
    (c11 : PySem.W.codeIn K cd11 "Net.given" = true)
    (k11 : PySem.W.keepIn K (.ref f11) = true)
    (a12 : PySem.W.findIn K (.ref CNet) "put_place" = some (some (.ref f12)))
    (i12 : PySem.W.isFn K (.ref f12) = true)
    (l12 : K.lookup f12 = some ⟨oc12, od12, .func (PySem.W.fnOf "put_place" "Net.put_place" (defArgs s_Net_put_place) (defBody s_Net_put_place) (defScope s_Net_put_place) .none kV12 dc12 pm12 an12 cd12 ct12), sl12⟩)
    (c12 : PySem.W.codeIn K cd12 "Net.put_place" = true)
    (k12 : PySem.W.keepIn K (.ref f12) = true)
    (a13 : PySem.W.findIn K (.ref CNet) "need_place" = some (some (.ref f13)))
    (i13 : PySem.W.isFn K (.ref f13) = true)
    (l13 : K.lookup f13 = some ⟨oc13, od13, .func (PySem.W.fnOf "need_place" "Net.need_place" (defArgs s_Net_need_place) (defBody s_Net_need_place) (defScope s_Net_need_place) .none kV13 dc13 pm13 an13 cd13 ct13), sl13⟩)
    (c13 : PySem.W.codeIn K cd13 "Net.need_place" = true)
    (k13 : PySem.W.keepIn K (.ref f13) = true)
    (a14 : PySem.W.findIn K (.ref CNet) "put_tie" = some (some (.ref f14)))
    (i14 : PySem.W.isFn K (.ref f14) = true)
    (l14 : K.lookup f14 = some ⟨oc14, od14, .func (PySem.W.fnOf "put_tie" "Net.put_tie" (defArgs s_Net_put_tie) (defBody s_Net_put_tie) (defScope s_Net_put_tie) (.ref T14) kV14 dc14 pm14 an14 cd14 ct14), sl14⟩)
    (t14 : K.lookup T14 = some ⟨ocT14, odT14, .seq [.int 0 tk14_0, .none, .int 0 tk14_2].toArray nT14, slT14⟩)
    (c14 : PySem.W.codeIn K cd14 "Net.put_tie" = true)
    (k14 : PySem.W.keepIn K (.ref f14) = true)
    (a15 : PySem.W.findIn K (.ref CNet) "put_numbered" = some (some (.ref f15)))
    (i15 : PySem.W.isFn K (.ref f15) = true)
    (l15 : K.lookup f15 = some ⟨oc15, od15, .func (PySem.W.fnOf "put_numbered" "Net.put_numbered" (defArgs s_Net_put_numbered) (defBody s_Net_put_numbered) (defScope s_Net_put_numbered) .none kV15 dc15 pm15 an15 cd15 ct15), sl15⟩)
    (c15 : PySem.W.codeIn K cd15 "Net.put_numbered" = true)
    (k15 : PySem.W.keepIn K (.ref f15) = true)
    (a16 : PySem.W.findIn K (.ref CNet) "tie_of" = some (some (.ref f16)))
    (i16 : PySem.W.isFn K (.ref f16) = true)
    (l16 : K.lookup f16 = some ⟨oc16, od16, .func (PySem.W.fnOf "tie_of" "Net.tie_of" (defArgs s_Net_tie_of) (defBody s_Net_tie_of) (defScope s_Net_tie_of) .none kV16 dc16 pm16 an16 cd16 ct16), sl16⟩)
    (c16 : PySem.W.codeIn K cd16 "Net.tie_of" = true)
    (k16 : PySem.W.keepIn K (.ref f16) = true)
    (a17 : PySem.W.findIn K (.ref CNet) "drop_tie" = some (some (.ref f17)))
    (i17 : PySem.W.isFn K (.ref f17) = true)
    (l17 : K.lookup f17 = some ⟨oc17, od17, .func (PySem.W.fnOf "drop_tie" "Net.drop_tie" (defArgs s_Net_drop_tie) (defBody s_Net_drop_tie) (defScope s_Net_drop_tie) .none kV17 dc17 pm17 an17 cd17 ct17), sl17⟩)
    (c17 : PySem.W.codeIn K cd17 "Net.drop_tie" = true)
    (k17 : PySem.W.keepIn K (.ref f17) = true)
    (a18 : PySem.W.findIn K (.ref CNet) "set_room" = some (some (.ref f18)))
    (i18 : PySem.W.isFn K (.ref f18) = true)
    (l18 : K.lookup f18 = some ⟨oc18, od18, .func (PySem.W.fnOf "set_room" "Net.set_room" (defArgs s_Net_set_room) (defBody s_Net_set_room) (defScope s_Net_set_room) .none kV18 dc18 pm18 an18 cd18 ct18), sl18⟩)
    (c18 : PySem.W.codeIn K cd18 "Net.set_room" = true)
    (k18 : PySem.W.keepIn K (.ref f18) = true)
    (a19 : PySem.W.findIn K (.ref CNet) "set_price" = some (some (.ref f19)))
    (i19 : PySem.W.isFn K (.ref f19) = true)
    (l19 : K.lookup f19 = some ⟨oc19, od19, .func (PySem.W.fnOf "set_price" "Net.set_price" (defArgs s_Net_set_price) (defBody s_Net_set_price) (defScope s_Net_set_price) .none kV19 dc19 pm19 an19 cd19 ct19), sl19⟩)
    (c19 : PySem.W.codeIn K cd19 "Net.set_price" = true)
    (k19 : PySem.W.keepIn K (.ref f19) = true)
    (a20 : PySem.W.findIn K (.ref CNet) "copied" = some (some (.ref f20)))
    (i20 : PySem.W.isFn K (.ref f20) = true)
    (l20 : K.lookup f20 = some ⟨oc20, od20, .func (PySem.W.fnOf "copied" "Net.copied" (defArgs s_Net_copied) (defBody s_Net_copied) (defScope s_Net_copied) .none kV20 dc20 pm20 an20 cd20 ct20), sl20⟩)
    (c20 : PySem.W.codeIn K cd20 "Net.copied" = true)
    (k20 : PySem.W.keepIn K (.ref f20) = true)
    (a21 : PySem.W.nsIn K mainGlobals "_law_draw" = some (some (.ref f21)))
    (l21 : K.lookup f21 = some ⟨oc21, od21, .func (PySem.W.fnOf "_law_draw" "_law_draw" (defArgs s_Ldraw) (defBody s_Ldraw) (defScope s_Ldraw) .none kV21 dc21 pm21 an21 cd21 ct21), sl21⟩)
    (c21 : PySem.W.codeIn K cd21 "_law_draw" = true)
    (k21 : PySem.W.keepIn K (.ref f21) = true)
    (a22 : PySem.W.nsIn K mainGlobals "_law_amount" = some (some (.ref f22)))
    (l22 : K.lookup f22 = some ⟨oc22, od22, .func (PySem.W.fnOf "_law_amount" "_law_amount" (defArgs s_Lamount) (defBody s_Lamount) (defScope s_Lamount) .none kV22 dc22 pm22 an22 cd22 ct22), sl22⟩)
    (c22 : PySem.W.codeIn K cd22 "_law_amount" = true)
    (k22 : PySem.W.keepIn K (.ref f22) = true)
    (a23 : PySem.W.nsIn K mainGlobals "_law_pool" = some (some (.ref f23)))
    (l23 : K.lookup f23 = some ⟨oc23, od23, .func (PySem.W.fnOf "_law_pool" "_law_pool" (defArgs s_Lpool) (defBody s_Lpool) (defScope s_Lpool) .none kV23 dc23 pm23 an23 cd23 ct23), sl23⟩)
    (c23 : PySem.W.codeIn K cd23 "_law_pool" = true)
    (k23 : PySem.W.keepIn K (.ref f23) = true)
    (a24 : PySem.W.nsIn K mainGlobals "_law_whole" = some (some (.ref f24)))
    (l24 : K.lookup f24 = some ⟨oc24, od24, .func (PySem.W.fnOf "_law_whole" "_law_whole" (defArgs s_Lwhole) (defBody s_Lwhole) (defScope s_Lwhole) .none kV24 dc24 pm24 an24 cd24 ct24), sl24⟩)
    (c24 : PySem.W.codeIn K cd24 "_law_whole" = true)
    (k24 : PySem.W.keepIn K (.ref f24) = true)
    (a25 : PySem.W.nsIn K mainGlobals "_law_row" = some (some (.ref f25)))
    (l25 : K.lookup f25 = some ⟨oc25, od25, .func (PySem.W.fnOf "_law_row" "_law_row" (defArgs s_Lrow) (defBody s_Lrow) (defScope s_Lrow) .none kV25 dc25 pm25 an25 cd25 ct25), sl25⟩)
    (c25 : PySem.W.codeIn K cd25 "_law_row" = true)
    (k25 : PySem.W.keepIn K (.ref f25) = true)
    (a26 : PySem.W.nsIn K mainGlobals "_law_put_tie" = some (some (.ref f26)))
    (l26 : K.lookup f26 = some ⟨oc26, od26, .func (PySem.W.fnOf "_law_put_tie" "_law_put_tie" (defArgs s_Lput_tie) (defBody s_Lput_tie) (defScope s_Lput_tie) .none kV26 dc26 pm26 an26 cd26 ct26), sl26⟩)
    (c26 : PySem.W.codeIn K cd26 "_law_put_tie" = true)
    (k26 : PySem.W.keepIn K (.ref f26) = true)
    (a27 : PySem.W.nsIn K mainGlobals "_law_changed" = some (some (.ref f27)))
    (l27 : K.lookup f27 = some ⟨oc27, od27, .func (PySem.W.fnOf "_law_changed" "_law_changed" (defArgs s_Lchanged) (defBody s_Lchanged) (defScope s_Lchanged) .none kV27 dc27 pm27 an27 cd27 ct27), sl27⟩)
    (c27 : PySem.W.codeIn K cd27 "_law_changed" = true)
    (k27 : PySem.W.keepIn K (.ref f27) = true)
    (a28 : PySem.W.nsIn K mainGlobals "_law_deed" = some (some (.ref f28)))
    (l28 : K.lookup f28 = some ⟨oc28, od28, .func (PySem.W.fnOf "_law_deed" "_law_deed" (defArgs s_Ldeed) (defBody s_Ldeed) (defScope s_Ldeed) .none kV28 dc28 pm28 an28 cd28 ct28), sl28⟩)
    (c28 : PySem.W.codeIn K cd28 "_law_deed" = true)
    (k28 : PySem.W.keepIn K (.ref f28) = true)
    (a29 : PySem.W.nsIn K mainGlobals "_law_rows" = some (some (.ref f29)))
    (l29 : K.lookup f29 = some ⟨oc29, od29, .func (PySem.W.fnOf "_law_rows" "_law_rows" (defArgs s_Lrows) (defBody s_Lrows) (defScope s_Lrows) .none kV29 dc29 pm29 an29 cd29 ct29), sl29⟩)
    (c29 : PySem.W.codeIn K cd29 "_law_rows" = true)
    (k29 : PySem.W.keepIn K (.ref f29) = true)
    (a30 : PySem.W.nsIn K mainGlobals "_law_asked" = some (some (.ref f30)))
    (l30 : K.lookup f30 = some ⟨oc30, od30, .func (PySem.W.fnOf "_law_asked" "_law_asked" (defArgs s_Lasked) (defBody s_Lasked) (defScope s_Lasked) .none kV30 dc30 pm30 an30 cd30 ct30), sl30⟩)
    (c30 : PySem.W.codeIn K cd30 "_law_asked" = true)
    (k30 : PySem.W.keepIn K (.ref f30) = true)
    (a31 : PySem.W.nsIn K mainGlobals "_law_stands" = some (some (.ref f31)))
    (l31 : K.lookup f31 = some ⟨oc31, od31, .func (PySem.W.fnOf "_law_stands" "_law_stands" (defArgs s_Lstands) (defBody s_Lstands) (defScope s_Lstands) .none kV31 dc31 pm31 an31 cd31 ct31), sl31⟩)
    (c31 : PySem.W.codeIn K cd31 "_law_stands" = true)
    (k31 : PySem.W.keepIn K (.ref f31) = true)
    (a32 : PySem.W.nsIn K mainGlobals "law" = some (some (.ref f32)))
    (l32 : K.lookup f32 = some ⟨oc32, od32, .func (PySem.W.fnOf "law" "law" (defArgs s_law) (defBody s_law) (defScope s_law) .none kV32 dc32 pm32 an32 cd32 ct32), sl32⟩)
    (c32 : PySem.W.codeIn K cd32 "law" = true)
    (k32 : PySem.W.keepIn K (.ref f32) = true) :
    ∃ fd : FuncData, (∀ (s : Shared) (v : Value), BindsTo s fd ⟨[v], []⟩ [("_law_script", v)]) ∧ ∀ base : Heap, K.In base → base.Ns mainGlobals mg → FnOk l.prog w K mg base L2.CX0 8 fa fd ["_law_script"] (sp_law K) := by
  have e := hfa.symm.trans (PySem.W.mg_of X G a32)
  cases e
  have T : Txt K mg CTie CNet := ⟨PySem.W.mg_none_of X G z_all, PySem.W.mg_none_of X G z_bool, PySem.W.mg_none_of X G z_dict, PySem.W.mg_none_of X G z_enumerate, PySem.W.mg_none_of X G z_int, PySem.W.mg_none_of X G z_isinstance, PySem.W.mg_none_of X G z_len, PySem.W.mg_none_of X G z_list, PySem.W.mg_none_of X G z_min, PySem.W.mg_none_of X G z_range, PySem.W.mg_none_of X G z_sorted, PySem.W.mg_none_of X G z_str, PySem.W.mg_none_of X G z_sum, PySem.W.mg_none_of X G z_zip, ⟨_, PySem.W.mg_of X G g_LETTERS, ⟨_, rfl⟩⟩, ⟨_, PySem.W.mg_of X G g_MOST_LETTERS, ⟨_, rfl⟩⟩, ⟨_, PySem.W.mg_of X G g_MOST, ⟨_, rfl⟩⟩, ⟨_, PySem.W.mg_of X G g_MOST_PLACES, ⟨_, rfl⟩⟩, ⟨_, PySem.W.mg_of X G g_MOST_TIES, ⟨_, rfl⟩⟩, PySem.W.mg_of X G m_Tie, PySem.W.mg_of X G m_Net, ⟨pg_CTie, hd_CTie, po_CTie, sa_CTie⟩, ⟨pg_CNet, hd_CNet, po_CNet, sa_CNet⟩, n_head_Tie, n_last_given_Net, n_least_Tie, n_most_Tie, n_names_Net, n_number_Tie, n_price_Tie, n_rows_Net, n_tail_Tie, ⟨⟨pg_CNet, hd_CNet, po_CNet, sa_CNet⟩, in_Net1, in_Net2, in_Net3, in_Net4, Z.kit_self⟩⟩
  have F1 := L2.fun_mk (st := s_is_whole) l1 c1 k1
  have D_is_whole : Df K mg "is_whole" s_is_whole ["thing"] := ⟨⟨_, _, F1, PySem.W.mg_of X G a1, F1.binds fun _ _ _ _ _ _ us hl => match us, hl with | [_], _ => rfl⟩⟩
  have F2 := L2.fun_mk (st := s_is_among) l2 c2 k2
  have D_is_among : Df K mg "is_among" s_is_among ["thing", "least", "most"] := ⟨⟨_, _, F2, PySem.W.mg_of X G a2, F2.binds fun _ _ _ _ _ _ us hl => match us, hl with | [_, _, _], _ => rfl⟩⟩
  have F3 := L2.fun_mk (st := s_are_signs) l3 c3 k3
  have D_are_signs : Df K mg "are_signs" s_are_signs ["text", "signs"] := ⟨⟨_, _, F3, PySem.W.mg_of X G a3, F3.binds fun _ _ _ _ _ _ us hl => match us, hl with | [_, _], _ => rfl⟩⟩
  have F4 := L2.fun_mk (st := s_is_name) l4 c4 k4
  have D_is_name : Df K mg "is_name" s_is_name ["thing"] := ⟨⟨_, _, F4, PySem.W.mg_of X G a4, F4.binds fun _ _ _ _ _ _ us hl => match us, hl with | [_], _ => rfl⟩⟩
  have F5 := L2.fun_mk (st := s_need_room) l5 c5 k5
  have D_need_room : Df K mg "need_room" s_need_room ["least", "most"] := ⟨⟨_, _, F5, PySem.W.mg_of X G a5, F5.binds fun _ _ _ _ _ _ us hl => match us, hl with | [_, _], _ => rfl⟩⟩
  have F6 := L2.fun_mk (st := s_need_price) l6 c6 k6
  have D_need_price : Df K mg "need_price" s_need_price ["price"] := ⟨⟨_, _, F6, PySem.W.mg_of X G a6, F6.binds fun _ _ _ _ _ _ us hl => match us, hl with | [_], _ => rfl⟩⟩
  have F7 := L2.fun_mk (st := s_Tie_init) l7 c7 k7
  have D_Tie_init : Dk K mg "Tie" CTie "Tie.__init__" s_Tie_init ["self", "number", "tail", "head", "least", "most", "price"] := ⟨⟨_, _, F7, ⟨mk7, a7, i7, kc7⟩, PySem.W.mg_of X G m_Tie, F7.binds fun _ _ _ _ _ _ us hl => match us, hl with | [_, _, _, _, _, _, _], _ => rfl⟩⟩
  have F8 := L2.fun_mk (st := s_Net_init) l8 c8 k8
  have D_Net_init : Dk K mg "Net" CNet "Net.__init__" s_Net_init ["self"] := ⟨⟨_, _, F8, ⟨mk8, a8, i8, kc8⟩, PySem.W.mg_of X G m_Net, F8.binds fun _ _ _ _ _ _ us hl => match us, hl with | [_], _ => rfl⟩⟩
  have F9 := L2.fun_mk (st := s_Net_places) l9 c9 k9
  have D_Net_places : Dm K CNet "places" "Net.places" s_Net_places ["self"] := ⟨⟨_, _, F9, ⟨pg_CNet, hd_CNet, po_CNet, sa_CNet⟩, ⟨a9, i9, k9⟩, F9.binds fun _ _ _ _ _ _ us hl => match us, hl with | [_], _ => rfl⟩⟩
  have F10 := L2.fun_mk (st := s_Net_ties) l10 c10 k10
  have D_Net_ties : Dm K CNet "ties" "Net.ties" s_Net_ties ["self"] := ⟨⟨_, _, F10, ⟨pg_CNet, hd_CNet, po_CNet, sa_CNet⟩, ⟨a10, i10, k10⟩, F10.binds fun _ _ _ _ _ _ us hl => match us, hl with | [_], _ => rfl⟩⟩
  have F11 := L2.fun_mk (st := s_Net_given) l11 c11 k11
  have D_Net_given : Dm K CNet "given" "Net.given" s_Net_given ["self"] := ⟨⟨_, _, F11, ⟨pg_CNet, hd_CNet, po_CNet, sa_CNet⟩, ⟨a11, i11, k11⟩, F11.binds fun _ _ _ _ _ _ us hl => match us, hl with | [_], _ => rfl⟩⟩
  have F12 := L2.fun_mk (st := s_Net_put_place) l12 c12 k12
  have D_Net_put_place : Dm K CNet "put_place" "Net.put_place" s_Net_put_place ["self", "name"] := ⟨⟨_, _, F12, ⟨pg_CNet, hd_CNet, po_CNet, sa_CNet⟩, ⟨a12, i12, k12⟩, F12.binds fun _ _ _ _ _ _ us hl => match us, hl with | [_, _], _ => rfl⟩⟩
  have F13 := L2.fun_mk (st := s_Net_need_place) l13 c13 k13
  have D_Net_need_place : Dm K CNet "need_place" "Net.need_place" s_Net_need_place ["self", "name"] := ⟨⟨_, _, F13, ⟨pg_CNet, hd_CNet, po_CNet, sa_CNet⟩, ⟨a13, i13, k13⟩, F13.binds fun _ _ _ _ _ _ us hl => match us, hl with | [_, _], _ => rfl⟩⟩
  have F14 : L2.FunD K "put_tie" "Net.put_tie" (defArgs s_Net_put_tie) (defBody s_Net_put_tie) (defScope s_Net_put_tie) ([.int 0, .non, .int 0] : List V) [] f14 _ := ⟨⟨_, _, _, _, _, _, _, _, _, _, rfl, l14, c14, .inr ⟨by simp, T14, _, _, _, rfl, t14, rfl, (.cons ⟨_, rfl⟩ (.cons rfl (.cons ⟨_, rfl⟩ .nil)))⟩, .inl rfl⟩, k14⟩
  have D_Net_put_tie : Dmd K CNet "put_tie" "Net.put_tie" s_Net_put_tie ["self", "tail", "head", "least", "most", "price"] [.int 0, .non, .int 0] := ⟨_, _, F14, ⟨pg_CNet, hd_CNet, po_CNet, sa_CNet⟩, ⟨a14, i14, k14⟩, fun j hj => by
    match j, hj with
    | 0, _ => exact F14.binds1 3 0 (by simp) rfl fun _ _ _ _ _ _ _ us its h1 h2 => match us, its, h1, h2 with | [_, _, _], [_, _, _], _, _ => ⟨_, rfl, rfl⟩
    | 1, _ => exact F14.binds1 4 1 (by simp) rfl fun _ _ _ _ _ _ _ us its h1 h2 => match us, its, h1, h2 with | [_, _, _, _], [_, _, _], _, _ => ⟨_, rfl, rfl⟩
    | 2, _ => exact F14.binds1 5 2 (by simp) rfl fun _ _ _ _ _ _ _ us its h1 h2 => match us, its, h1, h2 with | [_, _, _, _, _], [_, _, _], _, _ => ⟨_, rfl, rfl⟩
    | 3, _ => exact F14.binds1 6 3 (by simp) rfl fun _ _ _ _ _ _ _ us its h1 h2 => match us, its, h1, h2 with | [_, _, _, _, _, _], [_, _, _], _, _ => ⟨_, rfl, rfl⟩
    | j + 4, hj => simp at hj⟩
  have F15 := L2.fun_mk (st := s_Net_put_numbered) l15 c15 k15
  have D_Net_put_numbered : Dm K CNet "put_numbered" "Net.put_numbered" s_Net_put_numbered ["self", "number", "tail", "head", "least", "most", "price"] := ⟨⟨_, _, F15, ⟨pg_CNet, hd_CNet, po_CNet, sa_CNet⟩, ⟨a15, i15, k15⟩, F15.binds fun _ _ _ _ _ _ us hl => match us, hl with | [_, _, _, _, _, _, _], _ => rfl⟩⟩
  have F16 := L2.fun_mk (st := s_Net_tie_of) l16 c16 k16
  have D_Net_tie_of : Dm K CNet "tie_of" "Net.tie_of" s_Net_tie_of ["self", "number"] := ⟨⟨_, _, F16, ⟨pg_CNet, hd_CNet, po_CNet, sa_CNet⟩, ⟨a16, i16, k16⟩, F16.binds fun _ _ _ _ _ _ us hl => match us, hl with | [_, _], _ => rfl⟩⟩
  have F17 := L2.fun_mk (st := s_Net_drop_tie) l17 c17 k17
  have D_Net_drop_tie : Dm K CNet "drop_tie" "Net.drop_tie" s_Net_drop_tie ["self", "number"] := ⟨⟨_, _, F17, ⟨pg_CNet, hd_CNet, po_CNet, sa_CNet⟩, ⟨a17, i17, k17⟩, F17.binds fun _ _ _ _ _ _ us hl => match us, hl with | [_, _], _ => rfl⟩⟩
  have F18 := L2.fun_mk (st := s_Net_set_room) l18 c18 k18
  have D_Net_set_room : Dm K CNet "set_room" "Net.set_room" s_Net_set_room ["self", "number", "least", "most"] := ⟨⟨_, _, F18, ⟨pg_CNet, hd_CNet, po_CNet, sa_CNet⟩, ⟨a18, i18, k18⟩, F18.binds fun _ _ _ _ _ _ us hl => match us, hl with | [_, _, _, _], _ => rfl⟩⟩
  have F19 := L2.fun_mk (st := s_Net_set_price) l19 c19 k19
  have D_Net_set_price : Dm K CNet "set_price" "Net.set_price" s_Net_set_price ["self", "number", "price"] := ⟨⟨_, _, F19, ⟨pg_CNet, hd_CNet, po_CNet, sa_CNet⟩, ⟨a19, i19, k19⟩, F19.binds fun _ _ _ _ _ _ us hl => match us, hl with | [_, _, _], _ => rfl⟩⟩
  have F20 := L2.fun_mk (st := s_Net_copied) l20 c20 k20
  have D_Net_copied : Dm K CNet "copied" "Net.copied" s_Net_copied ["self"] := ⟨⟨_, _, F20, ⟨pg_CNet, hd_CNet, po_CNet, sa_CNet⟩, ⟨a20, i20, k20⟩, F20.binds fun _ _ _ _ _ _ us hl => match us, hl with | [_], _ => rfl⟩⟩
  have F21 := L2.fun_mk (st := s_Ldraw) l21 c21 k21
  have D_Ldraw : Df K mg "_law_draw" s_Ldraw ["_law_cell", "_law_k", "_law_j"] := ⟨⟨_, _, F21, PySem.W.mg_of X G a21, F21.binds fun _ _ _ _ _ _ us hl => match us, hl with | [_, _, _], _ => rfl⟩⟩
  have F22 := L2.fun_mk (st := s_Lamount) l22 c22 k22
  have D_Lamount : Df K mg "_law_amount" s_Lamount ["_law_cell", "_law_k", "_law_j"] := ⟨⟨_, _, F22, PySem.W.mg_of X G a22, F22.binds fun _ _ _ _ _ _ us hl => match us, hl with | [_, _, _], _ => rfl⟩⟩
  have F23 := L2.fun_mk (st := s_Lpool) l23 c23 k23
  have D_Lpool : Df K mg "_law_pool" s_Lpool ["_law_cell"] := ⟨⟨_, _, F23, PySem.W.mg_of X G a23, F23.binds fun _ _ _ _ _ _ us hl => match us, hl with | [_], _ => rfl⟩⟩
  have F24 := L2.fun_mk (st := s_Lwhole) l24 c24 k24
  have D_Lwhole : Df K mg "_law_whole" s_Lwhole ["_law_thing", "_law_due"] := ⟨⟨_, _, F24, PySem.W.mg_of X G a24, F24.binds fun _ _ _ _ _ _ us hl => match us, hl with | [_, _], _ => rfl⟩⟩
  have F25 := L2.fun_mk (st := s_Lrow) l25 c25 k25
  have D_Lrow : Df K mg "_law_row" s_Lrow ["_law_tie"] := ⟨⟨_, _, F25, PySem.W.mg_of X G a25, F25.binds fun _ _ _ _ _ _ us hl => match us, hl with | [_], _ => rfl⟩⟩
  have F26 := L2.fun_mk (st := s_Lput_tie) l26 c26 k26
  have D_Lput_tie : Df K mg "_law_put_tie" s_Lput_tie ["_law_net", "_law_model", "_law_cell", "_law_k"] := ⟨⟨_, _, F26, PySem.W.mg_of X G a26, F26.binds fun _ _ _ _ _ _ us hl => match us, hl with | [_, _, _, _], _ => rfl⟩⟩
  have F27 := L2.fun_mk (st := s_Lchanged) l27 c27 k27
  have D_Lchanged : Df K mg "_law_changed" s_Lchanged ["_law_net", "_law_model", "_law_cell", "_law_k", "_law_way"] := ⟨⟨_, _, F27, PySem.W.mg_of X G a27, F27.binds fun _ _ _ _ _ _ us hl => match us, hl with | [_, _, _, _, _], _ => rfl⟩⟩
  have F28 := L2.fun_mk (st := s_Ldeed) l28 c28 k28
  have D_Ldeed : Df K mg "_law_deed" s_Ldeed ["_law_net", "_law_model", "_law_pool_here", "_law_cell", "_law_k"] := ⟨⟨_, _, F28, PySem.W.mg_of X G a28, F28.binds fun _ _ _ _ _ _ us hl => match us, hl with | [_, _, _, _, _], _ => rfl⟩⟩
  have F29 := L2.fun_mk (st := s_Lrows) l29 c29 k29
  have D_Lrows : Df K mg "_law_rows" s_Lrows ["_law_model"] := ⟨⟨_, _, F29, PySem.W.mg_of X G a29, F29.binds fun _ _ _ _ _ _ us hl => match us, hl with | [_], _ => rfl⟩⟩
  have F30 := L2.fun_mk (st := s_Lasked) l30 c30 k30
  have D_Lasked : Df K mg "_law_asked" s_Lasked ["_law_net", "_law_model", "_law_n", "_law_held"] := ⟨⟨_, _, F30, PySem.W.mg_of X G a30, F30.binds fun _ _ _ _ _ _ us hl => match us, hl with | [_, _, _, _], _ => rfl⟩⟩
  have F31 := L2.fun_mk (st := s_Lstands) l31 c31 k31
  have D_Lstands : Df K mg "_law_stands" s_Lstands ["_law_net", "_law_model"] := ⟨⟨_, _, F31, PySem.W.mg_of X G a31, F31.binds fun _ _ _ _ _ _ us hl => match us, hl with | [_, _], _ => rfl⟩⟩
  refine ⟨PySem.W.fnOf "law" "law" (defArgs s_law) (defBody s_law) (defScope s_law) .none kV32 dc32 pm32 an32 cd32 ct32, fun s v => .of_eq rfl, fun base _ _ => ?_⟩
  have c_Ldraw := c_Ldraw (P := l.prog) (w := w) (base := base) T D_Ldraw 
  have c_Lpool := c_Lpool (P := l.prog) (w := w) (base := base) T D_Lpool c_Ldraw
  have c_Net_init := c_Net_init (P := l.prog) (w := w) (base := base) T D_Net_init 
  have c_Lwhole := c_Lwhole (P := l.prog) (w := w) (base := base) T D_Lwhole 
  have c_Net_ties := c_Net_ties (P := l.prog) (w := w) (base := base) T D_Net_ties 
  have c_Lrow := c_Lrow (P := l.prog) (w := w) (base := base) T D_Lrow 
  have c_Net_places := c_Net_places (P := l.prog) (w := w) (base := base) T D_Net_places 
  have c_Lrows := c_Lrows (P := l.prog) (w := w) (base := base) T D_Lrows 
  have c_Net_given := c_Net_given (P := l.prog) (w := w) (base := base) T D_Net_given 
  have c_Lstands := c_Lstands (P := l.prog) (w := w) (base := base) T D_Lstands c_Net_given c_Net_places c_Net_ties c_Lrow c_Lrows
  have c_Net_copied := c_Net_copied (P := l.prog) (w := w) (base := base) T D_Net_copied c_Net_init
  have c_are_signs := c_are_signs (P := l.prog) (w := w) (base := base) T D_are_signs 
  have c_is_name := c_is_name (P := l.prog) (w := w) (base := base) T D_is_name c_are_signs
  have c_Net_put_place := c_Net_put_place (P := l.prog) (w := w) (base := base) T D_Net_put_place c_is_name
  have c_Lamount := c_Lamount (P := l.prog) (w := w) (base := base) T D_Lamount c_Ldraw
  have c_Net_need_place := c_Net_need_place (P := l.prog) (w := w) (base := base) T D_Net_need_place 
  have c_is_whole := c_is_whole (P := l.prog) (w := w) (base := base) T D_is_whole 
  have c_is_among := c_is_among (P := l.prog) (w := w) (base := base) T D_is_among c_is_whole
  have c_need_room := c_need_room (P := l.prog) (w := w) (base := base) T D_need_room c_is_among
  have c_need_price := c_need_price (P := l.prog) (w := w) (base := base) T D_need_price c_is_among
  have c_Tie_init := c_Tie_init (P := l.prog) (w := w) (base := base) T D_Tie_init 
  have c_Net_put_numbered := c_Net_put_numbered (P := l.prog) (w := w) (base := base) T D_Net_put_numbered c_Net_need_place c_Tie_init c_need_price c_need_room
  have c_Net_put_tie := c_Net_put_tie (P := l.prog) (w := w) (base := base) T D_Net_put_tie c_Net_put_numbered
  have c_Lput_tie := c_Lput_tie (P := l.prog) (w := w) (base := base) T D_Lput_tie c_Net_put_tie c_Lamount c_Ldraw c_Lwhole
  have c_Net_tie_of := c_Net_tie_of (P := l.prog) (w := w) (base := base) T D_Net_tie_of c_is_whole
  have c_Net_drop_tie := c_Net_drop_tie (P := l.prog) (w := w) (base := base) T D_Net_drop_tie c_Net_tie_of
  have c_Net_set_room := c_Net_set_room (P := l.prog) (w := w) (base := base) T D_Net_set_room c_Net_tie_of c_Tie_init c_need_room
  have c_Net_set_price := c_Net_set_price (P := l.prog) (w := w) (base := base) T D_Net_set_price c_Net_tie_of c_Tie_init c_need_price
  have c_Lchanged := c_Lchanged (P := l.prog) (w := w) (base := base) T D_Lchanged c_Net_drop_tie c_Net_set_price c_Net_set_room c_Lamount c_Ldraw
  have c_Ldeed := c_Ldeed (P := l.prog) (w := w) (base := base) T D_Ldeed c_Net_put_place c_Lchanged c_Ldraw c_Lput_tie
  have c_Lasked := c_Lasked (P := l.prog) (w := w) (base := base) T D_Lasked c_Net_given c_Net_places c_Net_tie_of c_Net_ties c_Lrow c_Lrows c_Lwhole
  exact (c_law T (L2.fun_mk (st := s_law) l32 c32 k32) c_Net_init c_Net_copied c_Lasked c_Ldeed c_Ldraw c_Lpool c_Lrow c_Lstands c_Lwhole).imp fun _ _ _ _ h => law_sp h
end T
set_option maxHeartbeats 0 in
theorem PySem.Challenge.cw_flowhall_k02_nets_by_deeds_holds : PySem.Challenge.rw_flowhall_k02_nets_by_deeds.Holds := by
  w_on; o_law; k_head; (case hw => w_witness2)
  k_fill
  refine L2.walk_of (l := PySem.Challenge.rw_flowhall_k02_nets_by_deeds) (n := 63) (k := 8) (x := "_law_script") (CX := fun _ => L2.CX0) (sp := fun w => T.sp_law _) rfl (by decide) rfl ⟨rfl, by decide, by decide⟩ (fun w h Y => PySem.W.kIn_of Y) ?F (fun _ _ a ns _ _ hS => ⟨a, ns, rfl, hS, fun _ => rfl⟩) (fun _ _ _ _ _ z => z)
  case F =>
    intro w mg fa h KX G hmg
    refine' T.all_mk KX G hmg ?m_Tie ?m_Net ?pg_CTie ?hd_CTie ?po_CTie ?sa_CTie ?pg_CNet ?hd_CNet ?po_CNet ?sa_CNet ?z_all ?z_bool ?z_dict ?z_enumerate ?z_int ?z_isinstance ?z_len ?z_list ?z_min ?z_range ?z_sorted ?z_str ?z_sum ?z_zip ?g_LETTERS ?g_MOST_LETTERS ?g_MOST ?g_MOST_PLACES ?g_MOST_TIES ?n_head_Tie ?n_last_given_Net ?n_least_Tie ?n_most_Tie ?n_names_Net ?n_number_Tie ?n_price_Tie ?n_rows_Net ?n_tail_Tie ?in_Net1 ?in_Net2 ?in_Net3 ?in_Net4 ?a1 ?l1 ?c1 ?k1 ?a2 ?l2 ?c2 ?k2 ?a3 ?l3 ?c3 ?k3 ?a4 ?l4 ?c4 ?k4 ?a5 ?l5 ?c5 ?k5 ?a6 ?l6 ?c6 ?k6 ?a7 ?i7 ?l7 ?c7 ?k7 ?mk7 ?kc7 ?a8 ?i8 ?l8 ?c8 ?k8 ?mk8 ?kc8 ?a9 ?i9 ?l9 ?c9 ?k9 ?a10 ?i10 ?l10 ?c10 ?k10 ?a11 ?i11 ?l11 ?c11 ?k11 ?a12 ?i12 ?l12 ?c12 ?k12 ?a13 ?i13 ?l13 ?c13 ?k13 ?a14 ?i14 ?l14 ?t14 ?c14 ?k14 ?a15 ?i15 ?l15 ?c15 ?k15 ?a16 ?i16 ?l16 ?c16 ?k16 ?a17 ?i17 ?l17 ?c17 ?k17 ?a18 ?i18 ?l18 ?c18 ?k18 ?a19 ?i19 ?l19 ?c19 ?k19 ?a20 ?i20 ?l20 ?c20 ?k20 ?a21 ?l21 ?c21 ?k21 ?a22 ?l22 ?c22 ?k22 ?a23 ?l23 ?c23 ?k23 ?a24 ?l24 ?c24 ?k24 ?a25 ?l25 ?c25 ?k25 ?a26 ?l26 ?c26 ?k26 ?a27 ?l27 ?c27 ?k27 ?a28 ?l28 ?c28 ?k28 ?a29 ?l29 ?c29 ?k29 ?a30 ?l30 ?c30 ?k30 ?a31 ?l31 ?c31 ?k31 ?a32 ?l32 ?c32 ?k32
    (case m_Tie => k_is)
    (case m_Net => k_is)
    (case pg_CTie => k_is)
    (case hd_CTie => k_is)
    (case po_CTie => k_is)
    (case sa_CTie => k_is)
    (case pg_CNet => k_is)
    (case hd_CNet => k_is)
    (case po_CNet => k_is)
    (case sa_CNet => k_is)
    (case z_all => k_is)
    (case z_bool => k_is)
    (case z_dict => k_is)
    (case z_enumerate => k_is)
    (case z_int => k_is)
    (case z_isinstance => k_is)
    (case z_len => k_is)
    (case z_list => k_is)
    (case z_min => k_is)
    (case z_range => k_is)
    (case z_sorted => k_is)
    (case z_str => k_is)
    (case z_sum => k_is)
    (case z_zip => k_is)
    (case g_LETTERS => k_is)
    (case g_MOST_LETTERS => k_is)
    (case g_MOST => k_is)
    (case g_MOST_PLACES => k_is)
    (case g_MOST_TIES => k_is)
    (case n_head_Tie => k_is)
    (case n_last_given_Net => k_is)
    (case n_least_Tie => k_is)
    (case n_most_Tie => k_is)
    (case n_names_Net => k_is)
    (case n_number_Tie => k_is)
    (case n_price_Tie => k_is)
    (case n_rows_Net => k_is)
    (case n_tail_Tie => k_is)
    (case in_Net1 => k_is)
    (case in_Net2 => k_is)
    (case in_Net3 => k_is)
    (case in_Net4 => k_is)
    (case a1 => k_is)
    (case l1 => k_is)
    (case c1 => k_is)
    (case k1 => k_is)
    (case a2 => k_is)
    (case l2 => k_is)
    (case c2 => k_is)
    (case k2 => k_is)
    (case a3 => k_is)
    (case l3 => k_is)
    (case c3 => k_is)
    (case k3 => k_is)
    (case a4 => k_is)
    (case l4 => k_is)
    (case c4 => k_is)
    (case k4 => k_is)
    (case a5 => k_is)
    (case l5 => k_is)
    (case c5 => k_is)
    (case k5 => k_is)
    (case a6 => k_is)
    (case l6 => k_is)
    (case c6 => k_is)
    (case k6 => k_is)
    (case a7 => k_is)
    (case i7 => k_is)
    (case l7 => k_is)
    (case c7 => k_is)
    (case k7 => k_is)
    (case mk7 => k_is)
    (case kc7 => k_is)
    (case a8 => k_is)
    (case i8 => k_is)
    (case l8 => k_is)
    (case c8 => k_is)
    (case k8 => k_is)
    (case mk8 => k_is)
    (case kc8 => k_is)
    (case a9 => k_is)
    (case i9 => k_is)
    (case l9 => k_is)
    (case c9 => k_is)
    (case k9 => k_is)
    (case a10 => k_is)
    (case i10 => k_is)
    (case l10 => k_is)
    (case c10 => k_is)
    (case k10 => k_is)
    (case a11 => k_is)
    (case i11 => k_is)
    (case l11 => k_is)
    (case c11 => k_is)
    (case k11 => k_is)
    (case a12 => k_is)
    (case i12 => k_is)
    (case l12 => k_is)
    (case c12 => k_is)
    (case k12 => k_is)
    (case a13 => k_is)
    (case i13 => k_is)
    (case l13 => k_is)
    (case c13 => k_is)
    (case k13 => k_is)
    (case a14 => k_is)
    (case i14 => k_is)
    (case l14 => k_is)
    (case t14 => k_is)
    (case c14 => k_is)
    (case k14 => k_is)
    (case a15 => k_is)
    (case i15 => k_is)
    (case l15 => k_is)
    (case c15 => k_is)
    (case k15 => k_is)
    (case a16 => k_is)
    (case i16 => k_is)
    (case l16 => k_is)
    (case c16 => k_is)
    (case k16 => k_is)
    (case a17 => k_is)
    (case i17 => k_is)
    (case l17 => k_is)
    (case c17 => k_is)
    (case k17 => k_is)
    (case a18 => k_is)
    (case i18 => k_is)
    (case l18 => k_is)
    (case c18 => k_is)
    (case k18 => k_is)
    (case a19 => k_is)
    (case i19 => k_is)
    (case l19 => k_is)
    (case c19 => k_is)
    (case k19 => k_is)
    (case a20 => k_is)
    (case i20 => k_is)
    (case l20 => k_is)
    (case c20 => k_is)
    (case k20 => k_is)
    (case a21 => k_is)
    (case l21 => k_is)
    (case c21 => k_is)
    (case k21 => k_is)
    (case a22 => k_is)
    (case l22 => k_is)
    (case c22 => k_is)
    (case k22 => k_is)
    (case a23 => k_is)
    (case l23 => k_is)
    (case c23 => k_is)
    (case k23 => k_is)
    (case a24 => k_is)
    (case l24 => k_is)
    (case c24 => k_is)
    (case k24 => k_is)
    (case a25 => k_is)
    (case l25 => k_is)
    (case c25 => k_is)
    (case k25 => k_is)
    (case a26 => k_is)
    (case l26 => k_is)
    (case c26 => k_is)
    (case k26 => k_is)
    (case a27 => k_is)
    (case l27 => k_is)
    (case c27 => k_is)
    (case k27 => k_is)
    (case a28 => k_is)
    (case l28 => k_is)
    (case c28 => k_is)
    (case k28 => k_is)
    (case a29 => k_is)
    (case l29 => k_is)
    (case c29 => k_is)
    (case k29 => k_is)
    (case a30 => k_is)
    (case l30 => k_is)
    (case c30 => k_is)
    (case k30 => k_is)
    (case a31 => k_is)
    (case l31 => k_is)
    (case c31 => k_is)
    (case k31 => k_is)
    (case a32 => k_is)
    (case l32 => k_is)
    (case c32 => k_is)
    (case k32 => k_is)

