import PyProof.Rows.All
import Wide.All
import OpenK.AllK
import Wide.FinOn
import PyProof.EqAt
import PyProof.EqKinds
import PyProof.TupleCall
import KE.KStateDown
import Lean
import HandS.ForMost
import HandS.Evl
import HandS.Steps
import HandS.Wide
import HandS.IsInst
import HandS.Defaults
import HandS.Flow
import HandS.HeadEnd
import HandS.HeadHook1
import HandS.HeadHook2
import HandS.Head0
import HandS.Head1
import HandS.Head2
import PySem.Challenge.RW_lentpages_k10_change_kinds
set_option Elab.async false
set_option linter.all false
set_option maxRecDepth 100000
set_option maxHeartbeats 4000000
namespace My
open PySem PySem.Spec PyProof.Rows L2 Evl
/-! ### a def by its name -/
structure DefOk (P : Program) (w : World) (K : PySem.W.Frag) (mg : Str → Option Value) (base : Heap) (k : Nat) (x : Str) (ps : List Str) (dvs : List V) (sp : Sp) : Prop where
  ex : ∃ (f : Addr) (fd : FuncData) (ds : List Value), mg x = some (.ref f) ∧ PySem.W.keepIn K (.ref f) = true ∧ Binds K fd ps ds ∧ Vals dvs ds ∧ FnOk P w K mg base CX0 k f fd ps sp
section
variable {X : Cx} {k j : Nat} {x : Str} {ps : List Str} {dvs : List V} {sp : Sp} {p pos : Pos} {e : Expr} {es : List Expr} {t : TA}
theorem pe_callN (D : DefOk X.prog X.w X.K X.mg X.base k x ps dvs sp) (hr : Room j X.A)
    (ha : PA X (e :: es) t) (hk : k ≤ j := by decide) (hg : Gl X x := by rfl) (hdb : (x == ("__debug__" : Str)) = false := by decide) (he : starEach (e :: es) X.env = (false, eval e X.env) :: starEach es X.env := by rfl) (hpl : (backTo pos (starEach es X.env)).any (·.1) = false := by rfl) :
    PE X (.Call (.Name x p) (e :: es) [] pos) (tCall sp dvs E0 t) := by
  obtain ⟨f, fd, ds, h1, h2, h3, h4, h5⟩ := D.ex
  exact pe_call h5 (hr.mono hk) hg h1 h2 h3 h4 pass0 ha hdb he hpl
theorem pe_callN0 (D : DefOk X.prog X.w X.K X.mg X.base k x ps dvs sp) (hr : Room j X.A)
    (hk : k ≤ j := by decide) (hg : Gl X x := by rfl) (hdb : (x == ("__debug__" : Str)) = false := by decide) :
    PE X (.Call (.Name x p) [] [] pos) (tCall sp dvs E0 tNil) := by
  obtain ⟨f, fd, ds, h1, h2, h3, h4, h5⟩ := D.ex
  exact pe_call0 h5 (hr.mono hk) hg h1 h2 h3 h4 pass0 hdb
end
theorem DefOk.of {P : Program} {w : World} {K : PySem.W.Frag} {mg : Str → Option Value} {base : Heap} {k : Nat} {x : Str} {ps : List Str} {sp : Sp} {st : Stmt} {fd : FuncData} {f : Addr} (F : FunD K x x (defArgs st) (defBody st) (defScope st) [] [] f fd)
    (g : mg x = some (.ref f)) (b : Binds K fd ps []) (h : FnOk P w K mg base CX0 k f fd ps sp) : DefOk P w K mg base k x ps [] sp := ⟨f, fd, [], g, F.kp, b, .nil, h⟩
theorem FunD.ok0 {P : Program} {w : World} {K : PySem.W.Frag} {mg : Str → Option Value} {base : Heap} {x qual : Str} {params : Arguments} {body : List Stmt} {scope : Scope} {dvs : List V} {kws : List (Str × V)} {f : Addr} {fd : FuncData}
    {N ps : List Str} {k : Nat} {sp : Sp} (F : FunD K x qual params body scope dvs kws f fd) (S : FnScope N ps scope) (len : ∀ vs H Q E, sp vs H Q E → vs.length = ps.length)
    (hbody : ∀ (cdv : Value) (A : Around) (outer : List Env) (s : Shared) (H : Hp) (vs : List V) (Q : VK) (E : XK), Room k (A.deeper (envOfC qual scope s.heap.objs.size f cdv)) → sp vs H Q E →
      ∃ t, PSs (cxOf CX0 P w K mg base N qual scope f cdv A outer s H E).nox body t ∧ t { nx := fun _ H' => Q .non H', rt := Q } (start N vs) H) : FnOk P w K mg base CX0 (k + 1) f fd ps sp :=
  F.ok S len fun cdv A outer s H vs Q E hr h => by
    obtain ⟨t, h1, h2⟩ := hbody cdv A outer s H vs Q E hr h
    exact ⟨t, h1.nox, h2⟩
/-! ### the facts of a top by names -/
structure Tx (fa : List He.Fa) (fn : List He.DefD) (K : PySem.W.Frag) (mg : Str → Option Value) : Prop where
  says : He.SaysD fa fn K
  glo : ∀ x, (He.Fa.glo x).ok K = true → mg x = some (.ref (He.ga K x))
  fre : ∀ x, (He.Fa.free x).ok K = true → mg x = none
theorem Tx.mk' {fa : List He.Fa} {fn : List He.DefD} {K : PySem.W.Frag} {h : Heap} {mg : Str → Option Value} (X : K.In h) (G : h.Ns mainGlobals mg) (c : He.SaysD fa fn K) : Tx fa fn K mg :=
  ⟨c, fun _ h => He.glo_ok X G h, fun _ h => He.free_ok X G h⟩
/-! ### rules with their fragment named (within a block X.K is not seen as K) -/
def rLenQ (K : PySem.W.Frag) : List V → Hp → VK → Prop := fun xs H Q => ∃ p ys, xs = [.ref p] ∧ (SqL K H p ys ∨ SqT K H p ys) ∧ Q (.int ys.length) H
def rListQ (K : PySem.W.Frag) : List V → Hp → VK → Prop := fun xs H Q => ∃ p ys, xs = [.ref p] ∧ (SqL K H p ys ∨ SqT K H p ys) ∧ ∀ l, H l = none → Q (.ref l) (upd H l (.lst ys))
def rTupQ (K : PySem.W.Frag) : List V → Hp → VK → Prop := fun xs H Q => ∃ p ys, xs = [.ref p] ∧ ((SqL K H p ys ∧ ∀ l, H l = none → Q (.ref l) (upd H l (.tup ys))) ∨ (SqT K H p ys ∧ Q (.ref p) H))
section
variable {X : Cx} {K : PySem.W.Frag}
theorem ixL (K : PySem.W.Frag) (h : X.K = K := by rfl) : IxR X (rIxL K) := h ▸ ix_list
theorem ixT (K : PySem.W.Frag) (h : X.K = K := by rfl) : IxR X (rIxT K) := h ▸ ix_tup
theorem ixQ (K : PySem.W.Frag) (h : X.K = K := by rfl) : IxR X (rIx K) := h ▸ ix_seq
theorem inQ (K : PySem.W.Frag) (h : X.K = K := by rfl) : OpR X (compareOp .In) (rIn K false) := h ▸ op_in_seq
theorem niQ (K : PySem.W.Frag) (h : X.K = K := by rfl) : OpR X (compareOp .NotIn) (rIn K true) := h ▸ op_notIn_seq
theorem eqD (K : PySem.W.Frag) (hu : X.A.units + 64 < cLine) (h : X.K = K := by rfl) : OpR X (compareOp .Eq) (rEqD K) := h ▸ op_eqD hu
theorem neD (K : PySem.W.Frag) (hu : X.A.units + 64 < cLine) (h : X.K = K := by rfl) : OpR X (compareOp .NotEq) (rNeD K) := h ▸ op_neD hu
theorem catT (K : PySem.W.Frag) (h : X.K = K := by rfl) : OpR X (binaryOp .Add) (rCatT K) := h ▸ op_catT
theorem lenQ (K : PySem.W.Frag) (h : X.K = K := by rfl) : CallR X (.builtin "len") (rLenQ K) := h ▸ call_len_seq
theorem listQ (K : PySem.W.Frag) (h : X.K = K := by rfl) : CallR X (.type "list") (rListQ K) := h ▸ call_list_of
theorem tupQ (K : PySem.W.Frag) (h : X.K = K := by rfl) : CallR X (.type "tuple") (rTupQ K) := h ▸ call_tuple_of
theorem isiK (K : PySem.W.Frag) (h : X.K = K := by rfl) : CallR X (.builtin "isinstance") (rIsi K) := h ▸ call_isi
theorem isiTK (K : PySem.W.Frag) (h : X.K = K := by rfl) : CallR X (.builtin "isinstance") (rIsiT K) := h ▸ call_isiT
theorem sumK (K : PySem.W.Frag) (hc : X.calm = true) (h : X.K = K := by rfl) : CallR X (.builtin "sum") (rSum K) := h ▸ cr_sum hc
theorem maxK (K : PySem.W.Frag) (hc : X.calm = true) (h : X.K = K := by rfl) : CallR X (.builtin "max") (rMax K) := h ▸ cr_max hc
theorem minK (K : PySem.W.Frag) (hc : X.calm = true) (h : X.K = K := by rfl) : CallR X (.builtin "min") (rMin K) := h ▸ cr_min hc
theorem slL (K : PySem.W.Frag) (h : X.K = K := by rfl) : SlR X (rSlL K) := h ▸ sl_list
theorem slT (K : PySem.W.Frag) (h : X.K = K := by rfl) : SlR X (rSlT K) := h ▸ sl_tup
theorem pe_fldK (K : PySem.W.Frag) {e : Expr} {ta : TE} {f : Str} {pos : Pos} (he : PE X e ta) (hb : attributeBase e f X.env (eval e X.env) = eval e X.env) (h : X.K = K := by rfl) : PE X (.Attribute e f pos) (tFld K ta f) := h ▸ pe_fld he hb
theorem pt_truthK (K : PySem.W.Frag) {a : Expr} {ta : TE} (ha : PE X a ta) (he : ∀ whole, isTrue a X.env whole = (do let v ← whole; standAt a.pos; holding [v] (truthy v))) (h : X.K = K := by rfl) : PT X a (tTru K ta) := h ▸ pt_truth ha he
theorem pg_tupK (K : PySem.W.Frag) {es : List Expr} {k : Nat} {t : TGs} {n : Nat} {pos : Pos} (hc : X.calm = true) (hl : PGs X es t) (hn : (assignEach es X.env).length = n := by rfl) (hst : (assignEach es X.env).findIdx? (·.1) = none := by rfl) (h : X.K = K := by rfl) : PG X (.Tuple es k pos) (gTup K n t) := by
  subst h
  exact pg_tup hc hl hn hst
end
/-! ### further values -/
section
variable {K : PySem.W.Frag} {σ : L2.St} {H H' : Hp} {ta tb te tx : TE} {t u : TT} {x y z v : V} {r : R2}
theorem rv_pow {i j : Int} (h : CPow i j) : RV (rI CPow fun i j => .int (i ^ j.toNat)) (.int i) (.int j) H (.int (i ^ j.toNat)) := rv_I h
theorem rv_str {i j : Str} (h : i.length + j.length ≤ sizeLine) : RV (fun x y H Q => ∃ i j, x = .str i ∧ y = .str j ∧ i.length + j.length ≤ sizeLine ∧ Q (.str (i ++ j)) H) (.str i) (.str j) H (.str (i ++ j)) := fun H1 _ _ q => ⟨i, j, rfl, rfl, h, q H1 (Ex.refl H1)⟩
theorem rc_abs {i : Int} : RC (fun xs H Q => ∃ i, xs = [.int i] ∧ Q (.int (if i < 0 then -i else i)) H) [.int i] H (.int (if i < 0 then -i else i)) := fun H1 _ _ q => ⟨i, rfl, q H1 (Ex.refl H1)⟩
theorem rc_int {i : Int} : RC (fun xs H Q => (∃ i, xs = [.int i] ∧ Q (.int i) H) ∨ ∃ k, xs = [.bl k] ∧ Q (.int (if k then 1 else 0)) H) [.int i] H (.int i) := fun H1 _ _ q => .inl ⟨i, rfl, q H1 (Ex.refl H1)⟩
theorem rc_intb {k : Bool} : RC (fun xs H Q => (∃ i, xs = [.int i] ∧ Q (.int i) H) ∨ ∃ k, xs = [.bl k] ∧ Q (.int (if k then 1 else 0)) H) [.bl k] H (.int (if k then 1 else 0)) := fun H1 _ _ q => .inr ⟨k, rfl, q H1 (Ex.refl H1)⟩
theorem rc_max2 {i j : Int} : RC (fun xs H Q => ∃ i j, xs = [.int i, .int j] ∧ Q (.int (if j > i then j else i)) H) [.int i, .int j] H (.int (if j > i then j else i)) := fun H1 _ _ q => ⟨i, j, rfl, q H1 (Ex.refl H1)⟩
theorem rc_min2 {i j : Int} : RC (fun xs H Q => ∃ i j, xs = [.int i, .int j] ∧ Q (.int (if j < i then j else i)) H) [.int i, .int j] H (.int (if j < i then j else i)) := fun H1 _ _ q => ⟨i, j, rfl, q H1 (Ex.refl H1)⟩
theorem rc_lenL {p : Addr} {ys : List V} (h : SqL K H p ys) : RC (rLenQ K) [.ref p] H (.int ys.length) := fun H1 e _ q => ⟨p, ys, rfl, .inl (ex_l e h), q H1 (Ex.refl H1)⟩
theorem rc_lenT {p : Addr} {ys : List V} (h : SqT K H p ys) : RC (rLenQ K) [.ref p] H (.int ys.length) := fun H1 e _ q => ⟨p, ys, rfl, .inr (ex_t e h), q H1 (Ex.refl H1)⟩
theorem rc_isi {x c : V} {t u : Value} {b : Bool} (hc : ClsV c u) (ht : ∀ H1, Ex H H1 → TyX K H1 x t) (hk : PySem.W.kitOne K t u = some b) : RC (rIsi K) [x, c] H (.bl b) := fun H1 e _ q => ⟨x, c, t, u, b, rfl, hc, ht H1 e, hk, q H1 (Ex.refl H1)⟩
end
end My

namespace My
open PySem PySem.Spec PyProof.Rows L2 Evl
/-! ### data -/
section
variable {K : PySem.W.Frag} {H H' : Hp}
mutual
theorem dp_ex (e : Ex H H') : ∀ {v : V} {d : PyData}, Dp K H v d → Dp K H' v d
  | _, _, .non => .non
  | _, _, .bl b => .bl b
  | _, _, .int i => .int i
  | _, _, .str x => .str x
  | _, _, .lst h t => .lst (ex_l e h) (dpa_ex e t)
  | _, _, .tup h t => .tup (ex_t e h) (dpa_ex e t)
theorem dpa_ex (e : Ex H H') : ∀ {vs : List V} {ds : List PyData}, DpAll K H vs ds → DpAll K H' vs ds
  | _, _, .nil => .nil
  | _, _, .cons h t => .cons (dp_ex e h) (dpa_ex e t)
end
theorem dpa_len : ∀ {vs : List V} {ds : List PyData}, DpAll K H vs ds → vs.length = ds.length
  | _, _, .nil => rfl
  | _, _, .cons _ t => congrArg Nat.succ (dpa_len t)
theorem dpa_at : ∀ {vs : List V} {ds : List PyData} {i : Nat}, DpAll K H vs ds → (h : i < ds.length) → ∃ v, vs[i]? = some v ∧ Dp K H v ds[i]
  | _, _, 0, .cons h _, _ => ⟨_, rfl, h⟩
  | _, _, i + 1, .cons _ t, l => by
    obtain ⟨v, e, q⟩ := dpa_at (i := i) t (Nat.lt_of_succ_lt_succ l)
    exact ⟨v, e, q⟩
theorem dpa_app : ∀ {vs ws : List V} {ds es : List PyData}, DpAll K H vs ds → DpAll K H ws es → DpAll K H (vs ++ ws) (ds ++ es)
  | _, _, _, _, .nil, h => h
  | _, _, _, _, .cons a t, h => .cons a (dpa_app t h)
theorem dpa_ints : ∀ ns : List Int, DpAll K H (ns.map V.int) (ns.map PyData.int)
  | [] => .nil
  | n :: r => .cons (.int n) (dpa_ints r)
/-- nested at most so deep, no dict, no list over 40,000 items -/
def Dn : Nat → PyData → Prop
  | _, .none => True
  | _, .bool _ => True
  | _, .int _ => True
  | _, .str _ => True
  | n + 1, .list ds => ds.length ≤ 40000 ∧ ∀ d ∈ ds, Dn n d
  | n + 1, .tuple ds => ds.length ≤ 40000 ∧ ∀ d ∈ ds, Dn n d
  | _, _ => False
theorem Dn.up : ∀ {n : Nat} {d : PyData}, Dn n d → Dn (n + 1) d
  | _, .none, _ => by simp [Dn]
  | _, .bool _, _ => by simp [Dn]
  | _, .int _, _ => by simp [Dn]
  | _, .str _, _ => by simp [Dn]
  | 0, .list _, h => by simp [Dn] at h
  | 0, .tuple _, h => by simp [Dn] at h
  | n + 1, .list ds, h => by
    simp only [Dn] at h ⊢
    exact ⟨h.1, fun d hd => Dn.up (h.2 d hd)⟩
  | n + 1, .tuple ds, h => by
    simp only [Dn] at h ⊢
    exact ⟨h.1, fun d hd => Dn.up (h.2 d hd)⟩
  | 0, .dict _, h => by simp [Dn] at h
  | n + 1, .dict _, h => by simp [Dn] at h
theorem Dn.le {n m : Nat} {d : PyData} (h : Dn n d) (l : n ≤ m) : Dn m d := by
  induction l with
  | refl => exact h
  | step _ ih => exact ih.up
theorem dn_ints {ns : List Int} (h : ns.length ≤ 40000) : Dn 1 (.list (ns.map PyData.int)) := by
  simp only [Dn, List.length_map]
  refine ⟨h, fun d hd => ?_⟩
  obtain ⟨n, _, rfl⟩ := List.mem_map.mp hd
  simp [Dn]
/-! ### types -/
def tyN : PyData → String
  | .none => "NoneType"
  | .bool _ => "bool"
  | .int _ => "int"
  | .str _ => "str"
  | .list _ => "list"
  | .tuple _ => "tuple"
  | .dict _ => "dict"
theorem ty_l {a : Addr} {xs : List V} (h : SqL K H a xs) : TyX K H (.ref a) (.type "list") := by
  rcases h with (h | ⟨o, h⟩) | ⟨o, its, n, h1, h2, _⟩
  · exact .base (.lst h)
  · exact .base (.frz h)
  · exact .kList h1 h2
theorem ty_t {a : Addr} {xs : List V} (h : SqT K H a xs) : TyX K H (.ref a) (.type "tuple") := by
  rcases h with (h | ⟨o, h⟩) | ⟨o, its, n, h1, h2, _⟩
  · exact .base (.tup h)
  · exact .fTuple h
  · exact .kTuple h1 h2
theorem dp_ty {v : V} {d : PyData} (h : Dp K H v d) : TyX K H v (.type (tyN d)) := by
  cases h with
  | non => exact .base .non
  | bl b => exact .base (.bl b)
  | int i => exact .base (.int i)
  | str x => exact .base (.str x)
  | lst h _ => exact ty_l h
  | tup h _ => exact ty_t h
def isB (c t : String) : Bool := kitB t c == some true
/-- the classes that laws ask for -/
def askL : List String := ["int", "bool", "str", "list", "tuple"]
def askd (c : String) : Bool := askL.contains c
theorem kitB_all : ∀ t ∈ ["NoneType", "bool", "int", "str", "list", "tuple"], ∀ c ∈ askL, kitB t c = some (isB c t) := by decide +kernel
theorem kit_all {d : PyData} {v : V} (h : Dp K H v d) {c : String} (hc : askd c = true) : PySem.W.kitOne K (.type (tyN d)) (.type c) = some (isB c (tyN d)) := by
  have hm : c ∈ askL := by
    have h2 : askL.contains c = true := hc
    simpa using h2
  have ht : tyN d ∈ ["NoneType", "bool", "int", "str", "list", "tuple"] := by cases h <;> simp [tyN]
  exact kitB_all _ ht c hm
end
section
variable {K : PySem.W.Frag} {σ : L2.St} {H H' : Hp} {ta tb te tx : TE} {t u : TT} {x y z v : V} {d d2 : PyData}
theorem ev_isiD {c : String} (hx : Ev tx σ H v) (h : Dp K H v d) (hc : askd c = true) : Ev (tCB (rIsi K) (tCons tx (tCons (tC (.ty c)) tNil))) σ H (.bl (isB c (tyN d))) := fun H1 e Q q =>
  hx H1 e _ fun H2 e2 => ⟨v, .ty c, _, _, _, rfl, .ty c, dp_ty (dp_ex (e.trans e2) h), kit_all h hc, q H2 e2⟩
theorem ev_isiD2 {c1 c2 : String} (hx : Ev tx σ H v) (h : Dp K H v d) (h1 : askd c1 = true) (h2 : askd c2 = true) :
    Ev (tCB (rIsiT K) (tCons tx (tCons (tTup (tCons (tC (.ty c1)) (tCons (tC (.ty c2)) tNil))) tNil))) σ H (.bl (isB c1 (tyN d) || isB c2 (tyN d))) := fun H1 e Q q =>
  hx H1 e _ fun H2 e2 => ⟨by show 2 ≤ sizeLine; decide, fun p hp =>
    ⟨v, p, [.ty c1, .ty c2], .type (tyN d), [.type c1, .type c2], _, rfl, upd_same, .cons (.ty c1) (.cons (.ty c2) .nil), dp_ty (dp_ex ((e.trans e2).trans (Ex.new hp)) h), by
      refine kitAny_cons (b := isB c1 (tyN d)) (kit_all h h1) (fun e1 => ?_) (fun e1 => by rw [e1] <;> rfl)
      refine kitAny_cons (b := isB c2 (tyN d)) (kit_all h h2) (fun e2 => ?_) (fun e2 => by rw [e1, e2] <;> rfl)
      rw [e1, e2]
      exact kitAny_nil, q _ (e2.trans (Ex.new hp))⟩⟩
end
end My
namespace My
open PySem PySem.Spec PyProof.Rows L2 Evl
theorem FunD.same {K : PySem.W.Frag} {x qual : Str} {params : Arguments} {body : List Stmt} {scope : Scope} {dvs : List V} {kws : List (Str × V)} {f : Addr} {fd fd2 : FuncData} (F : FunD K x qual params body scope dvs kws f fd) (F2 : FunD K x qual params body scope dvs kws f fd2) : fd = fd2 := by
  obtain ⟨_, _, _, _, _, _, _, _, _, _, _, l1, _⟩ := F.ex
  obtain ⟨_, _, _, _, _, _, _, _, _, _, _, l2, _⟩ := F2.ex
  have e := l1.symm.trans l2
  injection e with e
  injection e with _ _ e _
  injection e
def spLaw (K : PySem.W.Frag) : Sp := fun vs H Q _ => ∃ (a : Addr) (ns : List Int), vs = [.ref a] ∧ SqL K H a (ns.map V.int) ∧ ns.length ≤ 63 ∧ ∀ H', Q (.bl true) H'
end My

namespace My
open PySem PySem.Spec PyProof.Rows L2 Evl
section
variable {K : PySem.W.Frag} {σ : L2.St} {H H' : Hp} {ta tb te tx : TE} {t u : TT} {x y z v : V} {D : Ends} {tu tw tz : TS} {g : TG}
/-- for over range(n), any n; a word B for a break -/
theorem q_forR1' {ta : TA} {j : Nat} {n : Int} (h : EvA ta σ H [.int n]) (hn : -(2 ^ 62) ≤ n ∧ n < 2 ^ 62) (Pv : Nat → L2.St → Hp → Prop) (B : L2.St → Hp → Prop) (h0 : ∀ H1, Ex H H1 → Pv 0 σ H1)
    (hs : ∀ (i : Nat) σ' H', (i : Int) < n → Pv i σ' H' → tu { D with nx := Pv (i + 1), ct := Pv (i + 1), bk := B } (σ'.set j (some (.int (i : Int)))) H') (hd : ∀ σ' H', Pv n.toNat σ' H' → B σ' H')
    (hb : ∀ σ' H', B σ' H' → tz D σ' H') : tCut (tFor (iRng1 ta) (gName j) tu) tz D σ H :=
  ⟨B, h H (Ex.refl H) _ fun H1 e => ⟨n, rfl, hn.1, hn.2, for_range (lo := 0) (n := n.toNat) Pv (h0 H1 e) (fun i σ' H' hi p => by
    have e0 : (0 : Int) + (i : Int) = (i : Int) := Int.zero_add _
    show tu { D with nx := Pv (i + 1), ct := Pv (i + 1), bk := B } (σ'.set j (some (.int ((0 : Int) + (i : Int))))) H'
    rw [e0]
    exact hs i σ' H' (by omega) p) hd⟩, hb⟩
theorem q_forR2' {ta : TA} {j : Nat} {lo n : Int} (h : EvA ta σ H [.int lo, .int n]) (hn : -(2 ^ 62) ≤ lo ∧ lo < 2 ^ 62 ∧ -(2 ^ 62) ≤ n ∧ n < 2 ^ 62) (Pv : Nat → L2.St → Hp → Prop) (B : L2.St → Hp → Prop) (h0 : ∀ H1, Ex H H1 → Pv 0 σ H1)
    (hs : ∀ (i : Nat) σ' H', lo + (i : Int) < n → Pv i σ' H' → tu { D with nx := Pv (i + 1), ct := Pv (i + 1), bk := B } (σ'.set j (some (.int (lo + (i : Int))))) H') (hd : ∀ σ' H', Pv (n - lo).toNat σ' H' → B σ' H')
    (hb : ∀ σ' H', B σ' H' → tz D σ' H') : tCut (tFor (iRng2 ta) (gName j) tu) tz D σ H :=
  ⟨B, h H (Ex.refl H) _ fun H1 e => ⟨lo, n, rfl, hn, for_range (lo := lo) (n := (n - lo).toNat) Pv (h0 H1 e) (fun i σ' H' hi p => hs i σ' H' (by omega) p) hd⟩, hb⟩
end
end My

namespace My
open PySem PySem.Spec PyProof.Rows L2 Evl
theorem isB_tab : isB "int" "NoneType" = false ∧ isB "bool" "NoneType" = false ∧ isB "str" "NoneType" = false ∧ isB "list" "NoneType" = false ∧ isB "tuple" "NoneType" = false ∧ isB "int" "bool" = true ∧ isB "bool" "bool" = true ∧ isB "str" "bool" = false ∧ isB "list" "bool" = false ∧ isB "tuple" "bool" = false ∧ isB "int" "int" = true ∧ isB "bool" "int" = false ∧ isB "str" "int" = false ∧ isB "list" "int" = false ∧ isB "tuple" "int" = false ∧ isB "int" "str" = false ∧ isB "bool" "str" = false ∧ isB "str" "str" = true ∧ isB "list" "str" = false ∧ isB "tuple" "str" = false ∧ isB "int" "list" = false ∧ isB "bool" "list" = false ∧ isB "str" "list" = false ∧ isB "list" "list" = true ∧ isB "tuple" "list" = false ∧ isB "int" "tuple" = false ∧ isB "bool" "tuple" = false ∧ isB "str" "tuple" = false ∧ isB "list" "tuple" = false ∧ isB "tuple" "tuple" = true := by decide +kernel
section
variable {K : PySem.W.Frag} {σ : L2.St} {H H' : Hp} {ta tb te tx : TE} {t u : TT} {x y z v : V} {D : Ends} {tu tw tz : TS} {g : TG}
theorem ev_isN (h : Ev ta σ H x) : Ev (tIsN ta) σ H (.bl (decide (x = .non))) := fun H1 e Q q => h H1 e _ fun H2 e2 => q H2 e2
theorem ev_notN (h : Ev ta σ H x) : Ev (tNotN ta) σ H (.bl (!decide (x = .non))) := fun H1 e Q q => h H1 e _ fun H2 e2 => q H2 e2
end
end My

namespace My
open PySem PySem.Spec PyProof.Rows L2 Evl
section
variable {K : PySem.W.Frag} {σ : L2.St} {H H' : Hp} {ta tb te tx : TE} {t u : TT} {x y z v : V} {D : Ends} {tu tw tz : TS} {g : TG}
theorem ev_lenN' {xs : List V} (ha : EvL ta σ H xs) : Ev (tCB (rLenQ K) (tCons ta tNil)) σ H (.int (xs.length : Int)) := fun H1 e Q q =>
  ha H1 e _ fun p H2 _ e2 h2 => ⟨p, xs, rfl, Or.inl (sq_of h2), q H2 e2⟩
theorem rv_ixQL {p : Addr} {xs : List V} {i : Int} (h : SqL K H p xs) (ha : atI xs i = some v) : RV (rIx K) (.ref p) (.int i) H v := fun H1 e _ q => .inl ⟨p, xs, i, v, rfl, rfl, ex_l e h, ha, q H1 (Ex.refl H1)⟩
theorem rv_ixQT {p : Addr} {xs : List V} {i : Int} (h : SqT K H p xs) (ha : atI xs i = some v) : RV (rIx K) (.ref p) (.int i) H v := fun H1 e _ q => .inr (.inl ⟨p, xs, i, v, rfl, rfl, ex_t e h, ha, q H1 (Ex.refl H1)⟩)
/-- a list or a tuple, by its kind -/
def SqB (K : PySem.W.Frag) (H : Hp) (b : Bool) (a : Addr) (xs : List V) : Prop := if b = true then SqL K H a xs else SqT K H a xs
theorem SqB.ex {b : Bool} {a : Addr} {xs : List V} (e : Ex H H') (h : SqB K H b a xs) : SqB K H' b a xs := by
  cases b with
  | true => exact ex_l e h
  | false => exact ex_t e h
theorem rv_ixB {b : Bool} {p : Addr} {xs : List V} {i : Int} (h : SqB K H b p xs) (ha : atI xs i = some v) : RV (rIx K) (.ref p) (.int i) H v := by
  cases b with
  | true => exact rv_ixQL h ha
  | false => exact rv_ixQT h ha
theorem rc_lenB {b : Bool} {p : Addr} {ys : List V} (h : SqB K H b p ys) : RC (rLenQ K) [.ref p] H (.int ys.length) := by
  cases b with
  | true => exact rc_lenL h
  | false => exact rc_lenT h
end
theorem given_none {n : Nat} {f : Nat → Bool} {v : Nat → V} : (given n f v).length = 0 ↔ ∀ i, i < n → f i = false := by
  unfold given
  rw [List.length_map, List.length_eq_zero_iff, List.filter_eq_nil_iff]
  constructor
  · intro h i hi
    have := h i (List.mem_range.mpr hi)
    simpa using this
  · intro h i hi
    rw [h i (List.mem_range.mp hi)]
    exact Bool.false_ne_true
/-- the sequences of one kind -/
def seqD (b : Bool) (ds : List PyData) : PyData := if b = true then .list ds else .tuple ds
theorem seqD_inj {b : Bool} {ds es : List PyData} : seqD b ds = seqD b es ↔ ds = es := by
  cases b <;> simp [seqD]
theorem dp_seq {K : PySem.W.Frag} {H : Hp} {b : Bool} {v : V} {ds : List PyData} (h : Dp K H v (seqD b ds)) : ∃ a xs, v = .ref a ∧ SqB K H b a xs ∧ DpAll K H xs ds := by
  cases b with
  | true =>
    cases h with
    | lst h t => exact ⟨_, _, rfl, h, t⟩
  | false =>
    cases h with
    | tup h t => exact ⟨_, _, rfl, h, t⟩
theorem dn_seq {n : Nat} {b : Bool} {ds : List PyData} (h : Dn n (seqD b ds)) : ∃ m, n = m + 1 ∧ ds.length ≤ 40000 ∧ ∀ d ∈ ds, Dn m d := by
  cases n with
  | zero => cases b <;> simp [Dn, seqD] at h
  | succ m => cases b <;> (simp [Dn, seqD] at h; exact ⟨m, rfl, h⟩)
end My

namespace My
open PySem PySem.Spec PyProof.Rows L2 Evl
/-! ### expressions whose values are data -/
section
variable {K : PySem.W.Frag}
def EvD (K : PySem.W.Frag) (te : TE) (σ : L2.St) (H : Hp) (d : PyData) : Prop := ∀ H1, Ex H H1 → ∀ Q : VK, (∀ v H2, Ex H1 H2 → Dp K H2 v d → Q v H2) → te σ H1 Q
def EvDs (K : PySem.W.Frag) (ta : TA) (σ : L2.St) (H : Hp) (ds : List PyData) : Prop := ∀ H1, Ex H H1 → ∀ Q : List V → Hp → Prop, (∀ vs H2, Ex H1 H2 → DpAll K H2 vs ds → Q vs H2) → ta σ H1 Q
/-- what a call hands back is data d, all else as it was -/
def RetD (K : PySem.W.Frag) (d : PyData) (H : Hp) (Q : VK) : Prop := ∀ v H2, Ex H H2 → Dp K H2 v d → Q v H2
/-- a call over data -/
def SpD (K : PySem.W.Frag) (sp : Sp) (ds : List PyData) (d : PyData) : Prop := ∀ vs H1, DpAll K H1 vs ds → ∀ Q : VK, RetD K d H1 Q → ∀ E : XK, sp vs H1 Q E
/-- a def that is a function of data -/
def spFn (K : PySem.W.Frag) (pre : List PyData → Prop) (f : List PyData → PyData) : Sp := fun vs H Q _ => ∃ ds, DpAll K H vs ds ∧ pre ds ∧ RetD K (f ds) H Q
/-- .. of which only a relation is told -/
def spRel (K : PySem.W.Frag) (pre : List PyData → Prop) (R : List PyData → PyData → Prop) : Sp := fun vs H Q _ => ∃ ds, DpAll K H vs ds ∧ pre ds ∧ ∀ d, R ds d → RetD K d H Q
theorem spFn_D {pre : List PyData → Prop} {f : List PyData → PyData} {ds : List PyData} (h : pre ds) : SpD K (spFn K pre f) ds (f ds) := fun vs H1 hv Q q E => ⟨ds, hv, h, q⟩
theorem RetD.go {d : PyData} {H H1 : Hp} {Q : VK} (k : RetD K d H Q) (e : Ex H H1) : RetD K d H1 Q := fun v H2 e2 h => k v H2 (e.trans e2) h
variable {σ : L2.St} {H H' : Hp} {ta tb te tx : TE} {t u : TT} {x y z v : V} {D : Ends} {tu tw tz : TS} {g : TG} {d e : PyData} {ds es : List PyData} {i j : Int} {b : Bool}
theorem EvD.mono (e : Ex H H') (h : EvD K te σ H d) : EvD K te σ H' d := fun H1 a Q q => h H1 (e.trans a) Q q
theorem dp_int (h : Dp K H v (.int i)) : v = .int i := by cases h; rfl
theorem dp_str {s : Str} (h : Dp K H v (.str s)) : v = .str s := by cases h; rfl
theorem dp_bool (h : Dp K H v (.bool b)) : v = .bl b := by cases h; rfl
theorem dp_none (h : Dp K H v .none) : v = .non := by cases h; rfl
theorem dp_list (h : Dp K H v (.list ds)) : ∃ a xs, v = .ref a ∧ SqL K H a xs ∧ DpAll K H xs ds := by
  cases h with
  | lst h t => exact ⟨_, _, rfl, h, t⟩
theorem dp_tup (h : Dp K H v (.tuple ds)) : ∃ a xs, v = .ref a ∧ SqT K H a xs ∧ DpAll K H xs ds := by
  cases h with
  | tup h t => exact ⟨_, _, rfl, h, t⟩
/-- a value that is data at H stays so -/
theorem evd_of (h : Ev te σ H v) (hd : Dp K H v d) : EvD K te σ H d := fun H1 e Q q => h H1 e Q fun H2 e2 => q v H2 e2 (dp_ex (e.trans e2) hd)
theorem evd_i (h : Ev te σ H (.int i)) : EvD K te σ H (.int i) := evd_of h (.int i)
theorem evd_b (h : Ev te σ H (.bl b)) : EvD K te σ H (.bool b) := evd_of h (.bl b)
theorem evd_s {s : Str} (h : Ev te σ H (.str s)) : EvD K te σ H (.str s) := evd_of h (.str s)
theorem evd_n (h : Ev te σ H .non) : EvD K te σ H .none := evd_of h .non
theorem EvD.toI (h : EvD K te σ H (.int i)) : Ev te σ H (.int i) := fun H1 e Q q => h H1 e Q fun v H2 e2 hd => dp_int hd ▸ q H2 e2
theorem EvD.toB (h : EvD K te σ H (.bool b)) : Ev te σ H (.bl b) := fun H1 e Q q => h H1 e Q fun v H2 e2 hd => dp_bool hd ▸ q H2 e2
theorem EvD.toS {s : Str} (h : EvD K te σ H (.str s)) : Ev te σ H (.str s) := fun H1 e Q q => h H1 e Q fun v H2 e2 hd => dp_str hd ▸ q H2 e2
theorem evd_var {n : Nat} (h : σ[n]? = some (some v)) (hd : Dp K H v d) : EvD K (tVar n) σ H d := evd_of (ev_var h) hd
theorem evd_int : EvD K (tC (.int i)) σ H (.int i) := evd_i ev_c
theorem evd_str {s : Str} : EvD K (tC (.str s)) σ H (.str s) := evd_s ev_c
theorem evd_bl : EvD K (tC (.bl b)) σ H (.bool b) := evd_b ev_c
theorem evd_non : EvD K (tC .non) σ H .none := evd_n ev_c
theorem evds_nil : EvDs K tNil σ H [] := fun H1 _ Q q => q [] H1 (Ex.refl H1) .nil
theorem evds_cons {tr : TA} (h : EvD K te σ H d) (hr : EvDs K tr σ H ds) : EvDs K (tCons te tr) σ H (d :: ds) := fun H1 e Q q =>
  h H1 e _ fun v H2 e2 hv => hr H2 (e.trans e2) _ fun vs H3 e3 hvs => q _ H3 (e2.trans e3) (.cons (dp_ex e3 hv) hvs)
theorem evd_call {sp : Sp} {E : XK} {ta : TA} (h : EvDs K ta σ H ds) (hs : SpD K sp ds d) : EvD K (tCall sp [] E ta) σ H d := fun H1 e Q q =>
  h H1 e _ fun vs H2 e2 hv => by
    rw [List.append_nil]
    exact hs vs H2 hv Q (fun v H3 e3 h3 => q v H3 (e2.trans e3) h3) E
theorem evd_tup {ta : TA} (h : EvDs K ta σ H ds) (hl : ds.length ≤ 100000) : EvD K (tTup ta) σ H (.tuple ds) := fun H1 e Q q =>
  h H1 e _ fun vs H2 e2 hv => ⟨by rw [dpa_len hv]; exact sz_of hl, fun p hp => q _ _ (e2.trans (Ex.new hp)) (.tup (st_of upd_same) (dpa_ex (Ex.new hp) hv))⟩
theorem evd_lst {ta : TA} (h : EvDs K ta σ H ds) (hl : ds.length ≤ 100000) : EvD K (tLst ta) σ H (.list ds) := fun H1 e Q q =>
  h H1 e _ fun vs H2 e2 hv => ⟨by rw [dpa_len hv]; exact sz_of hl, fun p hp => q _ _ (e2.trans (Ex.new hp)) (.lst (sq_of upd_same) (dpa_ex (Ex.new hp) hv))⟩
/-- the item at an int place -/
theorem dpa_atI {vs : List V} (h : DpAll K H vs ds) (ha : atI ds i = some d) : ∃ v, atI vs i = some v ∧ Dp K H v d := by
  obtain ⟨n, hn, hd⟩ := Option.bind_eq_some_iff.mp (show (ixN ds.length i).bind (fun j => ds[j]?) = some d from ha)
  obtain ⟨hlt, he⟩ := List.getElem?_eq_some_iff.mp hd
  obtain ⟨v, hv, hp⟩ := dpa_at h hlt
  refine ⟨v, ?_, he ▸ hp⟩
  show (ixN vs.length i).bind (fun j => vs[j]?) = some v
  rw [dpa_len h, hn]
  exact hv
theorem evd_ixL (ha : EvD K ta σ H (.list ds)) (hb : Ev tb σ H (.int i)) (h : atI ds i = some d) : EvD K (tOp (rIxL K) ta tb) σ H d := fun H1 e Q q =>
  ha H1 e _ fun v H2 e2 hv => hb H2 (e.trans e2) _ fun H3 e3 => by
    obtain ⟨a, xs, rfl, hs, hx⟩ := dp_list hv
    obtain ⟨w, hw, hp⟩ := dpa_atI hx h
    exact ⟨a, xs, i, w, rfl, rfl, ex_l e3 hs, hw, q w H3 (e2.trans e3) (dp_ex e3 hp)⟩
theorem evd_ixT (ha : EvD K ta σ H (.tuple ds)) (hb : Ev tb σ H (.int i)) (h : atI ds i = some d) : EvD K (tOp (rIxT K) ta tb) σ H d := fun H1 e Q q =>
  ha H1 e _ fun v H2 e2 hv => hb H2 (e.trans e2) _ fun H3 e3 => by
    obtain ⟨a, xs, rfl, hs, hx⟩ := dp_tup hv
    obtain ⟨w, hw, hp⟩ := dpa_atI hx h
    exact ⟨a, xs, i, w, rfl, rfl, ex_t e3 hs, hw, q w H3 (e2.trans e3) (dp_ex e3 hp)⟩
theorem ev_lenD (ha : EvD K ta σ H (.list ds)) : Ev (tCB (rLenQ K) (tCons ta tNil)) σ H (.int (ds.length : Int)) := fun H1 e Q q =>
  ha H1 e _ fun v H2 e2 hv => by
    obtain ⟨a, xs, rfl, hs, hx⟩ := dp_list hv
    refine ⟨a, xs, rfl, .inl hs, ?_⟩
    rw [dpa_len hx]
    exact q H2 e2
theorem ev_lenDT (ha : EvD K ta σ H (.tuple ds)) : Ev (tCB (rLenQ K) (tCons ta tNil)) σ H (.int (ds.length : Int)) := fun H1 e Q q =>
  ha H1 e _ fun v H2 e2 hv => by
    obtain ⟨a, xs, rfl, hs, hx⟩ := dp_tup hv
    refine ⟨a, xs, rfl, .inr hs, ?_⟩
    rw [dpa_len hx]
    exact q H2 e2
theorem dpa_drop : ∀ {vs : List V} {ds : List PyData} (n : Nat), DpAll K H vs ds → DpAll K H (vs.drop n) (ds.drop n)
  | _, _, 0, h => h
  | _, _, _ + 1, .nil => .nil
  | _, _, n + 1, .cons _ t => dpa_drop n t
theorem dpa_take : ∀ {vs : List V} {ds : List PyData} (n : Nat), DpAll K H vs ds → DpAll K H (vs.take n) (ds.take n)
  | _, _, 0, _ => .nil
  | _, _, _ + 1, .nil => .nil
  | _, _, n + 1, .cons h t => .cons h (dpa_take n t)
def cutD (xs : List PyData) (lo hi : Option Int) : List PyData := (xs.drop (HT.sIx xs.length 0 lo)).take (HT.sIx xs.length xs.length hi - HT.sIx xs.length 0 lo)
theorem dpa_cut {vs : List V} {lo hi : Option Int} (h : DpAll K H vs ds) : DpAll K H (cutV vs lo hi) (cutD ds lo hi) := by
  unfold cutV cutD
  rw [dpa_len h]
  exact dpa_take _ (dpa_drop _ h)
theorem evd_slL {tl th : TO} {lo hi : Option Int} (h : EvD K te σ H (.list ds)) (h1 : EvO tl σ H lo) (h2 : EvO th σ H hi) : EvD K (tSl (rSlL K) te tl th) σ H (.list (cutD ds lo hi)) := fun H0 e Q q =>
  h H0 e _ fun v H1 e1 hv => h1 H1 (e.trans e1) _ fun H2 e2 => h2 H2 ((e.trans e1).trans e2) _ fun H3 e3 => by
    obtain ⟨a, xs, rfl, hs, hx⟩ := dp_list hv
    refine ⟨a, xs, rfl, ex_l (e2.trans e3) hs, fun p hp => q _ _ (((e1.trans e2).trans e3).trans (Ex.new hp)) (.lst (sq_of upd_same) ?_)⟩
    exact dpa_ex (Ex.new hp) (dpa_cut (dpa_ex (e2.trans e3) hx))
/-- ==, != of data -/
theorem ev_eqD (ha : EvD K ta σ H d) (hb : EvD K tb σ H e) (sd : SeqAt.shaped d = true) (se : SeqAt.shaped e = true) : Ev (tOp (rEqD K) ta tb) σ H (.bl (PyData.eqv d e)) := fun H1 x Q q =>
  ha H1 x _ fun v H2 e2 hv => hb H2 (x.trans e2) _ fun u H3 e3 hu => ⟨d, e, dp_ex e3 hv, hu, sd, se, q H3 (e2.trans e3)⟩
theorem ev_neD (ha : EvD K ta σ H d) (hb : EvD K tb σ H e) (sd : SeqAt.shaped d = true) (se : SeqAt.shaped e = true) : Ev (tOp (rNeD K) ta tb) σ H (.bl (!PyData.eqv d e)) := fun H1 x Q q =>
  ha H1 x _ fun v H2 e2 hv => hb H2 (x.trans e2) _ fun u H3 e3 hu => ⟨d, e, dp_ex e3 hv, hu, sd, se, q H3 (e2.trans e3)⟩
def isNone : PyData → Bool
  | .none => true
  | _ => false
theorem isNone_iff {d : PyData} : isNone d = true ↔ d = .none := by cases d <;> simp [isNone]
theorem ev_isND (ha : EvD K ta σ H d) : Ev (tIsN ta) σ H (.bl (isNone d)) := fun H1 x Q q =>
  ha H1 x _ fun v H2 e2 hv => by
    have : decide (v = .non) = isNone d := by cases hv <;> simp [isNone]
    rw [this]
    exact q H2 e2
theorem ev_notND (ha : EvD K ta σ H d) : Ev (tNotN ta) σ H (.bl (!isNone d)) := fun H1 x Q q =>
  ha H1 x _ fun v H2 e2 hv => by
    have : decide (v = .non) = isNone d := by cases hv <;> simp [isNone]
    rw [this]
    exact q H2 e2
/-- a new list of data -/
def EvLD (K : PySem.W.Frag) (te : TE) (σ : L2.St) (H : Hp) (ds : List PyData) : Prop := ∀ H1, Ex H H1 → ∀ Q : VK, (∀ p vs H2, H1 p = none → Ex H1 H2 → H2 p = some (.lst vs) → DpAll K H2 vs ds → Q (.ref p) H2) → te σ H1 Q
theorem EvLD.toD (h : EvLD K te σ H ds) : EvD K te σ H (.list ds) := fun H1 e Q q => h H1 e Q fun p vs H2 _ e2 h2 hd => q _ H2 e2 (.lst (sq_of h2) hd)
theorem eld_lst {ta : TA} (h : EvDs K ta σ H ds) (hl : ds.length ≤ 100000) : EvLD K (tLst ta) σ H ds := fun H1 e Q q =>
  h H1 e _ fun vs H2 e2 hv => ⟨by rw [dpa_len hv]; exact sz_of hl, fun p hp => q p vs _ (fresh_back e2 hp) (e2.trans (Ex.new hp)) upd_same (dpa_ex (Ex.new hp) hv)⟩
theorem eld_list (ha : EvD K ta σ H (.list ds)) : EvLD K (tCB (rListQ K) (tCons ta tNil)) σ H ds := fun H1 e Q q =>
  ha H1 e _ fun v H2 e2 hv => by
    obtain ⟨a, xs, rfl, hs, hx⟩ := dp_list hv
    exact ⟨a, xs, rfl, .inl hs, fun l hl => q l xs _ (fresh_back e2 hl) (e2.trans (Ex.new hl)) upd_same (dpa_ex (Ex.new hl) hx)⟩
theorem eld_listT (ha : EvD K ta σ H (.tuple ds)) : EvLD K (tCB (rListQ K) (tCons ta tNil)) σ H ds := fun H1 e Q q =>
  ha H1 e _ fun v H2 e2 hv => by
    obtain ⟨a, xs, rfl, hs, hx⟩ := dp_tup hv
    exact ⟨a, xs, rfl, .inr hs, fun l hl => q l xs _ (fresh_back e2 hl) (e2.trans (Ex.new hl)) upd_same (dpa_ex (Ex.new hl) hx)⟩
theorem eld_sl {tl th : TO} {lo hi : Option Int} (h : EvD K te σ H (.list ds)) (h1 : EvO tl σ H lo) (h2 : EvO th σ H hi) : EvLD K (tSl (rSlL K) te tl th) σ H (cutD ds lo hi) := fun H0 e Q q =>
  h H0 e _ fun v H1 e1 hv => h1 H1 (e.trans e1) _ fun H2 e2 => h2 H2 ((e.trans e1).trans e2) _ fun H3 e3 => by
    obtain ⟨a, xs, rfl, hs, hx⟩ := dp_list hv
    refine ⟨a, xs, rfl, ex_l (e2.trans e3) hs, fun p hp => q p _ _ (fresh_back ((e1.trans e2).trans e3) hp) (((e1.trans e2).trans e3).trans (Ex.new hp)) upd_same ?_⟩
    exact dpa_ex (Ex.new hp) (dpa_cut (dpa_ex (e2.trans e3) hx))
/-! ### statements -/
theorem sd_asg {i : Nat} (h : EvD K te σ H d) (k : ∀ v H1, Ex H H1 → Dp K H1 v d → D.nx (σ.set i (some v)) H1) : tAsg te (gName i) D σ H := h H (Ex.refl H) _ fun v H1 e hv => k v H1 e hv
theorem qd_asg {i : Nat} (h : EvD K te σ H d) (k : ∀ v H1, Ex H H1 → Dp K H1 v d → tz D (σ.set i (some v)) H1) : tSeq (tAsg te (gName i)) tz D σ H := h H (Ex.refl H) _ fun v H1 e hv => k v H1 e hv
theorem sd_ret (h : EvD K te σ H d) (k : RetD K d H D.rt) : tRet te D σ H := h H (Ex.refl H) _ k
theorem sl_asg {i : Nat} (h : EvLD K te σ H ds) (k : ∀ p vs H1, H p = none → Ex H H1 → H1 p = some (.lst vs) → DpAll K H1 vs ds → D.nx (σ.set i (some (.ref p))) H1) : tAsg te (gName i) D σ H := h H (Ex.refl H) _ fun p vs H1 hp e h1 hd => k p vs H1 hp e h1 hd
theorem ql_asg {i : Nat} (h : EvLD K te σ H ds) (k : ∀ p vs H1, H p = none → Ex H H1 → H1 p = some (.lst vs) → DpAll K H1 vs ds → tz D (σ.set i (some (.ref p))) H1) : tSeq (tAsg te (gName i)) tz D σ H := h H (Ex.refl H) _ fun p vs H1 hp e h1 hd => k p vs H1 hp e h1 hd
/-- l.append(e), the list l at H -/
theorem qd_app {l : Addr} {xs : List V} (hl : H l = some (.lst xs)) (ha : Ev ta σ H (.ref l)) (h : EvD K te σ H d) (hz : xs.length < 100000) (k : ∀ v H1, Ex H H1 → Dp K H1 v d → tz D σ (upd H1 l (.lst (xs ++ [v])))) :
    tSeq (tDrop (tBM K "list" rAppend ta (tCons te tNil))) tz D σ H := ha H (Ex.refl H) _ fun H1 e1 =>
  ⟨Or.inl ⟨rfl, xs, sq_of (e1 l _ hl)⟩, h H1 e1 _ fun v H2 e2 hv => ⟨l, xs, v, rfl, rfl, e2 l _ (e1 l _ hl), sz_lt hz, k v H2 (e1.trans e2) hv⟩⟩
theorem sd_app {l : Addr} {xs : List V} (hl : H l = some (.lst xs)) (ha : Ev ta σ H (.ref l)) (h : EvD K te σ H d) (hz : xs.length < 100000) (k : ∀ v H1, Ex H H1 → Dp K H1 v d → D.nx σ (upd H1 l (.lst (xs ++ [v])))) :
    tDrop (tBM K "list" rAppend ta (tCons te tNil)) D σ H := ha H (Ex.refl H) _ fun H1 e1 =>
  ⟨Or.inl ⟨rfl, xs, sq_of (e1 l _ hl)⟩, h H1 e1 _ fun v H2 e2 hv => ⟨l, xs, v, rfl, rfl, e2 l _ (e1 l _ hl), sz_lt hz, k v H2 (e1.trans e2) hv⟩⟩
end
/-- all but the objects at these places is as it was -/
def ExO (L : List Addr) (H H' : Hp) : Prop := ∀ a o, a ∉ L → H a = some o → H' a = some o
theorem ExO.refl (L : List Addr) (H : Hp) : ExO L H H := fun _ _ _ h => h
theorem ExO.trans {L : List Addr} {H H1 H2 : Hp} (a : ExO L H H1) (b : ExO L H1 H2) : ExO L H H2 := fun x o n h => b x o n (a x o n h)
theorem ExO.of {L : List Addr} {H H' : Hp} (e : Ex H H') : ExO L H H' := fun a o _ h => e a o h
theorem ExO.upd {L : List Addr} {H H' : Hp} {p : Addr} {o : HO} (e : ExO L H H') (hp : p ∈ L) : ExO L H (L2.upd H' p o) := fun a u n h => by
  rw [upd_ne (fun z => n (by rw [z]; exact hp))]
  exact e a u n h
/-- what was not there at all may change -/
theorem ExO.ex {L : List Addr} {H0 H H' : Hp} (e0 : Ex H0 H) (e : ExO L H H') (hn : ∀ p ∈ L, H0 p = none) : Ex H0 H' := fun a o h =>
  e a o (fun hm => by rw [hn a hm] at h; cases h) (e0 a o h)
end My

namespace My
open PySem PySem.Spec PyProof.Rows L2 Evl
section
variable {K : PySem.W.Frag} {σ : L2.St} {H H' : Hp} {ta tb te tx : TE} {t u : TT} {x y z v : V} {D : Ends} {tu tw tz : TS} {g : TG} {d e : PyData} {ds es : List PyData} {i j : Int} {b : Bool}
/-- a call whose first argument is a new list -/
theorem ev_callL {sp : Sp} {E : XK} {tr : TA} {xs vs : List V} (h : EvL te σ H xs) (hr : EvA tr σ H vs) (hs : ∀ p H1, Ex H H1 → H1 p = some (.lst xs) → SpV sp (.ref p :: vs) H1 z) : Ev (tCall sp [] E (tCons te tr)) σ H z := fun H1 e Q q =>
  h H1 e _ fun p H2 hp e2 h2 => hr H2 (e.trans e2) _ fun H3 e3 => by
    show sp ((V.ref p :: vs) ++ []) H3 Q E
    rw [List.append_nil]
    exact hs p H3 ((e.trans e2).trans e3) (e3 _ _ h2) H3 (Ex.refl H3) Q (fun H4 e4 => q H4 ((e2.trans e3).trans e4)) E
theorem dpa_strs : ∀ ws : List Str, DpAll K H (ws.map V.str) (ws.map PyData.str)
  | [] => .nil
  | n :: r => .cons (.str n) (dpa_strs r)
theorem dn_strs {ws : List Str} {n : Nat} (h : ws.length ≤ 40000) : Dn (n + 1) (.list (ws.map PyData.str)) := by
  simp only [Dn, List.length_map]
  refine ⟨h, fun d hd => ?_⟩
  obtain ⟨x, _, rfl⟩ := List.mem_map.mp hd
  simp [Dn]
theorem dp_strs {a : Addr} {ws : List Str} (h : SqL K H a (ws.map V.str)) : Dp K H (.ref a) (.list (ws.map PyData.str)) := .lst h (dpa_strs ws)
theorem dp_ints {a : Addr} {ns : List Int} (h : SqL K H a (ns.map V.int)) : Dp K H (.ref a) (.list (ns.map PyData.int)) := .lst h (dpa_ints ns)
theorem q_whenF (h : EvT t σ H false) (k : ∀ H1, Ex H H1 → tz D σ H1) : tSeq (tIfS t tu tNext) tz D σ H := q_when (b := false) h (fun z => nomatch z) fun _ H1 e => k H1 e
theorem s_whenF (h : EvT t σ H false) (k : ∀ H1, Ex H H1 → D.nx σ H1) : tIfS t tu tNext D σ H := s_when (b := false) h (fun z => nomatch z) fun _ H1 e => k H1 e
theorem et_notT (h : EvT t σ H true) : EvT (tNot t) σ H false := et_not h
/-- for over a list that stands, behind it a word B -/
theorem q_forL' {a : Addr} {xs : List V} {tl : TE} (h : Ev tl σ H (.ref a)) (hx : SqL K H a xs) (Pv : Nat → L2.St → Hp → Prop) (B : L2.St → Hp → Prop) (h0 : ∀ H1, Ex H H1 → Pv 0 σ H1) (hl : ∀ i σ' H', i ≤ xs.length → Pv i σ' H' → SqL K H' a xs)
    (hs : ∀ i x σ' H', xs[i]? = some x → Pv i σ' H' → g x σ' H' fun σ2 H2 => tu { D with nx := Pv (i + 1), ct := Pv (i + 1), bk := B } σ2 H2) (hd : ∀ σ' H', Pv xs.length σ' H' → B σ' H')
    (hb : ∀ σ' H', B σ' H' → tz D σ' H') : tCut (tFor (iList K tl) g tu) tz D σ H :=
  ⟨B, h H (Ex.refl H) _ fun H1 e => ⟨a, rfl, ⟨xs, ex_l e hx⟩, for_list Pv (h0 H1 e) hl hs hd⟩, hb⟩
/-- .. over what an expression gives -/
theorem q_forD' {tl : TE} (h : EvD K tl σ H (.list ds)) (Pv : Addr → List V → Nat → L2.St → Hp → Prop) (B : L2.St → Hp → Prop) (h0 : ∀ a vs H1, Ex H H1 → SqL K H1 a vs → DpAll K H1 vs ds → Pv a vs 0 σ H1) (hl : ∀ a vs i σ' H', i ≤ vs.length → Pv a vs i σ' H' → SqL K H' a vs)
    (hs : ∀ a vs i x σ' H', vs[i]? = some x → Pv a vs i σ' H' → g x σ' H' fun σ2 H2 => tu { D with nx := Pv a vs (i + 1), ct := Pv a vs (i + 1), bk := B } σ2 H2) (hd : ∀ a vs σ' H', Pv a vs vs.length σ' H' → B σ' H')
    (hb : ∀ σ' H', B σ' H' → tz D σ' H') : tCut (tFor (iList K tl) g tu) tz D σ H :=
  ⟨B, h H (Ex.refl H) _ fun v H1 e hv => by
    obtain ⟨a, vs, rfl, hs2, hx⟩ := dp_list hv
    exact ⟨a, rfl, ⟨vs, hs2⟩, for_list (Pv a vs) (h0 a vs H1 e hs2 hx) (hl a vs) (hs a vs) (hd a vs)⟩, hb⟩
end
end My
namespace My
open PySem PySem.Spec PyProof.Rows L2 Evl
section
variable {K : PySem.W.Frag} {σ : L2.St} {H H' : Hp} {ta tb te tx ti t1 t2 : TE} {t u : TT} {x y z v : V} {D : Ends} {tu tw tz : TS} {g : TG} {d e : PyData} {ds es : List PyData} {i j : Int} {b : Bool}
/-- one of two new lists, by a place -/
theorem el_two {xs x1 x2 : List V} (h1 : EvL t1 σ H x1) (h2 : EvL t2 σ H x2) (hi : Ev ti σ H (.int i)) (hc : (i = 0 ∧ xs = x1) ∨ (i = 1 ∧ xs = x2)) : EvL (tOp (rIxL K) (tLst (tCons t1 (tCons t2 tNil))) ti) σ H xs := fun H1 e Q q =>
  h1 H1 e _ fun p1 H2 n1 e2 l1 => h2 H2 (e.trans e2) _ fun p2 H3 n2 e3 l2 => ⟨by show 2 ≤ sizeLine; decide, fun p hp => by
    have E3 := (e2.trans e3).trans (Ex.new (o := .lst [.ref p1, .ref p2]) hp)
    refine hi _ (e.trans E3) _ fun H4 e4 => ?_
    have a1 : H4 p1 = some (.lst x1) := e4 _ _ ((Ex.new hp) _ _ (e3 _ _ l1))
    have a2 : H4 p2 = some (.lst x2) := e4 _ _ ((Ex.new hp) _ _ l2)
    rcases hc with ⟨rfl, rfl⟩ | ⟨rfl, rfl⟩
    · exact ⟨p, [.ref p1, .ref p2], 0, .ref p1, rfl, rfl, sq_of (e4 _ _ upd_same), rfl, q p1 H4 n1 (E3.trans e4) a1⟩
    · exact ⟨p, [.ref p1, .ref p2], 1, .ref p2, rfl, rfl, sq_of (e4 _ _ upd_same), rfl, q p2 H4 (fresh_back e2 n2) (E3.trans e4) a2⟩⟩
theorem q_forNL' {xs : List V} {tl : TE} (h : EvL tl σ H xs) (Pv : Addr → Nat → L2.St → Hp → Prop) (B : L2.St → Hp → Prop) (h0 : ∀ p H1, H p = none → Ex H H1 → H1 p = some (.lst xs) → Pv p 0 σ H1) (hl : ∀ p i σ' H', i ≤ xs.length → Pv p i σ' H' → SqL K H' p xs)
    (hs : ∀ p i x σ' H', xs[i]? = some x → Pv p i σ' H' → g x σ' H' fun σ2 H2 => tu { D with nx := Pv p (i + 1), ct := Pv p (i + 1), bk := B } σ2 H2) (hd : ∀ p σ' H', Pv p xs.length σ' H' → B σ' H')
    (hb : ∀ σ' H', B σ' H' → tz D σ' H') : tCut (tFor (iList K tl) g tu) tz D σ H :=
  ⟨B, h H (Ex.refl H) _ fun p H1 hp e h1 => ⟨p, rfl, ⟨xs, sq_of h1⟩, for_list (Pv p) (h0 p H1 hp e h1) (hl p) (hs p) (hd p)⟩, hb⟩
end
end My

namespace Law
open PySem PySem.Spec PyProof.Rows L2 Evl My
def top (i : Nat) : Stmt := PySem.Challenge.pw_lentpages_k10_change_kinds.main.body.getD i (.Pass ⟨0, 0, 0, 0⟩)
abbrev s_change_kind : Stmt := top 1
abbrev s_is_safe : Stmt := top 2
abbrev s_l_number : Stmt := top 4
abbrev s_l_is_whole : Stmt := top 5
abbrev s_l_same : Stmt := top 6
abbrev s_l_thing : Stmt := top 7
abbrev s_l_change_of : Stmt := top 8
abbrev s_l_kinds : Stmt := top 9
abbrev s_l_safe : Stmt := top 10
abbrev s_law : Stmt := top 11
def dd_change_kind : He.DefD := ⟨("change_kind", none), "change_kind", "change_kind", defArgs s_change_kind, defBody s_change_kind, defScope s_change_kind, [], []⟩
def dd_is_safe : He.DefD := ⟨("is_safe", none), "is_safe", "is_safe", defArgs s_is_safe, defBody s_is_safe, defScope s_is_safe, [], []⟩
def dd_l_number : He.DefD := ⟨("_law_number", none), "_law_number", "_law_number", defArgs s_l_number, defBody s_l_number, defScope s_l_number, [], []⟩
def dd_l_is_whole : He.DefD := ⟨("_law_is_whole", none), "_law_is_whole", "_law_is_whole", defArgs s_l_is_whole, defBody s_l_is_whole, defScope s_l_is_whole, [], []⟩
def dd_l_same : He.DefD := ⟨("_law_same", none), "_law_same", "_law_same", defArgs s_l_same, defBody s_l_same, defScope s_l_same, [], []⟩
def dd_l_thing : He.DefD := ⟨("_law_thing", none), "_law_thing", "_law_thing", defArgs s_l_thing, defBody s_l_thing, defScope s_l_thing, [], []⟩
def dd_l_change_of : He.DefD := ⟨("_law_change_of", none), "_law_change_of", "_law_change_of", defArgs s_l_change_of, defBody s_l_change_of, defScope s_l_change_of, [], []⟩
def dd_l_kinds : He.DefD := ⟨("_law_kinds", none), "_law_kinds", "_law_kinds", defArgs s_l_kinds, defBody s_l_kinds, defScope s_l_kinds, [], []⟩
def dd_l_safe : He.DefD := ⟨("_law_safe", none), "_law_safe", "_law_safe", defArgs s_l_safe, defBody s_l_safe, defScope s_l_safe, [], []⟩
def dd_law : He.DefD := ⟨("law", none), "law", "law", defArgs s_law, defBody s_law, defScope s_law, [], []⟩
def fns : List He.DefD := [dd_change_kind, dd_is_safe, dd_l_number, dd_l_is_whole, dd_l_same, dd_l_thing, dd_l_change_of, dd_l_kinds, dd_l_safe, dd_law]
def fas : List He.Fa := [.free "len", .free "abs", .free "range", .free "int", .free "isinstance", .free "bool", .free "str", .free "list", .free "tuple", .glo "change_kind", .glo "is_safe", .glo "_law_number", .glo "_law_is_whole", .glo "_law_same", .glo "_law_thing", .glo "_law_change_of", .glo "_law_kinds", .glo "_law_safe", .glo "law"]
abbrev TX (K : PySem.W.Frag) (mg : Str → Option Value) : Prop := My.Tx fas fns K mg
section
variable {K : PySem.W.Frag} {mg : Str → Option Value}
theorem fr_len (T : TX K mg) : mg "len" = none := T.fre "len" (T.says.fact 0 rfl)
theorem fr_abs (T : TX K mg) : mg "abs" = none := T.fre "abs" (T.says.fact 1 rfl)
theorem fr_range (T : TX K mg) : mg "range" = none := T.fre "range" (T.says.fact 2 rfl)
theorem fr_int (T : TX K mg) : mg "int" = none := T.fre "int" (T.says.fact 3 rfl)
theorem fr_isinstance (T : TX K mg) : mg "isinstance" = none := T.fre "isinstance" (T.says.fact 4 rfl)
theorem fr_bool (T : TX K mg) : mg "bool" = none := T.fre "bool" (T.says.fact 5 rfl)
theorem fr_str (T : TX K mg) : mg "str" = none := T.fre "str" (T.says.fact 6 rfl)
theorem fr_list (T : TX K mg) : mg "list" = none := T.fre "list" (T.says.fact 7 rfl)
theorem fr_tuple (T : TX K mg) : mg "tuple" = none := T.fre "tuple" (T.says.fact 8 rfl)
theorem gl_change_kind (T : TX K mg) : mg "change_kind" = some (.ref (He.ga K "change_kind")) := T.glo "change_kind" (T.says.fact 9 rfl)
theorem gl_is_safe (T : TX K mg) : mg "is_safe" = some (.ref (He.ga K "is_safe")) := T.glo "is_safe" (T.says.fact 10 rfl)
theorem gl_l_number (T : TX K mg) : mg "_law_number" = some (.ref (He.ga K "_law_number")) := T.glo "_law_number" (T.says.fact 11 rfl)
theorem gl_l_is_whole (T : TX K mg) : mg "_law_is_whole" = some (.ref (He.ga K "_law_is_whole")) := T.glo "_law_is_whole" (T.says.fact 12 rfl)
theorem gl_l_same (T : TX K mg) : mg "_law_same" = some (.ref (He.ga K "_law_same")) := T.glo "_law_same" (T.says.fact 13 rfl)
theorem gl_l_thing (T : TX K mg) : mg "_law_thing" = some (.ref (He.ga K "_law_thing")) := T.glo "_law_thing" (T.says.fact 14 rfl)
theorem gl_l_change_of (T : TX K mg) : mg "_law_change_of" = some (.ref (He.ga K "_law_change_of")) := T.glo "_law_change_of" (T.says.fact 15 rfl)
theorem gl_l_kinds (T : TX K mg) : mg "_law_kinds" = some (.ref (He.ga K "_law_kinds")) := T.glo "_law_kinds" (T.says.fact 16 rfl)
theorem gl_l_safe (T : TX K mg) : mg "_law_safe" = some (.ref (He.ga K "_law_safe")) := T.glo "_law_safe" (T.says.fact 17 rfl)
theorem gl_law (T : TX K mg) : mg "law" = some (.ref (He.ga K "law")) := T.glo "law" (T.says.fact 18 rfl)
theorem fd_change_kind (T : TX K mg) : ∃ fd, FunD K "change_kind" "change_kind" (defArgs s_change_kind) (defBody s_change_kind) (defScope s_change_kind) [] [] (He.ga K "change_kind") fd := T.says.def_ 0 (d := dd_change_kind) rfl
theorem fd_is_safe (T : TX K mg) : ∃ fd, FunD K "is_safe" "is_safe" (defArgs s_is_safe) (defBody s_is_safe) (defScope s_is_safe) [] [] (He.ga K "is_safe") fd := T.says.def_ 1 (d := dd_is_safe) rfl
theorem fd_l_number (T : TX K mg) : ∃ fd, FunD K "_law_number" "_law_number" (defArgs s_l_number) (defBody s_l_number) (defScope s_l_number) [] [] (He.ga K "_law_number") fd := T.says.def_ 2 (d := dd_l_number) rfl
theorem fd_l_is_whole (T : TX K mg) : ∃ fd, FunD K "_law_is_whole" "_law_is_whole" (defArgs s_l_is_whole) (defBody s_l_is_whole) (defScope s_l_is_whole) [] [] (He.ga K "_law_is_whole") fd := T.says.def_ 3 (d := dd_l_is_whole) rfl
theorem fd_l_same (T : TX K mg) : ∃ fd, FunD K "_law_same" "_law_same" (defArgs s_l_same) (defBody s_l_same) (defScope s_l_same) [] [] (He.ga K "_law_same") fd := T.says.def_ 4 (d := dd_l_same) rfl
theorem fd_l_thing (T : TX K mg) : ∃ fd, FunD K "_law_thing" "_law_thing" (defArgs s_l_thing) (defBody s_l_thing) (defScope s_l_thing) [] [] (He.ga K "_law_thing") fd := T.says.def_ 5 (d := dd_l_thing) rfl
theorem fd_l_change_of (T : TX K mg) : ∃ fd, FunD K "_law_change_of" "_law_change_of" (defArgs s_l_change_of) (defBody s_l_change_of) (defScope s_l_change_of) [] [] (He.ga K "_law_change_of") fd := T.says.def_ 6 (d := dd_l_change_of) rfl
theorem fd_l_kinds (T : TX K mg) : ∃ fd, FunD K "_law_kinds" "_law_kinds" (defArgs s_l_kinds) (defBody s_l_kinds) (defScope s_l_kinds) [] [] (He.ga K "_law_kinds") fd := T.says.def_ 7 (d := dd_l_kinds) rfl
theorem fd_l_safe (T : TX K mg) : ∃ fd, FunD K "_law_safe" "_law_safe" (defArgs s_l_safe) (defBody s_l_safe) (defScope s_l_safe) [] [] (He.ga K "_law_safe") fd := T.says.def_ 8 (d := dd_l_safe) rfl
theorem fd_law (T : TX K mg) : ∃ fd, FunD K "law" "law" (defArgs s_law) (defBody s_law) (defScope s_law) [] [] (He.ga K "law") fd := T.says.def_ 9 (d := dd_law) rfl
end
/-! ### _law_number -/
def lnIt : Nat → Int → Int
  | 0, r => r
  | n + 1, r => lnIt n r / 1000
theorem lnIt_zero {n : Nat} {r : Int} (h : lnIt n r = 0) : ∀ m, n ≤ m → lnIt m r = 0 := fun m l => by
  induction l with
  | refl => exact h
  | step _ ih =>
    show lnIt _ r / 1000 = 0
    rw [ih]
    rfl
theorem lnIt_nn {r : Int} (h : 0 ≤ r) : ∀ n, 0 ≤ lnIt n r
  | 0 => h
  | n + 1 => by
    have := lnIt_nn h n
    show 0 ≤ lnIt n r / 1000
    omega
def lnAbs (i : Int) : Int := if i < 0 then -i else i
def lnCell (ns : List Int) (a : Int) : Int := if ns.length = 0 then 0 else lnAbs (ns.getD (a % (ns.length : Int)).toNat 0)
def lnTurn (ns : List Int) (a : Int) : Int := if ns.length = 0 then a else a / (ns.length : Int)
def lnEnd (m p sz : Int) : Int :=
  let m1 := (m + 7919 * p + 13) % 2147483647
  let m2 := (m1 * (m1 + 48271)) % 2147483629
  let m3 := (m2 * (m2 + 69621) + 31 * p) % 2147483647
  (m3 / 9) % sz
@[irreducible] def lawNum (ns : List Int) (a k sz : Int) : Int :=
  if 10 ^ 18 ≤ lnCell ns a ∧ 0 < lnIt (k + 16 * lnTurn ns a).toNat (lnCell ns a / 10 ^ 18) then (lnIt (k + 16 * lnTurn ns a).toNat (lnCell ns a / 10 ^ 18) % 1000) % sz
  else lnEnd (lnCell ns a) (k + 16 * lnTurn ns a) sz
theorem lawNum_nn (ns : List Int) (a k sz : Int) (h : 0 < sz) : 0 ≤ lawNum ns a k sz := by
  unfold lawNum lnEnd
  split <;> exact Int.emod_nonneg _ (by omega)
theorem lawNum_lt (ns : List Int) (a k sz : Int) (h : 0 < sz) : lawNum ns a k sz < sz := by
  unfold lawNum lnEnd
  split <;> exact Int.emod_lt_of_pos _ h
def NumOk (a k sz : Int) : Prop := -1000000 ≤ a ∧ a ≤ 1000000 ∧ -1000000 ≤ k ∧ k ≤ 1000000 ∧ 0 < sz
def spNum (K : PySem.W.Frag) : Sp := fun vs H Q _ => ∃ (s : Addr) (ns : List Int) (a k sz : Int), vs = [.ref s, .int a, .int k, .int sz] ∧ SqL K H s (ns.map V.int) ∧ ns.length ≤ 63 ∧ NumOk a k sz ∧ RetV (.int (lawNum ns a k sz)) H Q
theorem sv_num {K : PySem.W.Frag} {H : Hp} {s : Addr} {ns : List Int} {a k sz : Int} (h : SqL K H s (ns.map V.int)) (hl : ns.length ≤ 63) (ok : NumOk a k sz) : SpV (spNum K) [.ref s, .int a, .int k, .int sz] H (.int (lawNum ns a k sz)) :=
  fun H1 e Q q E => ⟨s, ns, a, k, sz, rfl, ex_l e h, hl, ok, q⟩
section
variable {P : Program} {w : World} {K : PySem.W.Frag} {mg : Str → Option Value} {base : Heap}
theorem ev_cellAt {ns : List Int} {s : Addr} {σ : L2.St} {H : Hp} {ta tb : TE} {i : Int} (ha : Ev ta σ H (.ref s)) (hb : Ev tb σ H (.int i)) (h : SqL K H s (ns.map V.int)) (h0 : 0 ≤ i) (h1 : i < (ns.length : Int)) : Ev (tOp (rIxL K) ta tb) σ H (.int (ns.getD i.toNat 0)) := by
  have e : ((i.toNat : Nat) : Int) = i := Int.toNat_of_nonneg h0
  have l : i.toNat < ns.length := by omega
  refine ev_op ha hb (rv_ixL h ?_)
  rw [← e]
  refine atI_nat ?_
  rw [Int.toNat_natCast, List.getElem?_map, List.getElem?_eq_getElem l, List.getD_eq_getElem?_getD, List.getElem?_eq_getElem l]
  rfl
theorem sc_l_number : FnScope ["_law_script", "_law_at", "_law_k", "_law_size", "_law_cell", "_law_turn", "_law_pick", "_law_rest", "_law_step", "_law_mixed"] ["_law_script", "_law_at", "_law_k", "_law_size"] (defScope s_l_number) := ⟨rfl, rfl, rfl, by decide +kernel, rfl, by decide +kernel, by decide +kernel⟩
theorem fn_l_number (T : TX K mg) : ∃ fd, FunD K "_law_number" "_law_number" (defArgs s_l_number) (defBody s_l_number) (defScope s_l_number) [] [] (He.ga K "_law_number") fd ∧ FnOk P w K mg base CX0 (1) (He.ga K "_law_number") fd ["_law_script", "_law_at", "_law_k", "_law_size"] (spNum K) := by
  obtain ⟨fd, F⟩ := fd_l_number T
  refine ⟨fd, F, My.FunD.ok0 F sc_l_number (fun vs H Q E h => ?_) (fun cdv A outer s0 H vs Q E hr h => ?_)⟩
  · obtain ⟨s, ns, a, k, sz, rfl, hS, hl, ok, hQ⟩ := h
    rfl
  obtain ⟨s, ns, a, k, sz, rfl, hS, hl, ok, hQ⟩ := h
  have hu := hu_of hr
  refine ⟨_, (pss_cons (ps_set (i := 4) sc_l_number.nd rfl (Or.inl rfl) pe_int)
      (pss_cons (ps_set (i := 5) sc_l_number.nd rfl (Or.inl rfl) (pv 1))
      (pss_cut (ps_if (pt_cmpR op_gt (pe_callB (lenQ K) (by rfl) (fr_len T) PySem.boot_len (pa_cons (pv 0) pa_nil)) pe_int (nomark _)) (pss_cons (ps_set (i := 4) sc_l_number.nd rfl (Or.inl rfl) (pe_callB call_abs (by rfl) (fr_abs T) (by decide +kernel) (pa_cons (pe_ix (ixL K) (pv 0) (pe_op op_mod (pe_callTy call_int1 (by rfl) (fr_int T) (by decide +kernel) (pa_cons (pv 1) pa_nil)) (pe_callB (lenQ K) (by rfl) (fr_len T) PySem.boot_len (pa_cons (pv 0) pa_nil))) (fun _ _ => rfl)) pa_nil)))
      (pss_one (ps_set (i := 5) sc_l_number.nd rfl (Or.inl rfl) (pe_op op_fdiv (pv 1) (pe_callB (lenQ K) (by rfl) (fr_len T) PySem.boot_len (pa_cons (pv 0) pa_nil)))))) pss_nil)
      (pss_cons (ps_set (i := 6) sc_l_number.nd rfl (Or.inl rfl) (pe_op op_add (pv 2) (pe_op op_mul pe_int (pv 5))))
      (pss_cut (ps_if (pt_cmpR op_ge (pv 4) (pe_op op_pow pe_int pe_int) (nomark _)) (pss_cons (ps_set (i := 7) sc_l_number.nd rfl (Or.inl rfl) (pe_op op_fdivW (pv 4) (pe_op op_pow pe_int pe_int)))
      (pss_cut (ps_for PassesOwn.never rfl (pi_range1 rfl (fr_range T) (pa_cons (pv 6) pa_nil)) (pg_name (i := 8) sc_l_number.nd rfl (Or.inl rfl)) (pss_cons (ps_if (pt_cmpR op_eq (pv 7) pe_int (nomark _)) (pss_one ps_break) pss_nil)
      (pss_one (ps_set (i := 7) sc_l_number.nd rfl (Or.inl rfl) (pe_op op_fdiv (pv 7) pe_int)))))
      (pss_one (ps_if (pt_cmpR op_gt (pv 7) pe_int (nomark _)) (pss_one (ps_ret (pe_op op_mod (pe_callTy call_int1 (by rfl) (fr_int T) (by decide +kernel) (pa_cons (pe_op op_mod (pe_callTy call_int1 (by rfl) (fr_int T) (by decide +kernel) (pa_cons (pv 7) pa_nil)) pe_int) pa_nil)) (pv 3)))) pss_nil)))) pss_nil)
      (pss_cons (ps_set (i := 9) sc_l_number.nd rfl (Or.inl rfl) (pe_op op_mod (pe_callTy call_int1 (by rfl) (fr_int T) (by decide +kernel) (pa_cons (pe_op op_add (pe_op op_add (pv 4) (pe_op op_mul pe_int (pv 6))) pe_int) pa_nil)) pe_int))
      (pss_cons (ps_set (i := 9) sc_l_number.nd rfl (Or.inl rfl) (pe_op op_mod (pe_callTy call_int1 (by rfl) (fr_int T) (by decide +kernel) (pa_cons (pe_op op_mul (pv 9) (pe_op op_add (pv 9) pe_int)) pa_nil)) pe_int))
      (pss_cons (ps_set (i := 9) sc_l_number.nd rfl (Or.inl rfl) (pe_op op_mod (pe_callTy call_int1 (by rfl) (fr_int T) (by decide +kernel) (pa_cons (pe_op op_add (pe_op op_mul (pv 9) (pe_op op_add (pv 9) pe_int)) (pe_op op_mul pe_int (pv 6))) pa_nil)) pe_int))
      (pss_one (ps_ret (pe_op op_mod (pe_callTy call_int1 (by rfl) (fr_int T) (by decide +kernel) (pa_cons (pe_op op_fdiv (pv 9) pe_int) pa_nil)) (pv 3)))))))))))), ?_⟩
  unfold NumOk at ok
  have hL : ((ns.map V.int).length : Int) = (ns.length : Int) := by rw [List.length_map]
  refine q_asg ev_c fun H1 e1 => ?_
  refine q_asg (ev_var rfl) fun H2 e2 => ?_
  have E2 := e1.trans e2
  -- if len(script) > 0
  refine q_cut (M := fun σ' H' => Ex H H' ∧ σ' = [some (.ref s), some (.int a), some (.int k), some (.int sz), some (.int (lnCell ns a)), some (.int (lnTurn ns a)), none, none, none, none])
    (s_if (et_test (ev_op (ev_cb (ea_cons (ev_var rfl) ea_nil) (rc_lenL (ex_l E2 hS))) ev_c rv_I0)) (fun hb H3 e3 => ?_) (fun hb H3 e3 => ?_)) (fun σ4 H4 hM => ?_)
  · have hp : (0 : Int) < (ns.length : Int) := by
      have := of_decide_eq_true hb
      rw [hL] at this
      exact this
    have E3 := E2.trans e3
    have hS3 := ex_l E3 hS
    have em := Int.emod_nonneg a (show (ns.length : Int) ≠ 0 by omega)
    have el := Int.emod_lt_of_pos a hp
    have nz : ¬ ns.length = 0 := by omega
    refine q_asg (ev_cb (ea_cons (ev_cellAt (ns := ns) (i := a % (ns.length : Int)) (ev_var rfl) (ev_is (ev_op (ev_cb (ea_cons (ev_var rfl) ea_nil) rc_int) (ev_cb (ea_cons (ev_var rfl) ea_nil) (rc_lenL hS3)) (rv_I (by rw [hL]; exact hp))) (by rw [hL])) hS3 em el) ea_nil) rc_abs) fun H4 e4 => ?_
    have hS4 := ex_l e4 hS3
    refine s_asg (ev_op (ev_var rfl) (ev_cb (ea_cons (ev_var rfl) ea_nil) (rc_lenL hS4)) (rv_I (by rw [hL]; exact ⟨hp, by omega⟩))) fun H5 e5 => ?_
    refine ⟨(E3.trans e4).trans e5, ?_⟩
    unfold lnCell lnTurn lnAbs
    rw [if_neg nz, if_neg nz, hL]
    rfl
  · have hp : ns.length = 0 := by
      have := of_decide_eq_false hb
      rw [hL] at this
      omega
    refine ⟨E2.trans e3, ?_⟩
    unfold lnCell lnTurn
    rw [if_pos hp, if_pos hp]
    rfl
  obtain ⟨E4, rfl⟩ := hM
  have hturn : -1000000 ≤ lnTurn ns a ∧ lnTurn ns a ≤ 1000000 := by
    unfold lnTurn
    split
    · omega
    · have hp : (0 : Int) < (ns.length : Int) := by omega
      refine ⟨?_, ?_⟩
      · rw [Int.le_ediv_iff_mul_le hp]
        omega
      · have h2 : a / (ns.length : Int) < 1000000 + 1 := by
          rw [Int.ediv_lt_iff_lt_mul hp]
          omega
        omega
  have hcell : 0 ≤ lnCell ns a := by
    unfold lnCell lnAbs
    split
    · exact Int.le_refl _
    · split <;> omega
  have hnum : lawNum ns a k sz = if 10 ^ 18 ≤ lnCell ns a ∧ 0 < lnIt (k + 16 * lnTurn ns a).toNat (lnCell ns a / 10 ^ 18) then (lnIt (k + 16 * lnTurn ns a).toNat (lnCell ns a / 10 ^ 18) % 1000) % sz
      else lnEnd (lnCell ns a) (k + 16 * lnTurn ns a) sz := by unfold lawNum; rfl
  rw [hnum] at hQ
  clear hnum
  generalize lnCell ns a = c at *
  generalize lnTurn ns a = tn at *
  refine q_asg (ev_op (ev_var rfl) (ev_op ev_c (ev_var rfl) (rv_I (Or.inl (by decide)))) rv_I0) fun H5 e5 => ?_
  have E5 := E4.trans e5
  have d18 : CPow 10 18 := by unfold CPow; decide
  have n18 : ((10 : Int) ^ (18 : Int).toNat) = 10 ^ 18 := rfl
  generalize hp : k + 16 * tn = p at *
  refine q_cut (M := fun σ' H' => Ex H H' ∧ (∃ o1 o2, σ' = [some (.ref s), some (.int a), some (.int k), some (.int sz), some (.int c), some (.int tn), some (.int p), o1, o2, none]) ∧ ¬ (10 ^ 18 ≤ c ∧ 0 < lnIt p.toNat (c / 10 ^ 18)))
    (s_if (et_test (ev_op (ev_var rfl) (ev_op ev_c ev_c (rv_I d18)) rv_I0)) (fun hb H6 e6 => ?_) (fun hb H6 e6 => ?_)) (fun σ7 H7 hM => ?_)
  · have hb' : (10 : Int) ^ 18 ≤ c := of_decide_eq_true hb
    have dw : CDivW c (10 ^ 18) := wide_div (b := 60) (by decide) (by decide) (by decide) (by decide)
    refine q_asg (ev_op (ev_var rfl) (ev_op ev_c ev_c (rv_I d18)) (rv_I dw)) fun H7 e7 => ?_
    have E7 := (E5.trans e6).trans e7
    refine q_forR1' (n := p) (ea_cons (ev_var rfl) ea_nil) (by omega) (fun i σ' H' => Ex H H' ∧ ∃ o, σ' = [some (.ref s), some (.int a), some (.int k), some (.int sz), some (.int c), some (.int tn), some (.int p), some (.int (lnIt i (c / 10 ^ 18))), o, none])
      (fun σ' H' => Ex H H' ∧ ∃ o, σ' = [some (.ref s), some (.int a), some (.int k), some (.int sz), some (.int c), some (.int tn), some (.int p), some (.int (lnIt p.toNat (c / 10 ^ 18))), o, none]) ?_ ?_ ?_ ?_
    · exact fun H8 e8 => ⟨E7.trans e8, _, rfl⟩
    · rintro i σ' H' hi ⟨E8, o, rfl⟩
      refine q_when (et_test (ev_op (ev_var rfl) ev_c (rv_eq rfl))) (fun hb H9 e9 => ?_) (fun hb H9 e9 => ?_)
      · refine ⟨E8.trans e9, some (.int (i : Int)), ?_⟩
        have hz : lnIt i (c / 10 ^ 18) = 0 := by
          have := of_decide_eq_true hb
          injection this
        rw [hz, lnIt_zero hz p.toNat (by omega)]
        rfl
      · exact s_asg (ev_op (ev_var rfl) ev_c (rv_I (by unfold CDiv; decide))) fun H10 e10 => ⟨(E8.trans e9).trans e10, _, rfl⟩
    · rintro σ' H' ⟨E8, o, rfl⟩
      exact ⟨E8, _, rfl⟩
    · rintro σ' H' ⟨E8, o, rfl⟩
      refine s_when (et_test (ev_op (ev_var rfl) ev_c rv_I0)) (fun hb H9 e9 => ?_) (fun hb H9 e9 => ?_)
      · have hr0 : (0 : Int) < lnIt p.toNat (c / 10 ^ 18) := of_decide_eq_true hb
        rw [if_pos ⟨hb', hr0⟩] at hQ
        refine s_ret (ev_op (ev_cb (ea_cons (ev_op (ev_cb (ea_cons (ev_var rfl) ea_nil) rc_int) ev_c (rv_I (by decide))) ea_nil) rc_int) (ev_var rfl) (rv_I ok.2.2.2.2)) fun H10 e10 => ?_
        exact hQ H10 ((E8.trans e9).trans e10)
      · have hr0 : ¬ (0 : Int) < lnIt p.toNat (c / 10 ^ 18) := of_decide_eq_false hb
        exact ⟨E8.trans e9, ⟨_, _, rfl⟩, fun z => hr0 z.2⟩
  · have hb' : ¬ (10 : Int) ^ 18 ≤ c := of_decide_eq_false hb
    exact ⟨E5.trans e6, ⟨_, _, rfl⟩, fun z => hb' z.1⟩
  obtain ⟨E7, ⟨o1, o2, rfl⟩, hn⟩ := hM
  rw [if_neg hn] at hQ
  unfold lnEnd at hQ
  dsimp only at hQ
  have a1 := Int.emod_nonneg (c + 7919 * p + 13) (show (2147483647 : Int) ≠ 0 by decide)
  have b1 := Int.emod_lt_of_pos (c + 7919 * p + 13) (show (0 : Int) < 2147483647 by decide)
  refine q_asg (ev_op (ev_cb (ea_cons (ev_op (ev_op (ev_var rfl) (ev_op ev_c (ev_var rfl) (rv_I (Or.inl (by decide)))) rv_I0) ev_c rv_I0) ea_nil) rc_int) ev_c (rv_I (by decide))) fun H8 e8 => ?_
  generalize (c + 7919 * p + 13) % 2147483647 = m1 at *
  have a2 := Int.emod_nonneg (m1 * (m1 + 48271)) (show (2147483629 : Int) ≠ 0 by decide)
  have b2 := Int.emod_lt_of_pos (m1 * (m1 + 48271)) (show (0 : Int) < 2147483629 by decide)
  refine q_asg (ev_op (ev_cb (ea_cons (ev_op (ev_var rfl) (ev_op (ev_var rfl) ev_c rv_I0) (rv_I (Or.inl (by constructor <;> omega)))) ea_nil) rc_int) ev_c (rv_I (by decide))) fun H9 e9 => ?_
  generalize (m1 * (m1 + 48271)) % 2147483629 = m2 at *
  refine q_asg (ev_op (ev_cb (ea_cons (ev_op (ev_op (ev_var rfl) (ev_op (ev_var rfl) ev_c rv_I0) (rv_I (Or.inl (by constructor <;> omega)))) (ev_op ev_c (ev_var rfl) (rv_I (Or.inl (by decide)))) rv_I0) ea_nil) rc_int) ev_c (rv_I (by decide))) fun H10 e10 => ?_
  refine s_ret (ev_op (ev_cb (ea_cons (ev_op (ev_var rfl) ev_c (rv_I (by unfold CDiv; decide))) ea_nil) rc_int) (ev_var rfl) (rv_I ok.2.2.2.2)) fun H11 e11 => ?_
  exact hQ H11 (((E7.trans e8).trans e9).trans (e10.trans e11))
theorem ok_l_number (T : TX K mg) : DefOk P w K mg base (1) "_law_number" ["_law_script", "_law_at", "_law_k", "_law_size"] [] (spNum K) := by
  obtain ⟨fd, F, h⟩ := fn_l_number (P := P) (w := w) (base := base) T
  exact DefOk.of F (gl_l_number T) (F.bindsN fun _ _ _ _ _ _ us hl => match us, hl with | [_, _, _, _], _ => rfl) h
/-! ### _law_is_whole, _law_same -/
def isInt (d : PyData) : Bool := isB "int" (tyN d) && !isB "bool" (tyN d)
def spWhole (K : PySem.W.Frag) : Sp := fun vs H Q _ => ∃ (v : V) (d : PyData), vs = [v] ∧ Dp K H v d ∧ RetV (.bl (isInt d)) H Q
theorem sv_whole {K : PySem.W.Frag} {H : Hp} {v : V} {d : PyData} (h : Dp K H v d) : SpV (spWhole K) [v] H (.bl (isInt d)) := fun H1 e Q q E => ⟨v, d, rfl, dp_ex e h, q⟩
theorem sc_l_is_whole : FnScope ["_law_told"] ["_law_told"] (defScope s_l_is_whole) := ⟨rfl, rfl, rfl, by decide +kernel, rfl, by decide +kernel, by decide +kernel⟩
theorem fn_l_is_whole (T : TX K mg) : ∃ fd, FunD K "_law_is_whole" "_law_is_whole" (defArgs s_l_is_whole) (defBody s_l_is_whole) (defScope s_l_is_whole) [] [] (He.ga K "_law_is_whole") fd ∧ FnOk P w K mg base CX0 (1) (He.ga K "_law_is_whole") fd ["_law_told"] (spWhole K) := by
  obtain ⟨fd, F⟩ := fd_l_is_whole T
  refine ⟨fd, F, My.FunD.ok0 F sc_l_is_whole (fun vs H Q E h => ?_) (fun cdv A outer s0 H vs Q E hr h => ?_)⟩
  · obtain ⟨v, d, rfl, hd, hQ⟩ := h
    rfl
  obtain ⟨v, d, rfl, hd, hQ⟩ := h
  have hu := hu_of hr
  refine ⟨_, (pss_one (ps_ret (pe_and (pe_callB (isiK K) (by rfl) (fr_isinstance T) (by decide +kernel) (pa_cons (pv 0) (pa_cons (pe_bltn (v := .ty "int") (by rfl) (fr_int T) (by decide +kernel) rfl) pa_nil))) (pe_one (pe_not (pe_callB (isiK K) (by rfl) (fr_isinstance T) (by decide +kernel) (pa_cons (pv 0) (pa_cons (pe_bltn (v := .ty "bool") (by rfl) (fr_bool T) (by decide +kernel) rfl) pa_nil)))))))), ?_⟩
  exact s_ret (ev_andV (ev_isiD (ev_var rfl) hd rfl) fun _ => ev_notV (ev_isiD (ev_var rfl) hd rfl)) hQ
theorem ok_l_is_whole (T : TX K mg) : DefOk P w K mg base (1) "_law_is_whole" ["_law_told"] [] (spWhole K) := by
  obtain ⟨fd, F, h⟩ := fn_l_is_whole (P := P) (w := w) (base := base) T
  exact DefOk.of F (gl_l_is_whole T) (F.bindsN fun _ _ _ _ _ _ us hl => match us, hl with | [_], _ => rfl) h
/-- _law_same: equal through and through, told of data nested at most n deep -/
def spSame (K : PySem.W.Frag) (n : Nat) : Sp := fun vs H Q _ => ∃ (v u : V) (d e : PyData), vs = [v, u] ∧ Dp K H v d ∧ Dp K H u e ∧ Dn n d ∧ Dn n e ∧ ∀ b : Bool, (b = true ↔ d = e) → RetV (.bl b) H Q
def spIn (K : PySem.W.Frag) : Nat → Sp
  | 0 => fun _ _ _ _ => False
  | n + 1 => spSame K n
theorem sc_l_same : FnScope ["_law_told", "_law_due", "_law_k"] ["_law_told", "_law_due"] (defScope s_l_same) := ⟨rfl, rfl, rfl, by decide +kernel, rfl, by decide +kernel, by decide +kernel⟩
theorem body_same {n : Nat} (T : TX K mg) {base : Heap} {f : Addr} {cdv : Value} {A : Around} {outer : List Env} {s0 : Shared} {H : Hp} {E : XK} {Q : VK} {v u : V} {d e : PyData}
    (hr : Room (n + 1) (A.deeper (envOfC "_law_same" (defScope s_l_same) s0.heap.objs.size f cdv))) (hd : Dp K H v d) (he : Dp K H u e) (hn : Dn n d) (hm : Dn n e) (hQ : ∀ b : Bool, (b = true ↔ d = e) → RetV (.bl b) H Q)
    (rec : DefOk P w K mg base (n + 1) "_law_same" ["_law_told", "_law_due"] [] (spIn K n)) :
    ∃ t, PSs (cxOf CX0 P w K mg base ["_law_told", "_law_due", "_law_k"] "_law_same" (defScope s_l_same) f cdv A outer s0 H E).nox (defBody s_l_same) t ∧ t { nx := fun _ H' => Q .non H', rt := Q } (start ["_law_told", "_law_due", "_law_k"] [v, u]) H := by
  refine ⟨_, (pss_cons (ps_if (pt_val (pe_callB (isiTK K) (by rfl) (fr_isinstance T) (by decide +kernel) (pa_cons (pv 1) (pa_cons (pe_tup (pa_cons (pe_bltn (v := .ty "list") (by rfl) (fr_list T) (by decide +kernel) rfl) (pa_cons (pe_bltn (v := .ty "tuple") (by rfl) (fr_tuple T) (by decide +kernel) rfl) pa_nil))) pa_nil)))) (pss_cons (ps_if (PW.pt (pw_or (pt_not (pt_val (pe_callB (isiTK K) (by rfl) (fr_isinstance T) (by decide +kernel) (pa_cons (pv 0) (pa_cons (pe_tup (pa_cons (pe_bltn (v := .ty "list") (by rfl) (fr_list T) (by decide +kernel) rfl) (pa_cons (pe_bltn (v := .ty "tuple") (by rfl) (fr_tuple T) (by decide +kernel) rfl) pa_nil))) pa_nil))))) (pw_or1 (pt_cmpR op_ne (pe_callB (isiK K) (by rfl) (fr_isinstance T) (by decide +kernel) (pa_cons (pv 0) (pa_cons (pe_bltn (v := .ty "list") (by rfl) (fr_list T) (by decide +kernel) rfl) pa_nil))) (pe_callB (isiK K) (by rfl) (fr_isinstance T) (by decide +kernel) (pa_cons (pv 1) (pa_cons (pe_bltn (v := .ty "list") (by rfl) (fr_list T) (by decide +kernel) rfl) pa_nil))) (nomark _))))) (pss_one (ps_ret pe_bl)) pss_nil)
      (pss_cons (ps_if (pt_cmpR op_ne (pe_callB (lenQ K) (by rfl) (fr_len T) PySem.boot_len (pa_cons (pv 0) pa_nil)) (pe_callB (lenQ K) (by rfl) (fr_len T) PySem.boot_len (pa_cons (pv 1) pa_nil)) (nomark _)) (pss_one (ps_ret pe_bl)) pss_nil)
      (pss_one (ps_ret (pe_cmpR op_eq (pe_callB (lenQ K) (by rfl) (fr_len T) PySem.boot_len (pa_cons (pe_lc (own := [("_law_k", 2)]) rfl sc_l_same.nd (pi_range1 rfl (fr_range T) (pa_cons (pe_callB (lenQ K) (by rfl) (fr_len T) PySem.boot_len (pa_cons (pv 1) pa_nil)) pa_nil)) (blkOk_by (own := [("_law_k", 2)]) (N := ["_law_told", "_law_due", "_law_k"]) (sc := defScope s_l_same) (by decide +kernel)) (fun _ _ _ _ _ => (pg_name (i := 2) sc_l_same.nd rfl (Or.inl rfl))) (fun _ _ _ _ _ => (pts_one (pt_not (pt_val (pe_callN rec hr (pa_cons (pe_ix (ixQ K) (pv 0) (pv 2) (fun _ _ => rfl)) (pa_cons (pe_ix (ixQ K) (pv 1) (pv 2) (fun _ _ => rfl)) pa_nil)) (hk := Nat.le_refl _)))))) (fun _ _ _ _ _ => (pv 2))) pa_nil)) pe_int (nomark _)))))) pss_nil)
      (pss_cons (ps_if (pt_val (pe_callB (isiK K) (by rfl) (fr_isinstance T) (by decide +kernel) (pa_cons (pv 1) (pa_cons (pe_bltn (v := .ty "bool") (by rfl) (fr_bool T) (by decide +kernel) rfl) pa_nil)))) (pss_one (ps_ret (pe_and (pe_callB (isiK K) (by rfl) (fr_isinstance T) (by decide +kernel) (pa_cons (pv 0) (pa_cons (pe_bltn (v := .ty "bool") (by rfl) (fr_bool T) (by decide +kernel) rfl) pa_nil))) (pe_one (pe_cmpR op_eq (pv 0) (pv 1) (nomark _)))))) pss_nil)
      (pss_cons (ps_if (pt_val (pe_callB (isiK K) (by rfl) (fr_isinstance T) (by decide +kernel) (pa_cons (pv 1) (pa_cons (pe_bltn (v := .ty "int") (by rfl) (fr_int T) (by decide +kernel) rfl) pa_nil)))) (pss_one (ps_ret (pe_and (pe_callN (ok_l_is_whole (P := P) (w := w) (base := base) T) hr (pa_cons (pv 0) pa_nil) (hk := by omega)) (pe_one (pe_cmpR op_eq (pv 0) (pv 1) (nomark _)))))) pss_nil)
      (pss_cons (ps_if (pt_val (pe_callB (isiK K) (by rfl) (fr_isinstance T) (by decide +kernel) (pa_cons (pv 1) (pa_cons (pe_bltn (v := .ty "str") (by rfl) (fr_str T) (by decide +kernel) rfl) pa_nil)))) (pss_one (ps_ret (pe_and (pe_callB (isiK K) (by rfl) (fr_isinstance T) (by decide +kernel) (pa_cons (pv 0) (pa_cons (pe_bltn (v := .ty "str") (by rfl) (fr_str T) (by decide +kernel) rfl) pa_nil))) (pe_one (pe_cmpR op_eq (pv 0) (pv 1) (nomark _)))))) pss_nil)
      (pss_one (ps_ret (pe_and (pe_cmp (pc_isN (pv 0))) (pe_one (pe_cmp (pc_isN (pv 1))))))))))), ?_⟩
  have skip2 : ∀ {tz : TS} {D : Ends} {H1 : Hp} {tu : TS}, isB "list" (tyN e) = false → isB "tuple" (tyN e) = false → Ex H H1 → (∀ H2, Ex H H2 → tz D [some v, some u, none] H2) →
      tSeq (tIfS (tB (tCB (rIsiT K) (tCons (tVar 1) (tCons (tTup (tCons (tC (.ty "list")) (tCons (tC (.ty "tuple")) tNil))) tNil)))) tu tNext) tz D [some v, some u, none] H1 := fun {tz D H1 tu} h1 h2 e1 k =>
    q_when (b := false) (et_B (ev_is (ev_isiD2 (ev_var rfl) (dp_ex e1 he) (by rfl) (by rfl)) (by rw [h1, h2]; rfl))) (fun h => nomatch h) fun _ H2 e2 => k H2 (e1.trans e2)
  have skip1 : ∀ {tz : TS} {D : Ends} {H1 : Hp} {tu : TS} {c : String}, isB c (tyN e) = false → askd c = true → Ex H H1 → (∀ H2, Ex H H2 → tz D [some v, some u, none] H2) →
      tSeq (tIfS (tB (tCB (rIsi K) (tCons (tVar 1) (tCons (tC (.ty c)) tNil)))) tu tNext) tz D [some v, some u, none] H1 := fun {tz D H1 tu c} h1 h2 e1 k =>
    q_when (b := false) (et_B (ev_is (ev_isiD (ev_var rfl) (dp_ex e1 he) h2) (by rw [h1]))) (fun h => nomatch h) fun _ H2 e2 => k H2 (e1.trans e2)
  have take1 : ∀ {tz : TS} {D : Ends} {H1 : Hp} {tu : TS} {c : String}, isB c (tyN e) = true → askd c = true → Ex H H1 → (∀ H2, Ex H H2 → tu { D with nx := tz D } [some v, some u, none] H2) →
      tSeq (tIfS (tB (tCB (rIsi K) (tCons (tVar 1) (tCons (tC (.ty c)) tNil)))) tu tNext) tz D [some v, some u, none] H1 := fun {tz D H1 tu c} h1 h2 e1 k =>
    q_when (b := true) (et_B (ev_is (ev_isiD (ev_var rfl) (dp_ex e1 he) h2) (by rw [h1]))) (fun _ H2 e2 => k H2 (e1.trans e2)) (fun h => nomatch h)
  by_cases hsq : ∃ (b : Bool) (es : List PyData), e = seqD b es
  · obtain ⟨b, es, rfl⟩ := hsq
    obtain ⟨a, us, rfl, hs, hu'⟩ := dp_seq he
    obtain ⟨m, rfl, hlen, hmm⟩ := dn_seq hm
    refine q_when (b := true) (et_B (ev_is (ev_isiD2 (ev_var rfl) he (by rfl) (by rfl)) (by cases b <;> simp [seqD, tyN, isB_tab]))) (fun _ H1 e1 => ?_) (fun h => nomatch h)
    refine q_when (et_or (et_not (et_B (ev_isiD2 (ev_var rfl) (dp_ex e1 hd) (by rfl) (by rfl)))) fun _ => et_test (ev_op (ev_isiD (ev_var rfl) (dp_ex e1 hd) (by rfl)) (ev_isiD (ev_var rfl) (dp_ex e1 he) (by rfl)) (rv_ne rfl))) (fun hb H2 e2 => ?_) (fun hb H2 e2 => ?_)
    · refine s_ret ev_c fun H3 e3 => hQ false ?_ H3 (e1.trans (e2.trans e3))
      refine ⟨(fun z => nomatch z), fun z => ?_⟩
      subst z
      cases b <;> simp [seqD, tyN, isB_tab] at hb
    have hd1 : ∃ ds, d = seqD b ds := by
      cases b <;> cases hd <;> simp [seqD, tyN, isB_tab] at hb ⊢
    obtain ⟨ds, rfl⟩ := hd1
    obtain ⟨a2, vs, rfl, hs2, hv'⟩ := dp_seq hd
    obtain ⟨m', hm', hlen2, hmm2⟩ := dn_seq hn
    obtain rfl : m = m' := by omega
    have E2 := e1.trans e2
    have lu := dpa_len hu'
    have lv := dpa_len hv'
    refine q_when (et_test (ev_op (ev_cb (ea_cons (ev_var rfl) ea_nil) (rc_lenB (hs2.ex E2))) (ev_cb (ea_cons (ev_var rfl) ea_nil) (rc_lenB (hs.ex E2))) (rv_ne rfl))) (fun hz H3 e3 => ?_) (fun hz H3 e3 => ?_)
    · refine s_ret ev_c fun H4 e4 => hQ false ?_ H4 (E2.trans (e3.trans e4))
      refine ⟨(fun z => nomatch z), fun z => ?_⟩
      rw [seqD_inj] at z
      subst z
      rw [lu, lv] at hz
      simp at hz
    have ll : ds.length = es.length := by
      rw [lu, lv] at hz
      simp at hz
      omega
    classical
    have E3 := E2.trans e3
    have hs3 := hs.ex E3
    have hs23 := hs2.ex E3
    refine s_ret (ev_op (ev_lenN' (el_lcR1 (n := (us.length : Int)) (fun i => !decide (ds[i]? = es[i]?)) (fun i => .int (i : Int)) (ea_cons (ev_cb (ea_cons (ev_var rfl) ea_nil) (rc_lenB hs3)) ea_nil) (by omega) (fun _ => rfl) (fun i H4 e4 hi => ?_) (fun i H4 e4 hi _ => ev_var rfl))) ev_c (rv_eq rfl)) fun H5 e5 => hQ _ ?_ H5 (E3.trans e5)
    · have hi1 : i < es.length := by omega
      have hi2 : i < ds.length := by omega
      obtain ⟨x1, hx1, hx2⟩ := dpa_at hu' hi1
      obtain ⟨y1, hy1, hy2⟩ := dpa_at hv' hi2
      refine et_not (et_B (ev_call (ea_cons (ev_op (ev_var rfl) (ev_var rfl) (rv_ixB (hs23.ex e4) (atI_nat hy1))) (ea_cons (ev_op (ev_var rfl) (ev_var rfl) (rv_ixB (hs3.ex e4) (atI_nat hx1))) ea_nil)) ?_))
      intro H6 e6 Q' q' E'
      have E6 := (E3.trans e4).trans e6
      refine ⟨y1, x1, ds[i], es[i], rfl, dp_ex E6 hy2, dp_ex E6 hx2, hmm2 _ (List.getElem_mem _), hmm _ (List.getElem_mem _), fun b' hb' => ?_⟩
      have eb : b' = decide (ds[i]? = es[i]?) := by
        rw [List.getElem?_eq_getElem hi1, List.getElem?_eq_getElem hi2, Bool.eq_iff_iff, hb', decide_eq_true_iff]
        simp
      rw [eb]
      exact q'
    · rw [seqD_inj, decide_eq_true_iff]
      have e1' : (V.int (((given (us.length : Int).toNat (fun i => !decide (ds[i]? = es[i]?)) (fun i => .int (i : Int))).length : Nat) : Int) = V.int 0) ↔ (given (us.length : Int).toNat (fun i => !decide (ds[i]? = es[i]?)) (fun i => .int (i : Int))).length = 0 := by
        constructor
        · intro h
          injection h with h
          omega
        · intro h
          rw [h]
          rfl
      rw [e1', given_none]
      constructor
      · intro h
        refine List.ext_getElem? fun i => ?_
        by_cases hi : i < es.length
        · have := h i (by omega)
          simpa using this
        · rw [List.getElem?_eq_none (by omega), List.getElem?_eq_none (by omega)]
      · intro h i hi
        rw [h]
        simp
  cases e with
  | none =>
    cases he with
    | non =>
    refine skip2 (by simp [tyN, isB_tab]) (by simp [tyN, isB_tab]) (Ex.refl H) fun H1 e1 => ?_
    refine skip1 (by simp [tyN, isB_tab]) (by rfl) e1 fun H2 e2 => ?_
    refine skip1 (by simp [tyN, isB_tab]) (by rfl) e2 fun H3 e3 => ?_
    refine skip1 (by simp [tyN, isB_tab]) (by rfl) e3 fun H4 e4 => ?_
    refine s_ret (ev_andV (ev_isN (ev_var rfl)) fun _ => ev_isN (ev_var rfl)) fun H5 e5 => ?_
    refine hQ _ ?_ H5 (e4.trans e5)
    cases hd <;> simp
  | bool b =>
    cases he with
    | bl =>
    refine skip2 (by simp [tyN, isB_tab]) (by simp [tyN, isB_tab]) (Ex.refl H) fun H1 e1 => ?_
    refine take1 (by simp [tyN, isB_tab]) (by rfl) e1 fun H2 e2 => ?_
    refine s_ret (ev_andV (ev_isiD (ev_var rfl) (dp_ex e2 hd) (by rfl)) fun hc => ev_op (ev_var rfl) (ev_var rfl) (rv_eq (by cases hd <;> first | rfl | (simp [tyN, isB_tab] at hc)))) fun H5 e5 => hQ _ ?_ H5 (e2.trans e5)
    cases hd <;> simp [tyN, isB_tab]
  | int b =>
    cases he with
    | int =>
    refine skip2 (by simp [tyN, isB_tab]) (by simp [tyN, isB_tab]) (Ex.refl H) fun H1 e1 => ?_
    refine skip1 (by simp [tyN, isB_tab]) (by rfl) e1 fun H2 e2 => ?_
    refine take1 (by simp [tyN, isB_tab]) (by rfl) e2 fun H3 e3 => ?_
    refine s_ret (ev_andV (ev_call (ea_cons (ev_var rfl) ea_nil) (sv_whole (dp_ex e3 hd))) fun hc => ev_op (ev_var rfl) (ev_var rfl) (rv_eq (by cases hd <;> first | rfl | (simp [isInt, tyN, isB_tab] at hc)))) fun H5 e5 => hQ _ ?_ H5 (e3.trans e5)
    cases hd <;> simp [isInt, tyN, isB_tab]
  | str b =>
    cases he with
    | str =>
    refine skip2 (by simp [tyN, isB_tab]) (by simp [tyN, isB_tab]) (Ex.refl H) fun H1 e1 => ?_
    refine skip1 (by simp [tyN, isB_tab]) (by rfl) e1 fun H2 e2 => ?_
    refine skip1 (by simp [tyN, isB_tab]) (by rfl) e2 fun H3 e3 => ?_
    refine take1 (by simp [tyN, isB_tab]) (by rfl) e3 fun H4 e4 => ?_
    refine s_ret (ev_andV (ev_isiD (ev_var rfl) (dp_ex e4 hd) (by rfl)) fun hc => ev_op (ev_var rfl) (ev_var rfl) (rv_eq (by cases hd <;> first | rfl | (simp [tyN, isB_tab] at hc)))) fun H5 e5 => hQ _ ?_ H5 (e4.trans e5)
    cases hd <;> simp [tyN, isB_tab]
  | list es => exact absurd ⟨true, es, rfl⟩ hsq
  | tuple es => exact absurd ⟨false, es, rfl⟩ hsq
  | dict es => cases he
theorem fn_l_same (T : TX K mg) {base : Heap} : ∀ n : Nat, ∃ fd, FunD K "_law_same" "_law_same" (defArgs s_l_same) (defBody s_l_same) (defScope s_l_same) [] [] (He.ga K "_law_same") fd ∧ FnOk P w K mg base CX0 (n + 2) (He.ga K "_law_same") fd ["_law_told", "_law_due"] (spSame K n) := fun n => by
  obtain ⟨fd, F⟩ := fd_l_same T
  have b : Binds K fd ["_law_told", "_law_due"] [] := F.bindsN fun _ _ _ _ _ _ us hl => match us, hl with | [_, _], _ => rfl
  refine ⟨fd, F, ?_⟩
  induction n with
  | zero =>
    refine My.FunD.ok0 F sc_l_same (fun vs H Q E h => ?_) (fun cdv A outer s0 H vs Q E hr h => ?_)
    · obtain ⟨_, _, _, _, rfl, _⟩ := h
      rfl
    obtain ⟨v, u, d, e, rfl, hd, he, hn, hm, hQ⟩ := h
    exact body_same T hr hd he hn hm hQ (DefOk.of F (gl_l_same T) b ⟨fun _ _ _ _ h => h.elim, fun _ _ _ _ _ _ _ _ _ _ _ _ _ h => h.elim⟩)
  | succ n ih =>
    refine My.FunD.ok0 F sc_l_same (fun vs H Q E h => ?_) (fun cdv A outer s0 H vs Q E hr h => ?_)
    · obtain ⟨_, _, _, _, rfl, _⟩ := h
      rfl
    obtain ⟨v, u, d, e, rfl, hd, he, hn, hm, hQ⟩ := h
    exact body_same T hr hd he hn hm hQ (DefOk.of F (gl_l_same T) b ih)
theorem ok_l_same (T : TX K mg) {base : Heap} (n : Nat) : DefOk P w K mg base (n + 2) "_law_same" ["_law_told", "_law_due"] [] (spSame K n) := by
  obtain ⟨fd, F, h⟩ := fn_l_same (P := P) (w := w) T (base := base) n
  exact DefOk.of F (gl_l_same T) (F.bindsN fun _ _ _ _ _ _ us hl => match us, hl with | [_, _], _ => rfl) h
theorem sv_same {K : PySem.W.Frag} {H : Hp} {v u : V} {d e : PyData} {n : Nat} {b : Bool} (hd : Dp K H v d) (he : Dp K H u e) (hn : Dn n d) (hm : Dn n e) (hb : b = true ↔ d = e) : SpV (spSame K n) [v, u] H (.bl b) := fun H1 x Q q E =>
  ⟨v, u, d, e, rfl, dp_ex x hd, dp_ex x he, hn, hm, fun b' h' => by
    have : b' = b := by rw [Bool.eq_iff_iff, h', hb]
    rw [this]
    exact q⟩
end

section
variable {P : Program} {w : World} {K : PySem.W.Frag} {mg : Str → Option Value} {base : Heap}
/-! ### things -/
def Flat (d : PyData) : Prop := (∃ i, d = .int i) ∨ ∃ s, d = .str s ∧ PyData.strOk s = true
def Thing (d : PyData) : Prop := Flat d ∨ ∃ ds, d = .tuple ds ∧ ds.length ≤ 3 ∧ ∀ x ∈ ds, Flat x
def Val0 (d : PyData) : Prop := d = .none ∨ Thing d
theorem flat_eqv {d e : PyData} (hd : Flat d) (he : Flat e) : PyData.eqv d e = true ↔ d = e := by
  rcases hd with ⟨i, rfl⟩ | ⟨s, rfl, _⟩ <;> rcases he with ⟨j, rfl⟩ | ⟨t, rfl, _⟩ <;> simp [PyData.eqv]
theorem flats_eqv : ∀ {ds es : List PyData}, (∀ x ∈ ds, Flat x) → (∀ x ∈ es, Flat x) → (PyData.eqvAll ds es = true ↔ ds = es)
  | [], [], _, _ => by simp [PyData.eqvAll]
  | [], _ :: _, _, _ => by simp [PyData.eqvAll]
  | _ :: _, [], _, _ => by simp [PyData.eqvAll]
  | d :: ds, e :: es, hd, he => by
    rw [PyData.eqvAll, Bool.and_eq_true, flat_eqv (hd d List.mem_cons_self) (he e List.mem_cons_self), flats_eqv (fun x h => hd x (List.mem_cons_of_mem _ h)) (fun x h => he x (List.mem_cons_of_mem _ h)), List.cons.injEq]
theorem val_eqv {d e : PyData} (hd : Val0 d) (he : Val0 e) : PyData.eqv d e = true ↔ d = e := by
  rcases hd with rfl | hd | ⟨ds, rfl, _, hd⟩
  · rcases he with rfl | (⟨i, rfl⟩ | ⟨s, rfl, _⟩) | ⟨es, rfl, _, he⟩ <;> simp [PyData.eqv]
  · rcases he with rfl | he | ⟨es, rfl, _, he⟩
    · rcases hd with ⟨i, rfl⟩ | ⟨s, rfl, _⟩ <;> simp [PyData.eqv]
    · exact flat_eqv hd he
    · rcases hd with ⟨i, rfl⟩ | ⟨s, rfl, _⟩ <;> simp [PyData.eqv]
  · rcases he with rfl | (⟨i, rfl⟩ | ⟨s, rfl, _⟩) | ⟨es, rfl, _, he⟩
    · simp [PyData.eqv]
    · simp [PyData.eqv]
    · simp [PyData.eqv]
    · rw [PyData.eqv, flats_eqv hd he, PyData.tuple.injEq]
theorem flat_lay {d : PyData} (h : Flat d) : d.canLay0 = true ∧ d.depth = 0 := by
  rcases h with ⟨i, rfl⟩ | ⟨s, rfl, hs⟩
  · exact ⟨rfl, rfl⟩
  · exact ⟨hs, rfl⟩
theorem flats_lay : ∀ {ds : List PyData}, (∀ x ∈ ds, Flat x) → PyData.canLayAll0 ds = true ∧ PyData.depthAll ds = 0
  | [], _ => ⟨rfl, rfl⟩
  | d :: ds, h => by
    have h1 := flat_lay (h d List.mem_cons_self)
    have h2 := flats_lay (ds := ds) fun x hx => h x (List.mem_cons_of_mem _ hx)
    rw [PyData.canLayAll0, PyData.depthAll, h1.1, h1.2, h2.1, h2.2]
    exact ⟨rfl, rfl⟩
theorem val_shaped {d : PyData} (h : Val0 d) : SeqAt.shaped d = true := by
  unfold SeqAt.shaped
  rcases h with rfl | h | ⟨ds, rfl, _, h⟩
  · rfl
  · rw [(flat_lay h).1, (flat_lay h).2]
    rfl
  · rw [PyData.canLay0, PyData.depth, (flats_lay h).1, (flats_lay h).2]
    rfl
theorem flat_dn {d : PyData} {n : Nat} (h : Flat d) : Dn n d := by
  rcases h with ⟨i, rfl⟩ | ⟨s, rfl, _⟩ <;> simp [Dn]
theorem val_dn {d : PyData} (h : Val0 d) : Dn 1 d := by
  rcases h with rfl | h | ⟨ds, rfl, hl, h⟩
  · simp [Dn]
  · exact flat_dn h
  · simp only [Dn]
    exact ⟨by omega, fun x hx => flat_dn (h x hx)⟩
def spThing (K : PySem.W.Frag) : Sp := fun vs H Q _ => ∃ (s : Addr) (ns : List Int) (a k : Int), vs = [.ref s, .int a, .int k] ∧ SqL K H s (ns.map V.int) ∧ ns.length ≤ 63 ∧ -1000 ≤ a ∧ a ≤ 1000 ∧ 0 ≤ k ∧ k ≤ 1000 ∧ ∀ d, Thing d → RetD K d H Q
/-- a word of the three signs -/
def Word (n : Nat) (s : Str) : Prop := s.length ≤ n ∧ PyData.strOk s = true
theorem word_add {n : Nat} {s : Str} {c : Nat} (h : Word n s) (hc : c < 1000) : Word (n + 1) (s ++ ⟨#[c]⟩) := by
  obtain ⟨h1, h2⟩ := h
  refine ⟨?_, ?_⟩
  · show (s.cps ++ #[c]).size ≤ n + 1
    have : s.cps.size ≤ n := h1
    simp
    omega
  · show (s.cps ++ #[c]).all (fun x => decide (x < 0x110000)) = true
    have : s.cps.all (fun x => decide (x < 0x110000)) = true := h2
    rw [Array.all_append, this]
    simp
    omega
theorem ab1_at {i : Int} (h0 : 0 ≤ i) (h1 : i < 3) : ∃ c, c < 1000 ∧ atI ("ab1" : Str).cps.toList i = some c := by
  have : i = 0 ∨ i = 1 ∨ i = 2 := by omega
  rcases this with rfl | rfl | rfl
  · exact ⟨97, by decide, by decide +kernel⟩
  · exact ⟨98, by decide, by decide +kernel⟩
  · exact ⟨49, by decide, by decide +kernel⟩
theorem sc_l_thing : FnScope ["_law_script", "_law_at", "_law_k", "_law_number_here", "_law_kind", "_law_word", "_law_rest", "_law_step"] ["_law_script", "_law_at", "_law_k"] (defScope s_l_thing) := ⟨rfl, rfl, rfl, by decide +kernel, rfl, by decide +kernel, by decide +kernel⟩
theorem fn_l_thing (T : TX K mg) : ∃ fd, FunD K "_law_thing" "_law_thing" (defArgs s_l_thing) (defBody s_l_thing) (defScope s_l_thing) [] [] (He.ga K "_law_thing") fd ∧ FnOk P w K mg base CX0 (2) (He.ga K "_law_thing") fd ["_law_script", "_law_at", "_law_k"] (spThing K) := by
  obtain ⟨fd, F⟩ := fd_l_thing T
  refine ⟨fd, F, My.FunD.ok0 F sc_l_thing (fun vs H Q E h => ?_) (fun cdv A outer s0 H vs Q E hr h => ?_)⟩
  · obtain ⟨s, ns, a, k, rfl, hS, hl, ha0, ha1, hk0, hk1, hQ⟩ := h
    rfl
  obtain ⟨s, ns, a, k, rfl, hS, hl, ha0, ha1, hk0, hk1, hQ⟩ := h
  have hu := hu_of hr
  refine ⟨_, (pss_cons (ps_set (i := 3) sc_l_thing.nd rfl (Or.inl rfl) (pe_callN (ok_l_number (P := P) (w := w) (base := base) T) hr (pa_cons (pv 0) (pa_cons (pv 1) (pa_cons (pv 2) (pa_cons pe_int pa_nil))))))
      (pss_cons (ps_set (i := 4) sc_l_thing.nd rfl (Or.inl rfl) (pe_callN (ok_l_number (P := P) (w := w) (base := base) T) hr (pa_cons (pv 0) (pa_cons (pv 1) (pa_cons (pe_op op_add (pv 2) pe_int) (pa_cons pe_int pa_nil))))))
      (pss_cons (ps_set (i := 5) sc_l_thing.nd rfl (Or.inl rfl) pe_str)
      (pss_cons (ps_set (i := 6) sc_l_thing.nd rfl (Or.inl rfl) (pe_op op_fdiv (pv 3) pe_int))
      (pss_cut (ps_for PassesOwn.never rfl (pi_range1 rfl (fr_range T) (pa_cons (pe_op op_mod (pe_callTy call_int1 (by rfl) (fr_int T) (by decide +kernel) (pa_cons (pv 3) pa_nil)) pe_int) pa_nil)) (pg_name (i := 7) sc_l_thing.nd rfl (Or.inl rfl)) (pss_cons (ps_set (i := 5) sc_l_thing.nd rfl (Or.inl rfl) (pe_op op_add_str (pv 5) (pe_ix ix_str pe_str (pe_op op_mod (pe_callTy call_int1 (by rfl) (fr_int T) (by decide +kernel) (pa_cons (pv 6) pa_nil)) pe_int) (fun _ _ => rfl))))
      (pss_one (ps_set (i := 6) sc_l_thing.nd rfl (Or.inl rfl) (pe_op op_fdiv (pv 6) pe_int)))))
      (pss_cons (ps_if (pt_cmpR op_lt (pv 4) pe_int (nomark _)) (pss_one (ps_ret (pe_op op_mod (pe_callTy call_int1 (by rfl) (fr_int T) (by decide +kernel) (pa_cons (pv 3) pa_nil)) pe_int))) pss_nil)
      (pss_cons (ps_if (pt_cmpR op_eq (pv 4) pe_int (nomark _)) (pss_one (ps_ret (pe_op op_add (pe_op op_mul (pv 3) (pe_op op_pow pe_int pe_int)) pe_int))) pss_nil)
      (pss_cons (ps_if (pt_cmpR op_eq (pv 4) pe_int (nomark _)) (pss_one (ps_ret (pe_op op_sub (pe_un un_neg pe_int) (pv 3)))) pss_nil)
      (pss_cons (ps_if (pt_cmpR op_lt (pv 4) pe_int (nomark _)) (pss_one (ps_ret (pv 5))) pss_nil)
      (pss_cons (ps_if (pt_cmpR op_eq (pv 4) pe_int (nomark _)) (pss_one (ps_ret (pe_tup (pa_cons (pe_op op_mod (pe_callTy call_int1 (by rfl) (fr_int T) (by decide +kernel) (pa_cons (pv 3) pa_nil)) pe_int) pa_nil)))) pss_nil)
      (pss_cons (ps_if (pt_cmpR op_eq (pv 4) pe_int (nomark _)) (pss_one (ps_ret (pe_tup (pa_cons (pv 5) (pa_cons (pe_op op_fdiv (pv 3) pe_int) pa_nil))))) pss_nil)
      (pss_one (ps_ret (pe_ix (ixL K) (pe_lst (pa_cons (pe_tup pa_nil) (pa_cons (pe_tup (pa_cons (pv 5) pa_nil)) (pa_cons (pe_tup (pa_cons (pv 5) (pa_cons (pv 5) pa_nil))) (pa_cons (pe_tup (pa_cons pe_int (pa_cons pe_str (pa_cons (pv 5) pa_nil)))) pa_nil))))) (pe_op op_mod (pe_callTy call_int1 (by rfl) (fr_int T) (by decide +kernel) (pa_cons (pe_op op_fdiv (pv 3) pe_int) pa_nil)) pe_int) (fun _ _ => rfl))))))))))))))), ?_⟩
  have nb := lawNum_nn ns a k 1000 (by decide)
  have nl := lawNum_lt ns a k 1000 (by decide)
  refine q_asg (ev_call (ea_cons (ev_var rfl) (ea_cons (ev_var rfl) (ea_cons (ev_var rfl) (ea_cons ev_c ea_nil)))) (sv_num hS hl (by unfold NumOk; omega))) fun H1 E1 => ?_
  refine q_asg (ev_call (ea_cons (ev_var rfl) (ea_cons (ev_var rfl) (ea_cons (ev_op (ev_var rfl) ev_c rv_I0) (ea_cons ev_c ea_nil)))) (sv_num (ex_l E1 hS) hl (by unfold NumOk; omega))) fun H2 e2 => ?_
  have E2 := E1.trans e2
  generalize lawNum ns a k 1000 = m at *
  generalize lawNum ns a (k + 1) 9 = kd at *
  refine q_asg ev_c fun H3 e3 => ?_
  have E3 := E2.trans e3
  refine q_asg (ev_op (ev_var rfl) ev_c (rv_I (by unfold CDiv; decide))) fun H4 e4 => ?_
  have E4 := E3.trans e4
  have m4 := Int.emod_nonneg m (show (4 : Int) ≠ 0 by decide)
  have m4' := Int.emod_lt_of_pos m (show (0 : Int) < 4 by decide)
  refine q_forR1' (n := m % 4) (ea_cons (ev_op (ev_cb (ea_cons (ev_var rfl) ea_nil) rc_int) ev_c (rv_I (by decide))) ea_nil) (by omega)
    (fun i σ' H' => Ex H H' ∧ i ≤ 3 ∧ ∃ wd r o, Word i wd ∧ 0 ≤ r ∧ σ' = [some (.ref s), some (.int a), some (.int k), some (.int m), some (.int kd), some (.str wd), some (.int r), o])
    (fun σ' H' => Ex H H' ∧ ∃ wd r o, Word 3 wd ∧ σ' = [some (.ref s), some (.int a), some (.int k), some (.int m), some (.int kd), some (.str wd), some (.int r), o]) ?_ ?_ ?_ ?_
  · exact fun H5 e5 => ⟨E4.trans e5, by omega, Str.ofString "", m / 4, none, ⟨by decide +kernel, by decide +kernel⟩, by omega, rfl⟩
  · rintro i σ' H' hi ⟨E5, hi3, wd, r, o, hw, hr0, rfl⟩
    have r3 := Int.emod_nonneg r (show (3 : Int) ≠ 0 by decide)
    have r3' := Int.emod_lt_of_pos r (show (0 : Int) < 3 by decide)
    obtain ⟨c, hc, hat⟩ := ab1_at r3 r3'
    refine q_asg (ev_op (ev_var rfl) (ev_op ev_c (ev_op (ev_cb (ea_cons (ev_var rfl) ea_nil) rc_int) ev_c (rv_I (by decide))) (rv_ixS (by decide +kernel) hat)) (rv_str ?_)) fun H6 e6 => ?_
    · have h1 : wd.length ≤ i := hw.1
      have h2 : (⟨#[c]⟩ : Str).length = 1 := rfl
      rw [h2]
      exact sz_of (by omega)
    exact s_asg (ev_op (ev_var rfl) ev_c (rv_I (by unfold CDiv; decide))) fun H7 e7 => ⟨(E5.trans e6).trans e7, by omega, _, _, _, word_add hw hc, by omega, rfl⟩
  · rintro σ' H' ⟨E5, hi3, wd, r, o, hw, hr0, rfl⟩
    exact ⟨E5, wd, r, o, ⟨by have := hw.1; omega, hw.2⟩, rfl⟩
  · rintro σ' H' ⟨E5, wd, r, o, hw, rfl⟩
    have fw : Flat (.str wd) := .inr ⟨wd, rfl, hw.2⟩
    have fi : ∀ i, Flat (.int i) := fun i => .inl ⟨i, rfl⟩
    have eN : ∀ {H1 : Hp}, Ev (tVar 3) [some (.ref s), some (.int a), some (.int k), some (.int m), some (.int kd), some (.str wd), some (.int r), o] H1 (.int m) := fun {H1} => ev_var rfl
    refine q_when (et_test (ev_op (ev_var rfl) ev_c rv_I0)) (fun hb H6 e6 => ?_) (fun hb H6 e6 => ?_)
    · exact sd_ret (evd_i (ev_op (ev_cb (ea_cons eN ea_nil) rc_int) ev_c (rv_I (by decide)))) ((hQ _ (.inl (fi _))).go (E5.trans e6))
    refine q_when (et_test (ev_op (ev_var rfl) ev_c (rv_eq rfl))) (fun hb H7 e7 => ?_) (fun hb H7 e7 => ?_)
    · exact sd_ret (evd_i (ev_op (ev_op eN (ev_op ev_c ev_c (rv_I (by unfold CPow; decide))) (rv_I (Or.inl (by constructor <;> omega)))) ev_c rv_I0)) ((hQ _ (.inl (fi _))).go ((E5.trans e6).trans e7))
    refine q_when (et_test (ev_op (ev_var rfl) ev_c (rv_eq rfl))) (fun hb H8 e8 => ?_) (fun hb H8 e8 => ?_)
    · exact sd_ret (evd_i (ev_op (ev_un ev_c ru_neg) eN rv_I0)) ((hQ _ (.inl (fi _))).go (((E5.trans e6).trans e7).trans e8))
    have E8 := ((E5.trans e6).trans e7).trans e8
    refine q_when (et_test (ev_op (ev_var rfl) ev_c rv_I0)) (fun hb H9 e9 => ?_) (fun hb H9 e9 => ?_)
    · exact sd_ret (evd_s (ev_var rfl)) ((hQ _ (.inl fw)).go (E8.trans e9))
    refine q_when (et_test (ev_op (ev_var rfl) ev_c (rv_eq rfl))) (fun hb H10 e10 => ?_) (fun hb H10 e10 => ?_)
    · refine sd_ret (evd_tup (evds_cons (evd_i (ev_op (ev_cb (ea_cons eN ea_nil) rc_int) ev_c (rv_I (by decide)))) evds_nil) (by simp)) ((hQ _ (.inr ⟨_, rfl, by simp, ?_⟩)).go ((E8.trans e9).trans e10))
      intro x hx
      rw [List.mem_singleton.mp hx]
      exact fi _
    refine q_when (et_test (ev_op (ev_var rfl) ev_c (rv_eq rfl))) (fun hb H11 e11 => ?_) (fun hb H11 e11 => ?_)
    · refine sd_ret (evd_tup (evds_cons (evd_s (ev_var rfl)) (evds_cons (evd_i (ev_op eN ev_c (rv_I (by unfold CDiv; decide)))) evds_nil)) (by simp)) ((hQ _ (.inr ⟨_, rfl, by simp, ?_⟩)).go (((E8.trans e9).trans e10).trans e11))
      intro x hx
      simp only [List.mem_cons, List.not_mem_nil, or_false] at hx
      rcases hx with rfl | rfl
      · exact fw
      · exact fi _
    have E11 := ((E8.trans e9).trans e10).trans e11
    have q4 := Int.emod_nonneg (m / 108) (show (4 : Int) ≠ 0 by decide)
    have q4' := Int.emod_lt_of_pos (m / 108) (show (0 : Int) < 4 by decide)
    have ix : Ev (tOp (rI (fun _ j => 0 < j) fun i j => .int (i % j)) (tCB _ (tCons (tOp (rI CDiv fun i j => .int (i / j)) (tVar 3) (tC (.int 108))) tNil)) (tC (.int 4))) [some (.ref s), some (.int a), some (.int k), some (.int m), some (.int kd), some (.str wd), some (.int r), o] H11 (.int (m / 108 % 4)) :=
      ev_op (ev_cb (ea_cons (ev_op eN ev_c (rv_I (by unfold CDiv; decide))) ea_nil) rc_int) ev_c (rv_I (by decide))
    have eW : ∀ {H1 : Hp}, EvD K (tVar 5) [some (.ref s), some (.int a), some (.int k), some (.int m), some (.int kd), some (.str wd), some (.int r), o] H1 (.str wd) := fun {H1} => evd_s (ev_var rfl)
    have lst : EvD K _ [some (.ref s), some (.int a), some (.int k), some (.int m), some (.int kd), some (.str wd), some (.int r), o] H11 (.list [.tuple [], .tuple [.str wd], .tuple [.str wd, .str wd], .tuple [.int 1, .str "1", .str wd]]) :=
      evd_lst (evds_cons (evd_tup evds_nil (by simp)) (evds_cons (evd_tup (evds_cons eW evds_nil) (by simp)) (evds_cons (evd_tup (evds_cons eW (evds_cons eW evds_nil)) (by simp)) (evds_cons (evd_tup (evds_cons evd_int (evds_cons evd_str (evds_cons eW evds_nil))) (by simp)) evds_nil)))) (by simp)
    have cs : m / 108 % 4 = 0 ∨ m / 108 % 4 = 1 ∨ m / 108 % 4 = 2 ∨ m / 108 % 4 = 3 := by omega
    have f1 : Flat (.str "1") := .inr ⟨_, rfl, by decide +kernel⟩
    rcases cs with h | h | h | h
    · rw [h] at ix
      exact sd_ret (evd_ixL lst ix rfl) ((hQ _ (.inr ⟨[], rfl, by simp, by simp⟩)).go E11)
    · rw [h] at ix
      exact sd_ret (evd_ixL lst ix rfl) ((hQ _ (.inr ⟨[.str wd], rfl, by simp, by simpa using fw⟩)).go E11)
    · rw [h] at ix
      exact sd_ret (evd_ixL lst ix rfl) ((hQ _ (.inr ⟨[.str wd, .str wd], rfl, by simp, by simpa using fw⟩)).go E11)
    · rw [h] at ix
      exact sd_ret (evd_ixL lst ix rfl) ((hQ _ (.inr ⟨[.int 1, .str "1", .str wd], rfl, by simp, by simpa using ⟨fi 1, f1, fw⟩⟩)).go E11)
theorem ok_l_thing (T : TX K mg) : DefOk P w K mg base (2) "_law_thing" ["_law_script", "_law_at", "_law_k"] [] (spThing K) := by
  obtain ⟨fd, F, h⟩ := fn_l_thing (P := P) (w := w) (base := base) T
  exact DefOk.of F (gl_l_thing T) (F.bindsN fun _ _ _ _ _ _ us hl => match us, hl with | [_, _, _], _ => rfl) h
end

section
variable {P : Program} {w : World} {K : PySem.W.Frag} {mg : Str → Option Value} {base : Heap}
/-! ### the kind of a change -/
open Classical in
noncomputable def ckind (d e : PyData) : Str := if d = e then "same" else if d = .none then "gain" else if e = .none then "loss" else "move"
def spKind (K : PySem.W.Frag) : Sp := fun vs H Q _ => ∃ (v u : V) (d e : PyData), vs = [v, u] ∧ Dp K H v d ∧ Dp K H u e ∧ Val0 d ∧ Val0 e ∧ RetV (.str (ckind d e)) H Q
theorem sv_kind {H : Hp} {v u : V} {d e : PyData} (hd : Dp K H v d) (he : Dp K H u e) (vd : Val0 d) (ve : Val0 e) : SpV (spKind K) [v, u] H (.str (ckind d e)) := fun H1 x Q q E => ⟨v, u, d, e, rfl, dp_ex x hd, dp_ex x he, vd, ve, q⟩
theorem sc_change_kind : FnScope ["old", "new"] ["old", "new"] (defScope s_change_kind) := ⟨rfl, rfl, rfl, by decide +kernel, rfl, by decide +kernel, by decide +kernel⟩
theorem fn_change_kind (T : TX K mg) : ∃ fd, FunD K "change_kind" "change_kind" (defArgs s_change_kind) (defBody s_change_kind) (defScope s_change_kind) [] [] (He.ga K "change_kind") fd ∧ FnOk P w K mg base CX0 (1) (He.ga K "change_kind") fd ["old", "new"] (spKind K) := by
  obtain ⟨fd, F⟩ := fd_change_kind T
  refine ⟨fd, F, My.FunD.ok0 F sc_change_kind (fun vs H Q E h => ?_) (fun cdv A outer s0 H vs Q E hr h => ?_)⟩
  · obtain ⟨v, u, d, e, rfl, hd, he, vd, ve, hQ⟩ := h
    rfl
  obtain ⟨v, u, d, e, rfl, hd, he, vd, ve, hQ⟩ := h
  have hu := hu_of hr
  refine ⟨_, (pss_cons (ps_if (pt_cmpR (eqD K hr.units) (pv 0) (pv 1) (nomark _)) (pss_one (ps_ret pe_str)) pss_nil)
      (pss_cons (ps_if (pt_cmp (pc_isN (pv 0))) (pss_one (ps_ret pe_str)) pss_nil)
      (pss_cons (ps_if (pt_cmp (pc_isN (pv 1))) (pss_one (ps_ret pe_str)) pss_nil)
      (pss_one (ps_ret pe_str))))), ?_⟩
  have iN : ∀ {d : PyData}, (isNone d = true) ↔ d = .none := isNone_iff
  refine q_when (et_test (ev_eqD (evd_var rfl hd) (evd_var rfl he) (val_shaped vd) (val_shaped ve))) (fun hb H1 e1 => ?_) (fun hb H1 e1 => ?_)
  · have h := (val_eqv vd ve).mp hb
    refine s_ret ev_c fun H2 e2 => ?_
    have q := hQ H2 (e1.trans e2)
    unfold ckind at q
    rw [if_pos h] at q
    exact q
  have h : ¬ d = e := fun z => by rw [(val_eqv vd ve).mpr z] at hb; cases hb
  unfold ckind at hQ
  rw [if_neg h] at hQ
  refine q_when (et_B (ev_isND (evd_var rfl (dp_ex e1 hd)))) (fun hb H2 e2 => ?_) (fun hb H2 e2 => ?_)
  · rw [if_pos (iN.mp hb)] at hQ
    exact s_ret ev_c fun H3 e3 => hQ H3 ((e1.trans e2).trans e3)
  rw [if_neg (fun z => by rw [iN.mpr z] at hb; cases hb)] at hQ
  refine q_when (et_B (ev_isND (evd_var rfl (dp_ex (e1.trans e2) he)))) (fun hb H3 e3 => ?_) (fun hb H3 e3 => ?_)
  · rw [if_pos (iN.mp hb)] at hQ
    exact s_ret ev_c fun H4 e4 => hQ H4 (((e1.trans e2).trans e3).trans e4)
  rw [if_neg (fun z => by rw [iN.mpr z] at hb; cases hb)] at hQ
  exact s_ret ev_c fun H4 e4 => hQ H4 (((e1.trans e2).trans e3).trans e4)
theorem ok_change_kind (T : TX K mg) : DefOk P w K mg base (1) "change_kind" ["old", "new"] [] (spKind K) := by
  obtain ⟨fd, F, h⟩ := fn_change_kind (P := P) (w := w) (base := base) T
  exact DefOk.of F (gl_change_kind T) (F.bindsN fun _ _ _ _ _ _ us hl => match us, hl with | [_, _], _ => rfl) h
theorem sc_l_change_of : FnScope ["_law_old", "_law_new"] ["_law_old", "_law_new"] (defScope s_l_change_of) := ⟨rfl, rfl, rfl, by decide +kernel, rfl, by decide +kernel, by decide +kernel⟩
theorem fn_l_change_of (T : TX K mg) : ∃ fd, FunD K "_law_change_of" "_law_change_of" (defArgs s_l_change_of) (defBody s_l_change_of) (defScope s_l_change_of) [] [] (He.ga K "_law_change_of") fd ∧ FnOk P w K mg base CX0 (5) (He.ga K "_law_change_of") fd ["_law_old", "_law_new"] (spKind K) := by
  obtain ⟨fd, F⟩ := fd_l_change_of T
  refine ⟨fd, F, My.FunD.ok0 F sc_l_change_of (fun vs H Q E h => ?_) (fun cdv A outer s0 H vs Q E hr h => ?_)⟩
  · obtain ⟨v, u, d, e, rfl, hd, he, vd, ve, hQ⟩ := h
    rfl
  obtain ⟨v, u, d, e, rfl, hd, he, vd, ve, hQ⟩ := h
  have hu := hu_of hr
  refine ⟨_, (pss_cons (ps_if (PW.pt (pw_and (pt_cmp (pc_isN (pv 0))) (pw_and1 (pt_cmp (pc_isN (pv 1)))))) (pss_one (ps_ret pe_str)) pss_nil)
      (pss_cons (ps_if (pt_cmp (pc_isN (pv 0))) (pss_one (ps_ret pe_str)) pss_nil)
      (pss_cons (ps_if (pt_cmp (pc_isN (pv 1))) (pss_one (ps_ret pe_str)) pss_nil)
      (pss_cons (ps_if (pt_val (pe_callN (ok_l_same (P := P) (w := w) T (base := base) 1) hr (pa_cons (pv 1) (pa_cons (pv 0) pa_nil)) (hk := by decide))) (pss_one (ps_ret pe_str)) pss_nil)
      (pss_one (ps_ret pe_str)))))), ?_⟩
  have iN : ∀ {d : PyData}, (isNone d = true) ↔ d = .none := isNone_iff
  refine q_when (et_and (et_B (ev_isND (evd_var rfl hd))) fun _ => et_B (ev_isND (evd_var rfl he))) (fun hb H1 e1 => ?_) (fun hb H1 e1 => ?_)
  · have h := Bool.and_eq_true_iff.mp hb
    have h2 : d = e := by rw [iN.mp h.1, iN.mp h.2]
    unfold ckind at hQ
    rw [if_pos h2] at hQ
    exact s_ret ev_c fun H2 e2 => hQ H2 (e1.trans e2)
  refine q_when (et_B (ev_isND (evd_var rfl (dp_ex e1 hd)))) (fun hb2 H2 e2 => ?_) (fun hb2 H2 e2 => ?_)
  · have h := iN.mp hb2
    have h2 : ¬ d = e := fun z => by
      subst z
      rw [hb2] at hb
      cases hb
    unfold ckind at hQ
    rw [if_neg h2, if_pos h] at hQ
    exact s_ret ev_c fun H3 e3 => hQ H3 ((e1.trans e2).trans e3)
  have nd : ¬ d = .none := fun z => by rw [iN.mpr z] at hb2; cases hb2
  refine q_when (et_B (ev_isND (evd_var rfl (dp_ex (e1.trans e2) he)))) (fun hb3 H3 e3 => ?_) (fun hb3 H3 e3 => ?_)
  · have h := iN.mp hb3
    have h2 : ¬ d = e := fun z => nd (z.trans h)
    unfold ckind at hQ
    rw [if_neg h2, if_neg nd, if_pos h] at hQ
    exact s_ret ev_c fun H4 e4 => hQ H4 (((e1.trans e2).trans e3).trans e4)
  have ne : ¬ e = .none := fun z => by rw [iN.mpr z] at hb3; cases hb3
  have E3 := (e1.trans e2).trans e3
  classical
  refine q_when (b := decide (e = d)) (et_B (ev_call (ea_cons (ev_var rfl) (ea_cons (ev_var rfl) ea_nil)) (sv_same (dp_ex E3 he) (dp_ex E3 hd) (val_dn ve) (val_dn vd) decide_eq_true_iff))) (fun hb4 H4 e4 => ?_) (fun hb4 H4 e4 => ?_)
  · unfold ckind at hQ
    rw [if_pos (of_decide_eq_true hb4).symm] at hQ
    exact s_ret ev_c fun H5 e5 => hQ H5 ((E3.trans e4).trans e5)
  · unfold ckind at hQ
    rw [if_neg (fun z => of_decide_eq_false hb4 z.symm), if_neg nd, if_neg ne] at hQ
    exact s_ret ev_c fun H5 e5 => hQ H5 ((E3.trans e4).trans e5)
theorem ok_l_change_of (T : TX K mg) : DefOk P w K mg base (5) "_law_change_of" ["_law_old", "_law_new"] [] (spKind K) := by
  obtain ⟨fd, F, h⟩ := fn_l_change_of (P := P) (w := w) (base := base) T
  exact DefOk.of F (gl_l_change_of T) (F.bindsN fun _ _ _ _ _ _ us hl => match us, hl with | [_, _], _ => rfl) h
/-! ### safe kinds -/
def safeB (ws : List Str) (c : Int) : Bool := decide (V.int c = V.int 0) || (inV (.str "loss") (ws.map V.str) && inV (.str "move") (ws.map V.str))
def spSafe (K : PySem.W.Frag) : Sp := fun vs H Q _ => ∃ (a : Addr) (ws : List Str) (c : Int), vs = [.ref a, .int c] ∧ SqL K H a (ws.map V.str) ∧ RetV (.bl (safeB ws c)) H Q
theorem sv_safe {H : Hp} {a : Addr} {ws : List Str} {c : Int} (h : SqL K H a (ws.map V.str)) : SpV (spSafe K) [.ref a, .int c] H (.bl (safeB ws c)) := fun H1 x Q q E => ⟨a, ws, c, rfl, ex_l x h, q⟩
theorem flat_strs (ws : List Str) : (ws.map V.str).all flatV = true := by
  rw [List.all_map, List.all_eq_true]
  intro x _
  rfl
theorem sc_is_safe : FnScope ["kinds", "capacity"] ["kinds", "capacity"] (defScope s_is_safe) := ⟨rfl, rfl, rfl, by decide +kernel, rfl, by decide +kernel, by decide +kernel⟩
theorem fn_is_safe (T : TX K mg) : ∃ fd, FunD K "is_safe" "is_safe" (defArgs s_is_safe) (defBody s_is_safe) (defScope s_is_safe) [] [] (He.ga K "is_safe") fd ∧ FnOk P w K mg base CX0 (1) (He.ga K "is_safe") fd ["kinds", "capacity"] (spSafe K) := by
  obtain ⟨fd, F⟩ := fd_is_safe T
  refine ⟨fd, F, My.FunD.ok0 F sc_is_safe (fun vs H Q E h => ?_) (fun cdv A outer s0 H vs Q E hr h => ?_)⟩
  · obtain ⟨a, ws, c, rfl, hS, hQ⟩ := h
    rfl
  obtain ⟨a, ws, c, rfl, hS, hQ⟩ := h
  have hu := hu_of hr
  refine ⟨_, (pss_one (ps_ret (pe_or (pe_cmpR op_eq (pv 1) pe_int (nomark _)) (pe_one (pe_and (pe_cmpR (inQ K) pe_str (pv 0) rfl) (pe_one (pe_cmpR (inQ K) pe_str (pv 0) rfl))))))), ?_⟩
  exact s_ret (ev_orV (ev_op (ev_var rfl) ev_c (rv_eq rfl)) fun _ => ev_andV (ev_op ev_c (ev_var rfl) (rv_isL hS rfl (flat_strs ws))) fun _ => ev_op ev_c (ev_var rfl) (rv_isL hS rfl (flat_strs ws))) hQ
theorem ok_is_safe (T : TX K mg) : DefOk P w K mg base (1) "is_safe" ["kinds", "capacity"] [] (spSafe K) := by
  obtain ⟨fd, F, h⟩ := fn_is_safe (P := P) (w := w) (base := base) T
  exact DefOk.of F (gl_is_safe T) (F.bindsN fun _ _ _ _ _ _ us hl => match us, hl with | [_, _], _ => rfl) h
theorem sc_l_safe : FnScope ["_law_kinds_here", "_law_size"] ["_law_kinds_here", "_law_size"] (defScope s_l_safe) := ⟨rfl, rfl, rfl, by decide +kernel, rfl, by decide +kernel, by decide +kernel⟩
theorem fn_l_safe (T : TX K mg) : ∃ fd, FunD K "_law_safe" "_law_safe" (defArgs s_l_safe) (defBody s_l_safe) (defScope s_l_safe) [] [] (He.ga K "_law_safe") fd ∧ FnOk P w K mg base CX0 (1) (He.ga K "_law_safe") fd ["_law_kinds_here", "_law_size"] (spSafe K) := by
  obtain ⟨fd, F⟩ := fd_l_safe T
  refine ⟨fd, F, My.FunD.ok0 F sc_l_safe (fun vs H Q E h => ?_) (fun cdv A outer s0 H vs Q E hr h => ?_)⟩
  · obtain ⟨a, ws, c, rfl, hS, hQ⟩ := h
    rfl
  obtain ⟨a, ws, c, rfl, hS, hQ⟩ := h
  have hu := hu_of hr
  refine ⟨_, (pss_one (ps_ret (pe_or (pe_cmpR op_eq (pv 1) pe_int (nomark _)) (pe_one (pe_and (pe_cmpR (inQ K) pe_str (pv 0) rfl) (pe_one (pe_cmpR (inQ K) pe_str (pv 0) rfl))))))), ?_⟩
  exact s_ret (ev_orV (ev_op (ev_var rfl) ev_c (rv_eq rfl)) fun _ => ev_andV (ev_op ev_c (ev_var rfl) (rv_isL hS rfl (flat_strs ws))) fun _ => ev_op ev_c (ev_var rfl) (rv_isL hS rfl (flat_strs ws))) hQ
theorem ok_l_safe (T : TX K mg) : DefOk P w K mg base (1) "_law_safe" ["_law_kinds_here", "_law_size"] [] (spSafe K) := by
  obtain ⟨fd, F, h⟩ := fn_l_safe (P := P) (w := w) (base := base) T
  exact DefOk.of F (gl_l_safe T) (F.bindsN fun _ _ _ _ _ _ us hl => match us, hl with | [_, _], _ => rfl) h
def spKinds (K : PySem.W.Frag) : Sp := fun vs H Q _ => ∃ (s : Addr) (ns : List Int) (a k : Int), vs = [.ref s, .int a, .int k] ∧ SqL K H s (ns.map V.int) ∧ ns.length ≤ 63 ∧ -1000 ≤ a ∧ a ≤ 1000 ∧ 0 ≤ k ∧ k ≤ 1000 ∧
  ∀ (ws : List Str), ws.length ≤ 4 → RetL (ws.map V.str) H Q
theorem four_at {i : Int} (h0 : 0 ≤ i) (h1 : i < 4) (a b c d : V) : ∃ v, atI [a, b, c, d] i = some v ∧ (v = a ∨ v = b ∨ v = c ∨ v = d) := by
  have : i = 0 ∨ i = 1 ∨ i = 2 ∨ i = 3 := by omega
  rcases this with rfl | rfl | rfl | rfl
  · exact ⟨a, rfl, .inl rfl⟩
  · exact ⟨b, rfl, .inr (.inl rfl)⟩
  · exact ⟨c, rfl, .inr (.inr (.inl rfl))⟩
  · exact ⟨d, rfl, .inr (.inr (.inr rfl))⟩
theorem sc_l_kinds : FnScope ["_law_script", "_law_at", "_law_k", "_law_rest", "_law_kinds_here", "_law_step"] ["_law_script", "_law_at", "_law_k"] (defScope s_l_kinds) := ⟨rfl, rfl, rfl, by decide +kernel, rfl, by decide +kernel, by decide +kernel⟩
theorem fn_l_kinds (T : TX K mg) : ∃ fd, FunD K "_law_kinds" "_law_kinds" (defArgs s_l_kinds) (defBody s_l_kinds) (defScope s_l_kinds) [] [] (He.ga K "_law_kinds") fd ∧ FnOk P w K mg base CX0 (2) (He.ga K "_law_kinds") fd ["_law_script", "_law_at", "_law_k"] (spKinds K) := by
  obtain ⟨fd, F⟩ := fd_l_kinds T
  refine ⟨fd, F, My.FunD.ok0 F sc_l_kinds (fun vs H Q E h => ?_) (fun cdv A outer s0 H vs Q E hr h => ?_)⟩
  · obtain ⟨s, ns, a, k, rfl, hS, hl, ha0, ha1, hk0, hk1, hQ⟩ := h
    rfl
  obtain ⟨s, ns, a, k, rfl, hS, hl, ha0, ha1, hk0, hk1, hQ⟩ := h
  have hu := hu_of hr
  refine ⟨_, (pss_cons (ps_set (i := 3) sc_l_kinds.nd rfl (Or.inl rfl) (pe_callN (ok_l_number (P := P) (w := w) (base := base) T) hr (pa_cons (pv 0) (pa_cons (pv 1) (pa_cons (pv 2) (pa_cons pe_int pa_nil))))))
      (pss_cons (ps_set (i := 4) sc_l_kinds.nd rfl (Or.inl rfl) (pe_lst pa_nil))
      (pss_cut (ps_for PassesOwn.never rfl (pi_range1 rfl (fr_range T) (pa_cons (pe_callN (ok_l_number (P := P) (w := w) (base := base) T) hr (pa_cons (pv 0) (pa_cons (pv 1) (pa_cons (pe_op op_add (pv 2) pe_int) (pa_cons pe_int pa_nil))))) pa_nil)) (pg_name (i := 5) sc_l_kinds.nd rfl (Or.inl rfl)) (pss_cons (ps_expr (pe_bm PySem.F.plainAttrs_list PySem.F.slot_list_append PySem.F.type_list_append mt_append (pv 4) (pa_cons (pe_ix (ixL K) (pe_lst (pa_cons pe_str (pa_cons pe_str (pa_cons pe_str (pa_cons pe_str pa_nil))))) (pe_op op_mod (pe_callTy call_int1 (by rfl) (fr_int T) (by decide +kernel) (pa_cons (pv 3) pa_nil)) pe_int) (fun _ _ => rfl)) pa_nil)))
      (pss_one (ps_set (i := 3) sc_l_kinds.nd rfl (Or.inl rfl) (pe_op op_fdiv (pv 3) pe_int)))))
      (pss_one (ps_ret (pv 4)))))), ?_⟩
  have nb := lawNum_nn ns a k 256 (by decide)
  have nb5 := lawNum_nn ns a (k + 1) 5 (by decide)
  have nl5 := lawNum_lt ns a (k + 1) 5 (by decide)
  refine q_asg (ev_call (ea_cons (ev_var rfl) (ea_cons (ev_var rfl) (ea_cons (ev_var rfl) (ea_cons ev_c ea_nil)))) (sv_num hS hl (by unfold NumOk; omega))) fun H1 E1 => ?_
  refine q_asgL (el_lst ea_nil (by simp)) fun p H2 hp e2 h2 => ?_
  have E2 := E1.trans e2
  have hp0 := fresh_back E1 hp
  refine q_forR1' (n := lawNum ns a (k + 1) 5) (ea_cons (ev_call (ea_cons (ev_var rfl) (ea_cons (ev_var rfl) (ea_cons (ev_op (ev_var rfl) ev_c rv_I0) (ea_cons ev_c ea_nil)))) (sv_num (ex_l E2 hS) hl (by unfold NumOk; omega))) ea_nil) (by omega)
    (fun i σ' H' => Ex H H' ∧ ∃ (ws : List Str) (r : Int) (o : Option V), ws.length = i ∧ H' p = some (.lst (ws.map V.str)) ∧ 0 ≤ r ∧ σ' = [some (.ref s), some (.int a), some (.int k), some (.int r), some (.ref p), o])
    (fun σ' H' => Ex H H' ∧ ∃ (ws : List Str) (r : Int) (o : Option V), ws.length ≤ 4 ∧ H' p = some (.lst (ws.map V.str)) ∧ σ' = [some (.ref s), some (.int a), some (.int k), some (.int r), some (.ref p), o]) ?_ ?_ ?_ ?_
  · exact fun H3 e3 => ⟨E2.trans e3, [], _, none, rfl, e3 _ _ h2, nb, rfl⟩
  · rintro i σ' H' hi ⟨E3, ws, r, o, hw, hp3, hr0, rfl⟩
    have r4 := Int.emod_nonneg r (show (4 : Int) ≠ 0 by decide)
    have r4' := Int.emod_lt_of_pos r (show (0 : Int) < 4 by decide)
    obtain ⟨v, hv, hv4⟩ := four_at r4 r4' (.str "same") (.str "gain") (.str "loss") (.str "move")
    have hs : ∃ x : Str, v = .str x := by
      rcases hv4 with rfl | rfl | rfl | rfl <;> exact ⟨_, rfl⟩
    obtain ⟨x, rfl⟩ := hs
    refine q_app (xs := ws.map V.str) hp3 (ev_var rfl) (ev_opL1 (el_lst (ea_cons ev_c (ea_cons ev_c (ea_cons ev_c (ea_cons ev_c ea_nil)))) (by simp)) (fun H1 _ => ev_op (ev_cb (ea_cons (ev_var rfl) ea_nil) rc_int) ev_c (rv_I (by decide))) fun q H4 hq _ => rv_ixL (sq_of hq) hv) (by rw [List.length_map]; omega) fun H4 e4 => ?_
    refine s_asg (ev_op (ev_var rfl) ev_c (rv_I (by unfold CDiv; decide))) fun H5 e5 => ⟨((E3.trans e4).mut hp0).trans e5, ws ++ [x], r / 4, _, by rw [List.length_append, hw]; rfl, ?_, by omega, rfl⟩
    rw [List.map_append]
    exact e5 _ _ upd_same
  · rintro σ' H' ⟨E3, ws, r, o, hw, hp3, hr0, rfl⟩
    exact ⟨E3, ws, r, o, by omega, hp3, rfl⟩
  · rintro σ' H' ⟨E3, ws, r, o, hw, hp3, rfl⟩
    exact s_ret (ev_var rfl) fun H4 e4 => hQ ws hw p H4 hp0 (E3.trans e4) (e4 _ _ hp3)
theorem ok_l_kinds (T : TX K mg) : DefOk P w K mg base (2) "_law_kinds" ["_law_script", "_law_at", "_law_k"] [] (spKinds K) := by
  obtain ⟨fd, F, h⟩ := fn_l_kinds (P := P) (w := w) (base := base) T
  exact DefOk.of F (gl_l_kinds T) (F.bindsN fun _ _ _ _ _ _ us hl => match us, hl with | [_, _, _], _ => rfl) h
end

section
variable {P : Program} {w : World} {K : PySem.W.Frag} {mg : Str → Option Value} {base : Heap}
theorem sv_eq {H : Hp} {v u : V} {d : PyData} {n : Nat} (hd : Dp K H v d) (he : Dp K H u d) (hn : Dn n d) : SpV (spSame K n) [v, u] H (.bl true) := sv_same hd he hn hn (by simp)
theorem six_at {i : Int} (h0 : 0 ≤ i) (h1 : i < 6) : ∃ d, atI [.int 0, .str "", .tuple [], .str "0", .tuple [.int 0], .tuple [.str ""]] i = some d ∧ Val0 d := by
  have fs : ∀ s : Str, PyData.strOk s = true → Flat (.str s) := fun s h => .inr ⟨s, rfl, h⟩
  have fi : Flat (.int 0) := .inl ⟨0, rfl⟩
  have k1 : PyData.strOk "" = true := by decide +kernel
  have k2 : PyData.strOk "0" = true := by decide +kernel
  have : i = 0 ∨ i = 1 ∨ i = 2 ∨ i = 3 ∨ i = 4 ∨ i = 5 := by omega
  rcases this with rfl | rfl | rfl | rfl | rfl | rfl
  · exact ⟨_, rfl, .inr (.inl fi)⟩
  · exact ⟨_, rfl, .inr (.inl (fs _ k1))⟩
  · exact ⟨_, rfl, .inr (.inr ⟨_, rfl, by simp, by simp⟩)⟩
  · exact ⟨_, rfl, .inr (.inl (fs _ k2))⟩
  · exact ⟨_, rfl, .inr (.inr ⟨_, rfl, by simp, by simpa using fi⟩)⟩
  · exact ⟨_, rfl, .inr (.inr ⟨_, rfl, by simp, by simpa using fs _ k1⟩)⟩
theorem safe_nil (c : Int) : safeB [] c = decide (V.int c = V.int 0) := by
  unfold safeB
  show (decide (V.int c = V.int 0) || (false && false)) = _
  rw [Bool.false_and, Bool.or_false]
theorem ea_kinds {s : Addr} {ns : List Int} {a k : Int} {σ : L2.St} {H : Hp} {t : TA} {n : Nat} {tz : TS} {D : Ends} (ht : EvA t σ H [.ref s, .int a, .int k]) (hS : SqL K H s (ns.map V.int)) (hl : ns.length ≤ 63) (ha0 : -1000 ≤ a) (ha1 : a ≤ 1000) (hk0 : 0 ≤ k) (hk1 : k ≤ 1000)
    (q : ∀ (ws : List Str), ws.length ≤ 4 → ∀ p H1, H p = none → Ex H H1 → H1 p = some (.lst (ws.map V.str)) → tz D (σ.set n (some (.ref p))) H1) : tSeq (tAsg (tCall (spKinds K) [] E0 t) (gName n)) tz D σ H :=
  ht H (Ex.refl H) _ fun H1 e1 => ⟨s, ns, a, k, rfl, ex_l e1 hS, hl, ha0, ha1, hk0, hk1, fun ws hw p H2 hp e2 h2 => q ws hw p H2 (fresh_back e1 hp) (e1.trans e2) h2⟩
theorem sc_law : FnScope ["_law_script", "_law_at", "_law_pick", "_law_old", "_law_new", "_law_kinds_here", "_law_size", "_law_given", "_law_word"] ["_law_script"] (defScope s_law) := ⟨rfl, rfl, rfl, by decide +kernel, rfl, by decide +kernel, by decide +kernel⟩
theorem fn_law (T : TX K mg) : ∃ fd, FunD K "law" "law" (defArgs s_law) (defBody s_law) (defScope s_law) [] [] (He.ga K "law") fd ∧ FnOk P w K mg base CX0 (6) (He.ga K "law") fd ["_law_script"] (spLaw K) := by
  obtain ⟨fd, F⟩ := fd_law T
  refine ⟨fd, F, My.FunD.ok0 F sc_law (fun vs H Q E h => ?_) (fun cdv A outer s0 H vs Q E hr h => ?_)⟩
  · obtain ⟨s, ns, rfl, hS, hl, hQ⟩ := h
    rfl
  obtain ⟨s, ns, rfl, hS, hl, hQ⟩ := h
  have hu := hu_of hr
  refine ⟨_, (pss_cut (ps_for PassesOwn.never rfl (pi_range2 rfl (fr_range T) (pa_cons pe_int (pa_cons (pe_op op_add pe_int (pe_callN (ok_l_number (P := P) (w := w) (base := base) T) hr (pa_cons (pv 0) (pa_cons pe_int (pa_cons pe_int (pa_cons pe_int pa_nil)))))) pa_nil))) (pg_name (i := 1) sc_law.nd rfl (Or.inl rfl)) (pss_cons (ps_set (i := 2) sc_law.nd rfl (Or.inl rfl) (pe_callN (ok_l_number (P := P) (w := w) (base := base) T) hr (pa_cons (pv 0) (pa_cons (pv 1) (pa_cons pe_int (pa_cons pe_int pa_nil))))))
      (pss_cons (ps_set (i := 3) sc_law.nd rfl (Or.inl rfl) (pe_callN (ok_l_thing (P := P) (w := w) (base := base) T) hr (pa_cons (pv 0) (pa_cons (pv 1) (pa_cons pe_int pa_nil)))))
      (pss_cons (ps_set (i := 4) sc_law.nd rfl (Or.inl rfl) (pe_callN (ok_l_thing (P := P) (w := w) (base := base) T) hr (pa_cons (pv 0) (pa_cons (pv 1) (pa_cons pe_int pa_nil)))))
      (pss_cut (ps_if (PW.pt (pw_or (pt_cmpR op_eq (pv 2) pe_int (nomark _)) (pw_or1 (pt_cmpR op_eq (pv 2) pe_int (nomark _))))) (pss_one (ps_set (i := 3) sc_law.nd rfl (Or.inl rfl) pe_non)) pss_nil)
      (pss_cut (ps_if (PW.pt (pw_or (pt_cmpR op_eq (pv 2) pe_int (nomark _)) (pw_or1 (pt_cmpR op_eq (pv 2) pe_int (nomark _))))) (pss_one (ps_set (i := 4) sc_law.nd rfl (Or.inl rfl) pe_non)) pss_nil)
      (pss_cut (ps_if (PW.pt (pw_or (pt_cmpR op_eq (pv 2) pe_int (nomark _)) (pw_or1 (pt_cmpR op_eq (pv 2) pe_int (nomark _))))) (pss_one (ps_set (i := 4) sc_law.nd rfl (Or.inl rfl) (pe_callN (ok_l_thing (P := P) (w := w) (base := base) T) hr (pa_cons (pv 0) (pa_cons (pv 1) (pa_cons pe_int pa_nil)))))) pss_nil)
      (pss_cut (ps_if (pt_cmpR op_eq (pv 2) pe_int (nomark _)) (pss_cons (ps_set (i := 3) sc_law.nd rfl (Or.inl rfl) (pe_ix (ixL K) (pe_lst (pa_cons pe_int (pa_cons pe_str (pa_cons (pe_tup pa_nil) (pa_cons pe_str (pa_cons (pe_tup (pa_cons pe_int pa_nil)) (pa_cons (pe_tup (pa_cons pe_str pa_nil)) pa_nil))))))) (pe_callN (ok_l_number (P := P) (w := w) (base := base) T) hr (pa_cons (pv 0) (pa_cons (pv 1) (pa_cons pe_int (pa_cons pe_int pa_nil))))) (fun _ _ => rfl)))
      (pss_one (ps_set (i := 4) sc_law.nd rfl (Or.inl rfl) (pe_ix (ixL K) (pe_lst (pa_cons pe_int (pa_cons pe_str (pa_cons (pe_tup pa_nil) (pa_cons pe_str (pa_cons (pe_tup (pa_cons pe_int pa_nil)) (pa_cons (pe_tup (pa_cons pe_str pa_nil)) pa_nil))))))) (pe_callN (ok_l_number (P := P) (w := w) (base := base) T) hr (pa_cons (pv 0) (pa_cons (pv 1) (pa_cons pe_int (pa_cons pe_int pa_nil))))) (fun _ _ => rfl))))) pss_nil)
      (pss_cons (ps_if (pt_not (pt_val (pe_callN (ok_l_same (P := P) (w := w) T (base := base) 1) hr (pa_cons (pe_callN (ok_change_kind (P := P) (w := w) (base := base) T) hr (pa_cons (pv 3) (pa_cons (pv 4) pa_nil))) (pa_cons (pe_callN (ok_l_change_of (P := P) (w := w) (base := base) T) hr (pa_cons (pv 3) (pa_cons (pv 4) pa_nil))) pa_nil)) (hk := by decide)))) (pss_one (ps_ret pe_bl)) pss_nil)
      (pss_cons (ps_if (pt_not (pt_val (pe_callN (ok_l_same (P := P) (w := w) T (base := base) 1) hr (pa_cons (pe_callN (ok_change_kind (P := P) (w := w) (base := base) T) hr (pa_cons (pv 4) (pa_cons (pv 3) pa_nil))) (pa_cons (pe_callN (ok_l_change_of (P := P) (w := w) (base := base) T) hr (pa_cons (pv 4) (pa_cons (pv 3) pa_nil))) pa_nil)) (hk := by decide)))) (pss_one (ps_ret pe_bl)) pss_nil)
      (pss_cons (ps_set (i := 5) sc_law.nd rfl (Or.inl rfl) (pe_callN (ok_l_kinds (P := P) (w := w) (base := base) T) hr (pa_cons (pv 0) (pa_cons (pv 1) (pa_cons pe_int pa_nil)))))
      (pss_cons (ps_set (i := 6) sc_law.nd rfl (Or.inl rfl) (pe_callN (ok_l_number (P := P) (w := w) (base := base) T) hr (pa_cons (pv 0) (pa_cons (pv 1) (pa_cons pe_int (pa_cons pe_int pa_nil))))))
      (pss_cut (ps_if (pt_cmpR op_gt (pv 6) pe_int (nomark _)) (pss_one (ps_set (i := 6) sc_law.nd rfl (Or.inl rfl) (pe_ix (ixL K) (pe_lst (pa_cons pe_int (pa_cons pe_int (pa_cons (pe_op op_add pe_int (pe_callN (ok_l_number (P := P) (w := w) (base := base) T) hr (pa_cons (pv 0) (pa_cons (pv 1) (pa_cons pe_int (pa_cons pe_int pa_nil)))))) pa_nil)))) (pe_op op_sub (pv 6) pe_int) (fun _ _ => rfl)))) pss_nil)
      (pss_cons (ps_set (i := 7) sc_law.nd rfl (Or.inl rfl) (pe_callTy (listQ K) (by rfl) (fr_list T) (by decide +kernel) (pa_cons (pv 5) pa_nil)))
      (pss_cons (ps_if (PW.pt (pw_or (pt_not (pt_val (pe_callN (ok_l_same (P := P) (w := w) T (base := base) 1) hr (pa_cons (pe_callN (ok_is_safe (P := P) (w := w) (base := base) T) hr (pa_cons (pv 7) (pa_cons (pv 6) pa_nil))) (pa_cons (pe_callN (ok_l_safe (P := P) (w := w) (base := base) T) hr (pa_cons (pv 5) (pa_cons (pv 6) pa_nil))) pa_nil)) (hk := by decide)))) (pw_or1 (pt_not (pt_val (pe_callN (ok_l_same (P := P) (w := w) T (base := base) 1) hr (pa_cons (pv 7) (pa_cons (pv 5) pa_nil)) (hk := by decide))))))) (pss_one (ps_ret pe_bl)) pss_nil)
      (pss_cut (ps_for PassesOwn.never rfl (pi_list (pe_ix (ixL K) (pe_lst (pa_cons (pe_lst (pa_cons pe_str (pa_cons pe_str (pa_cons pe_str pa_nil)))) (pa_cons (pe_lst (pa_cons pe_str (pa_cons pe_str (pa_cons pe_str pa_nil)))) pa_nil))) (pe_op op_mod (pe_callTy call_int1 (by rfl) (fr_int T) (by decide +kernel) (pa_cons (pv 2) pa_nil)) pe_int) (fun _ _ => rfl))) (pg_name (i := 8) sc_law.nd rfl (Or.inl rfl)) (pss_cons (ps_expr (pe_bm PySem.F.plainAttrs_list PySem.F.slot_list_append PySem.F.type_list_append mt_append (pv 7) (pa_cons (pv 8) pa_nil)))
      (pss_cons (ps_expr (pe_bm PySem.F.plainAttrs_list PySem.F.slot_list_append PySem.F.type_list_append mt_append (pv 5) (pa_cons (pv 8) pa_nil)))
      (pss_one (ps_if (PW.pt (pw_or (pt_not (pt_val (pe_callN (ok_l_same (P := P) (w := w) T (base := base) 1) hr (pa_cons (pe_callN (ok_is_safe (P := P) (w := w) (base := base) T) hr (pa_cons (pv 7) (pa_cons (pv 6) pa_nil))) (pa_cons (pe_callN (ok_l_safe (P := P) (w := w) (base := base) T) hr (pa_cons (pv 5) (pa_cons (pv 6) pa_nil))) pa_nil)) (hk := by decide)))) (pw_or1 (pt_not (pt_val (pe_callN (ok_l_same (P := P) (w := w) T (base := base) 1) hr (pa_cons (pv 7) (pa_cons (pv 5) pa_nil)) (hk := by decide))))))) (pss_one (ps_ret pe_bl)) pss_nil)))))
      (pss_one (ps_if (PW.pt (pw_or (pt_not (pt_val (pe_callN (ok_l_same (P := P) (w := w) T (base := base) 1) hr (pa_cons (pe_callN (ok_is_safe (P := P) (w := w) (base := base) T) hr (pa_cons (pe_lst pa_nil) (pa_cons (pv 6) pa_nil))) (pa_cons (pe_cmpR op_eq (pv 6) pe_int (nomark _)) pa_nil)) (hk := by decide)))) (pw_or1 (pt_not (pt_val (pe_callN (ok_l_same (P := P) (w := w) T (base := base) 1) hr (pa_cons (pe_callN (ok_is_safe (P := P) (w := w) (base := base) T) hr (pa_cons (pe_lst pa_nil) (pa_cons pe_int pa_nil))) (pa_cons pe_bl pa_nil)) (hk := by decide))))))) (pss_one (ps_ret pe_bl)) pss_nil))))))))))))))))))
      (pss_one (ps_ret pe_bl))), ?_⟩
  have fin : ∀ H', Q (.bl true) H' := hQ
  have numok : ∀ {a k sz : Int}, 0 ≤ a → a ≤ 1000 → 0 ≤ k → k ≤ 1000 → 0 < sz → NumOk a k sz := fun h1 h2 h3 h4 h5 => by unfold NumOk; omega
  have nb6 := lawNum_nn ns 0 9 6 (by decide)
  have nl6 := lawNum_lt ns 0 9 6 (by decide)
  refine q_forR2' (lo := 1) (n := 2 + lawNum ns 0 9 6) (ea_cons ev_c (ea_cons (ev_op ev_c (ev_call (ea_cons (ev_var rfl) (ea_cons ev_c (ea_cons ev_c (ea_cons ev_c ea_nil)))) (sv_num hS hl (numok (by omega) (by omega) (by omega) (by omega) (by omega)))) rv_I0) ea_nil)) (by omega)
    (fun i σ' H' => Ex H H' ∧ ∃ o1 o2 o3 o4 o5 o6 o7 o8, σ' = [some (.ref s), o1, o2, o3, o4, o5, o6, o7, o8])
    (fun σ' H' => Ex H H' ∧ ∃ o1 o2 o3 o4 o5 o6 o7 o8, σ' = [some (.ref s), o1, o2, o3, o4, o5, o6, o7, o8]) ?_ ?_ ?_ ?_
  · exact fun H1 e1 => ⟨e1, _, _, _, _, _, _, _, _, rfl⟩
  · rintro i σ' H1 hi ⟨E1, o1, o2, o3, o4, o5, o6, o7, o8, rfl⟩
    have ha0 : (0 : Int) ≤ 1 + (i : Int) := by omega
    have ha1 : 1 + (i : Int) ≤ 10 := by omega
    generalize 1 + (i : Int) = a at *
    have pb := lawNum_nn ns a 0 8 (by decide)
    refine q_asg (ev_call (ea_cons (ev_var rfl) (ea_cons (ev_var rfl) (ea_cons ev_c (ea_cons ev_c ea_nil)))) (sv_num (ex_l E1 hS) hl (numok ha0 (by omega) (by omega) (by omega) (by omega)))) fun H2 e2 => ?_
    have E2 := E1.trans e2
    generalize lawNum ns a 0 8 = pick at *
    -- old, new
    have thing0 : ∀ {σ1 : L2.St} {H1 : Hp} {t : TA} {k : Int} {n : Nat} {D : Ends}, Ex H H1 → 0 ≤ k → k ≤ 1000 → EvA t σ1 H1 [.ref s, .int a, .int k] → (∀ v d H2, Ex H H2 → Ex H1 H2 → Dp K H2 v d → Thing d → D.nx (σ1.set n (some v)) H2) → tAsg (tCall (spThing K) [] E0 t) (gName n) D σ1 H1 := fun {σ1 H1 t k n D} e1 k0 k1 ht kk =>
      ht H1 (Ex.refl H1) _ fun H2 e2 => ⟨s, ns, a, k, rfl, ex_l (e1.trans e2) hS, hl, by omega, by omega, k0, k1, fun d hd v H3 e3 h3 => kk v d H3 ((e1.trans e2).trans e3) (e2.trans e3) h3 hd⟩
    have thing : ∀ {σ1 : L2.St} {H1 : Hp} {t : TA} {k : Int} {n : Nat} {tz : TS} {D : Ends}, Ex H H1 → 0 ≤ k → k ≤ 1000 → EvA t σ1 H1 [.ref s, .int a, .int k] → (∀ v d H2, Ex H H2 → Ex H1 H2 → Dp K H2 v d → Thing d → tz D (σ1.set n (some v)) H2) → tSeq (tAsg (tCall (spThing K) [] E0 t) (gName n)) tz D σ1 H1 := fun {σ1 H1 t k n tz D} e1 k0 k1 ht kk =>
      thing0 (D := { D with nx := tz D }) e1 k0 k1 ht kk
    refine thing E2 (by omega) (by omega) (ea_cons (ev_var rfl) (ea_cons (ev_var rfl) (ea_cons ev_c ea_nil))) fun v1 d1 H3 E3 e3 hv1 td1 => ?_
    refine thing E3 (by omega) (by omega) (ea_cons (ev_var rfl) (ea_cons (ev_var rfl) (ea_cons ev_c ea_nil))) fun v2 d2 H4 E4 e4 hv2 td2 => ?_
    -- None instead
    refine q_cut (M := fun σ' H' => Ex H H' ∧ ∃ v d u e, Dp K H' v d ∧ Val0 d ∧ Dp K H' u e ∧ Val0 e ∧ σ' = [some (.ref s), some (.int a), some (.int pick), some v, some u, o5, o6, o7, o8])
      (s_if (et_or (et_test (ev_op (ev_var rfl) ev_c (rv_eq rfl))) fun _ => et_test (ev_op (ev_var rfl) ev_c (rv_eq rfl))) (fun hb H5 e5 => ?_) (fun hb H5 e5 => ?_)) (fun σ5 H5 hM => ?_)
    · exact s_asg ev_c fun H6 e6 => ⟨(E4.trans e5).trans e6, .non, .none, v2, d2, .non, .inl rfl, dp_ex (e5.trans e6) hv2, .inr td2, rfl⟩
    · exact ⟨E4.trans e5, v1, d1, v2, d2, dp_ex (e4.trans e5) hv1, .inr td1, dp_ex e5 hv2, .inr td2, rfl⟩
    clear hv1 hv2 td1 td2
    obtain ⟨E5, v1, d1, v2, d2, hv1, td1, hv2, td2, rfl⟩ := hM
    refine q_cut (M := fun σ' H' => Ex H H' ∧ ∃ v d u e, Dp K H' v d ∧ Val0 d ∧ Dp K H' u e ∧ Val0 e ∧ σ' = [some (.ref s), some (.int a), some (.int pick), some v, some u, o5, o6, o7, o8])
      (s_if (et_or (et_test (ev_op (ev_var rfl) ev_c (rv_eq rfl))) fun _ => et_test (ev_op (ev_var rfl) ev_c (rv_eq rfl))) (fun hb H6 e6 => ?_) (fun hb H6 e6 => ?_)) (fun σ6 H6 hM => ?_)
    · exact s_asg ev_c fun H7 e7 => ⟨(E5.trans e6).trans e7, v1, d1, .non, .none, dp_ex (e6.trans e7) hv1, td1, .non, .inl rfl, rfl⟩
    · exact ⟨E5.trans e6, v1, d1, v2, d2, dp_ex e6 hv1, td1, dp_ex e6 hv2, td2, rfl⟩
    clear hv1 hv2 td1 td2
    obtain ⟨E6, v1, d1, v2, d2, hv1, td1, hv2, td2, rfl⟩ := hM
    refine q_cut (M := fun σ' H' => Ex H H' ∧ ∃ v d u e, Dp K H' v d ∧ Val0 d ∧ Dp K H' u e ∧ Val0 e ∧ σ' = [some (.ref s), some (.int a), some (.int pick), some v, some u, o5, o6, o7, o8])
      (s_if (et_or (et_test (ev_op (ev_var rfl) ev_c (rv_eq rfl))) fun _ => et_test (ev_op (ev_var rfl) ev_c (rv_eq rfl))) (fun hb H7 e7 => ?_) (fun hb H7 e7 => ?_)) (fun σ7 H7 hM => ?_)
    · refine thing0 (E6.trans e7) (k := 1) (by omega) (by omega) (ea_cons (ev_var rfl) (ea_cons (ev_var rfl) (ea_cons ev_c ea_nil))) fun v d H8 E8 e8 hv td => ?_
      exact ⟨E8, v1, d1, v, d, dp_ex (e7.trans e8) hv1, td1, hv, .inr td, rfl⟩
    · exact ⟨E6.trans e7, v1, d1, v2, d2, dp_ex e7 hv1, td1, dp_ex e7 hv2, td2, rfl⟩
    clear hv1 hv2 td1 td2
    obtain ⟨E7, v1, d1, v2, d2, hv1, td1, hv2, td2, rfl⟩ := hM
    refine q_cut (M := fun σ' H' => Ex H H' ∧ ∃ v d u e, Dp K H' v d ∧ Val0 d ∧ Dp K H' u e ∧ Val0 e ∧ σ' = [some (.ref s), some (.int a), some (.int pick), some v, some u, o5, o6, o7, o8])
      (s_if (et_test (ev_op (ev_var rfl) ev_c (rv_eq rfl))) (fun hb H8 e8 => ?_) (fun hb H8 e8 => ?_)) (fun σ8 H8 hM => ?_)
    · have E8 := E7.trans e8
      obtain ⟨da, hda, va⟩ := six_at (lawNum_nn ns a 1 6 (by decide)) (lawNum_lt ns a 1 6 (by decide))
      obtain ⟨db, hdb, vb⟩ := six_at (lawNum_nn ns a 3 6 (by decide)) (lawNum_lt ns a 3 6 (by decide))
      have lst : ∀ {σ1 : L2.St} {H1 : Hp}, EvD K _ σ1 H1 (.list [.int 0, .str "", .tuple [], .str "0", .tuple [.int 0], .tuple [.str ""]]) := fun {σ1 H1} =>
        evd_lst (evds_cons evd_int (evds_cons evd_str (evds_cons (evd_tup evds_nil (by simp)) (evds_cons evd_str (evds_cons (evd_tup (evds_cons evd_int evds_nil) (by simp)) (evds_cons (evd_tup (evds_cons evd_str evds_nil) (by simp)) evds_nil)))))) (by simp)
      refine qd_asg (evd_ixL lst (ev_call (ea_cons (ev_var rfl) (ea_cons (ev_var rfl) (ea_cons ev_c (ea_cons ev_c ea_nil)))) (sv_num (ex_l E8 hS) hl (numok ha0 (by omega) (by omega) (by omega) (by omega)))) hda) fun va' H9 e9 hva => ?_
      have E9 := E8.trans e9
      refine sd_asg (evd_ixL lst (ev_call (ea_cons (ev_var rfl) (ea_cons (ev_var rfl) (ea_cons ev_c (ea_cons ev_c ea_nil)))) (sv_num (ex_l E9 hS) hl (numok ha0 (by omega) (by omega) (by omega) (by omega)))) hdb) fun vb' H10 e10 hvb => ?_
      exact ⟨E9.trans e10, va', da, vb', db, dp_ex e10 hva, va, hvb, vb, rfl⟩
    · exact ⟨E7.trans e8, v1, d1, v2, d2, dp_ex e8 hv1, td1, dp_ex e8 hv2, td2, rfl⟩
    clear hv1 hv2 td1 td2
    obtain ⟨E8, v1, d1, v2, d2, hv1, td1, hv2, td2, rfl⟩ := hM
    refine q_whenF (et_notT (et_B (ev_call (ea_cons (ev_call (ea_cons (ev_var rfl) (ea_cons (ev_var rfl) ea_nil)) (sv_kind hv1 hv2 td1 td2)) (ea_cons (ev_call (ea_cons (ev_var rfl) (ea_cons (ev_var rfl) ea_nil)) (sv_kind hv1 hv2 td1 td2)) ea_nil)) (sv_eq (.str _) (.str _) (by simp [Dn]))))) fun H9 e9 => ?_
    have hv19 := dp_ex e9 hv1
    have hv29 := dp_ex e9 hv2
    have E9 := E8.trans e9
    refine q_whenF (et_notT (et_B (ev_call (ea_cons (ev_call (ea_cons (ev_var rfl) (ea_cons (ev_var rfl) ea_nil)) (sv_kind hv29 hv19 td2 td1)) (ea_cons (ev_call (ea_cons (ev_var rfl) (ea_cons (ev_var rfl) ea_nil)) (sv_kind hv29 hv19 td2 td1)) ea_nil)) (sv_eq (.str _) (.str _) (by simp [Dn]))))) fun H10 e10 => ?_
    have E10 := E9.trans e10
    -- kinds, size
    refine ea_kinds (K := K) (ns := ns) (s := s) (a := a) (k := 5) (ea_cons (ev_var rfl) (ea_cons (ev_var rfl) (ea_cons ev_c ea_nil))) (ex_l E10 hS) hl (by omega) (by omega) (by omega) (by omega) fun ws hws kp H11 hk e11 hk11 => ?_
    have E11 := E10.trans e11
    have pb8 := lawNum_nn ns a 7 8 (by decide)
    have pl8 := lawNum_lt ns a 7 8 (by decide)
    refine q_asg (ev_call (ea_cons (ev_var rfl) (ea_cons (ev_var rfl) (ea_cons ev_c (ea_cons ev_c ea_nil)))) (sv_num (ex_l E11 hS) hl (numok ha0 (by omega) (by omega) (by omega) (by omega)))) fun H12 e12 => ?_
    have E12 := E11.trans e12
    generalize lawNum ns a 7 8 = sz at *
    refine q_cut (M := fun σ' H' => Ex H12 H' ∧ ∃ c, σ' = [some (.ref s), some (.int a), some (.int pick), some v1, some v2, some (.ref kp), some (.int c), o7, o8])
      (s_if (et_test (ev_op (ev_var rfl) ev_c rv_I0)) (fun hb H13 e13 => ?_) (fun hb H13 e13 => ?_)) (fun σ13 H13 hM => ?_)
    · have hb' : (4 : Int) < sz := of_decide_eq_true hb
      obtain ⟨c, hc⟩ : ∃ c, atI [V.int 1, V.int 2, V.int (5 + lawNum ns a 8 60)] (sz - 5) = some (.int c) := by
        have : sz = 5 ∨ sz = 6 ∨ sz = 7 := by omega
        rcases this with rfl | rfl | rfl
        · exact ⟨_, rfl⟩
        · exact ⟨_, rfl⟩
        · exact ⟨_, rfl⟩
      refine s_asg (ev_opL1 (el_lst (ea_cons ev_c (ea_cons ev_c (ea_cons (ev_op ev_c (ev_call (ea_cons (ev_var rfl) (ea_cons (ev_var rfl) (ea_cons ev_c (ea_cons ev_c ea_nil)))) (sv_num (ex_l (E12.trans e13) hS) hl (numok ha0 (by omega) (by omega) (by omega) (by omega)))) rv_I0) ea_nil))) (by simp)) (fun H1 _ => ev_op (ev_var rfl) ev_c rv_I0) fun q H4 hq _ => rv_ixL (sq_of hq) hc) fun H14 e14 => ?_
      exact ⟨e13.trans e14, c, rfl⟩
    · exact ⟨e13, sz, rfl⟩
    obtain ⟨e13, c, rfl⟩ := hM
    have E13 := E12.trans e13
    have hk13 := e13 _ _ (e12 _ _ hk11)
    -- given
    have cp : EvL (tCB (rListQ K) (tCons (tVar 5) tNil)) [some (.ref s), some (.int a), some (.int pick), some v1, some v2, some (.ref kp), some (.int c), o7, o8] H13 (ws.map V.str) := fun H1 x Q' q' =>
      ev_var (i := 5) (v := .ref kp) rfl H1 x _ fun H2 x2 => ⟨kp, ws.map V.str, rfl, .inl (sq_of (x2 _ _ (x _ _ hk13))), fun l hl => q' l _ (fresh_back x2 hl) (x2.trans (Ex.new hl)) upd_same⟩
    refine q_asgL cp fun gp H14 hg e14 hg14 => ?_
    have hk14 := e14 _ _ hk13
    have kg : kp ≠ gp := ne_of_none hk13 hg
    -- is_safe of the list, of its copy, both told
    have both : ∀ {σ1 : L2.St} {H1 : Hp} {xs : List Str}, σ1[7]? = some (some (.ref gp)) → σ1[5]? = some (some (.ref kp)) → σ1[6]? = some (some (.int c)) → xs.length ≤ 100 → H1 gp = some (.lst (xs.map V.str)) → H1 kp = some (.lst (xs.map V.str)) →
        EvT (tOr (tNot (tB (tCall (spSame K 1) [] E0 (tCons (tCall (spSafe K) [] E0 (tCons (tVar 7) (tCons (tVar 6) tNil))) (tCons (tCall (spSafe K) [] E0 (tCons (tVar 5) (tCons (tVar 6) tNil))) tNil))))) (tNot (tB (tCall (spSame K 1) [] E0 (tCons (tVar 7) (tCons (tVar 5) tNil)))))) σ1 H1 false := fun {σ1 H1 xs} s7 s5 s6 hx h1 h2 =>
      et_or (a := false) (b := false) (et_notT (et_B (ev_call (ea_cons (ev_call (ea_cons (ev_var s7) (ea_cons (ev_var s6) ea_nil)) (sv_safe (sq_of h1))) (ea_cons (ev_call (ea_cons (ev_var s5) (ea_cons (ev_var s6) ea_nil)) (sv_safe (sq_of h2))) ea_nil)) (sv_eq (.bl _) (.bl _) (by simp [Dn])))))
        fun _ => et_notT (et_B (ev_call (ea_cons (ev_var s7) (ea_cons (ev_var s5) ea_nil)) (sv_eq (dp_strs (sq_of h1)) (dp_strs (sq_of h2)) (dn_strs (by omega)))))
    refine q_whenF (both (xs := ws) rfl rfl rfl (by omega) hg14 hk14) fun H15 e15 => ?_
    have hg15 := e15 _ _ hg14
    have hk15 := e15 _ _ hk14
    have E15 : Ex H H15 := (E13.trans e14).trans e15
    have hg0 : H gp = none := fresh_back E13 hg
    have hk0 : H kp = none := fresh_back E10 hk
    obtain ⟨xs, hxl, hc2⟩ : ∃ xs : List Str, xs.length = 3 ∧ ((pick % 2 = 0 ∧ xs.map V.str = [.str "loss", .str "gain", .str "move"]) ∨ (pick % 2 = 1 ∧ xs.map V.str = [.str "move", .str "gain", .str "loss"])) := by
      have h0 := Int.emod_nonneg pick (show (2 : Int) ≠ 0 by decide)
      have h1 := Int.emod_lt_of_pos pick (show (0 : Int) < 2 by decide)
      have : pick % 2 = 0 ∨ pick % 2 = 1 := by omega
      rcases this with h | h <;> rw [h]
      · exact ⟨["loss", "gain", "move"], rfl, .inl ⟨rfl, rfl⟩⟩
      · exact ⟨["move", "gain", "loss"], rfl, .inr ⟨rfl, rfl⟩⟩
    refine q_forNL' (xs := xs.map V.str) (el_two (el_lst (ea_cons ev_c (ea_cons ev_c (ea_cons ev_c ea_nil))) (by simp)) (el_lst (ea_cons ev_c (ea_cons ev_c (ea_cons ev_c ea_nil))) (by simp)) (ev_op (ev_cb (ea_cons (ev_var rfl) ea_nil) rc_int) ev_c (rv_I (by decide))) hc2)
      (fun p i σ' H' => Ex H H' ∧ H' p = some (.lst (xs.map V.str)) ∧ p ≠ gp ∧ p ≠ kp ∧ ∃ (ys : List Str) (o : Option V), ys.length = ws.length + i ∧ H' gp = some (.lst (ys.map V.str)) ∧ H' kp = some (.lst (ys.map V.str)) ∧ σ' = [some (.ref s), some (.int a), some (.int pick), some v1, some v2, some (.ref kp), some (.int c), some (.ref gp), o])
      (fun σ' H' => Ex H H' ∧ ∃ o, σ' = [some (.ref s), some (.int a), some (.int pick), some v1, some v2, some (.ref kp), some (.int c), some (.ref gp), o]) ?_ ?_ ?_ ?_ ?_
    · exact fun p H16 hp e16 h16 => ⟨E15.trans e16, h16, (ne_of_none hg15 hp).symm, (ne_of_none hk15 hp).symm, ws, o8, rfl, e16 _ _ hg15, e16 _ _ hk15, rfl⟩
    · exact fun p i σ' H' _ h => sq_of h.2.1
    · rintro p i x σ' H' hx ⟨E16, hp, pg, pk, ys, o, hy, hyg, hyk, rfl⟩
      have hi3 : i < 3 := by
        have := (List.getElem?_eq_some_iff.mp hx).1
        rw [List.length_map, hxl] at this
        exact this
      obtain ⟨w, rfl⟩ : ∃ w, x = V.str w := by
        rw [List.getElem?_map] at hx
        cases e : xs[i]? with
        | none => rw [e] at hx; cases hx
        | some w => rw [e] at hx; exact ⟨w, (Option.some.inj hx).symm⟩
      refine q_app (xs := ys.map V.str) hyg (ev_var rfl) (ev_var rfl) (by rw [List.length_map]; omega) fun H17 e17 => ?_
      have hyk17 : (upd H17 gp (.lst (ys.map V.str ++ [.str w]))) kp = some (.lst (ys.map V.str)) := by
        rw [upd_ne kg]
        exact e17 _ _ hyk
      refine q_app (xs := ys.map V.str) hyk17 (ev_var rfl) (ev_var rfl) (by rw [List.length_map]; omega) fun H18 e18 => ?_
      have E17 : Ex H (upd H17 gp (.lst (ys.map V.str ++ [.str w]))) := (E16.trans e17).mut hg0
      have E18 : Ex H (upd H18 kp (.lst (ys.map V.str ++ [.str w]))) := (E17.trans e18).mut hk0
      have hm : (ys.map V.str ++ [.str w] : List V) = (ys ++ [w]).map V.str := by rw [List.map_append]; rfl
      have g18 : (upd H18 kp (.lst (ys.map V.str ++ [.str w]))) gp = some (.lst ((ys ++ [w]).map V.str)) := by
        rw [upd_ne kg.symm, ← hm]
        exact e18 _ _ upd_same
      have k18 : (upd H18 kp (.lst (ys.map V.str ++ [.str w]))) kp = some (.lst ((ys ++ [w]).map V.str)) := by
        rw [upd_same, hm]
      have p18 : (upd H18 kp (.lst (ys.map V.str ++ [.str w]))) p = some (.lst (xs.map V.str)) := by
        rw [upd_ne pk]
        refine e18 _ _ ?_
        rw [upd_ne pg]
        exact e17 _ _ hp
      refine s_whenF (both (xs := ys ++ [w]) rfl rfl rfl (by rw [List.length_append, hy]; simp; omega) g18 k18) fun H19 e19 => ?_
      exact ⟨E18.trans e19, e19 _ _ p18, pg, pk, ys ++ [w], _, by rw [List.length_append, hy]; simp; omega, e19 _ _ g18, e19 _ _ k18, rfl⟩
    · rintro p σ' H' ⟨x, _, _, _, ys, o, _, _, _, rfl⟩
      exact ⟨x, o, rfl⟩
    · rintro σ' H' ⟨E16, o, rfl⟩
      refine s_whenF (et_or (a := false) (b := false) (et_notT (et_B (ev_call (ea_cons (ev_callL (xs := []) (el_lst ea_nil (by simp)) (ea_cons (ev_var rfl) ea_nil) fun p H1 _ hp => sv_safe (ws := []) (sq_of hp)) (ea_cons (ev_op (ev_var rfl) ev_c (rv_eq rfl)) ea_nil)) ?_)))
        fun _ => et_notT (et_B (ev_call (ea_cons (ev_callL (xs := []) (el_lst ea_nil (by simp)) (ea_cons ev_c ea_nil) fun p H1 _ hp => sv_safe (ws := []) (sq_of hp)) (ea_cons ev_c ea_nil)) ?_))) fun H17 e17 => ⟨E16.trans e17, _, _, _, _, _, _, _, _, rfl⟩
      · rw [safe_nil]
        exact sv_eq (.bl _) (.bl _) (by simp [Dn])
      · rw [safe_nil]
        exact sv_eq (.bl _) (.bl _) (by simp [Dn])
  · rintro σ' H1 h
    exact h
  · rintro σ' H1 ⟨E1, o1, o2, o3, o4, o5, o6, o7, o8, rfl⟩
    exact s_ret ev_c fun H2 e2 => fin H2
theorem ok_law (T : TX K mg) : DefOk P w K mg base (6) "law" ["_law_script"] [] (spLaw K) := by
  obtain ⟨fd, F, h⟩ := fn_law (P := P) (w := w) (base := base) T
  exact DefOk.of F (gl_law T) (F.bindsN fun _ _ _ _ _ _ us hl => match us, hl with | [_], _ => rfl) h
end

/-! ### the head -/
def loose : List PySem.Str := (["change_kind", "is_safe", "_law_number", "_law_is_whole", "_law_same", "_law_thing", "_law_change_of", "_law_kinds", "_law_safe"] : List PySem.Str)
abbrev R : PySem.W.OpenRow := PySem.W.OpenLaw.row PySem.Challenge.rw_lentpages_k10_change_kinds
abbrev hk : PySem.W.Hook := He.hookD 5 fas fns
def ob (s : PySem.W.SharedT) : He.AlD := He.obsDG 5 fas fns (HandSHeadRun.getT s)
theorem ob_eq (s : PySem.W.SharedT) : ob s = hk.obs s.abs := He.obsDG_eq (HandSHeadRun.getT_eq s)
theorem run (w : World) : HandSHeadRun.RunEq R (PySem.W.view R.prog [11]) hk ob 2000 loose w := by
  intro os
  kernel_rfl
end Law
open PySem PySem.W PySem.Calls PyProof.Rows
theorem PySem.Challenge.cw_lentpages_k10_change_kinds_holds : PySem.Challenge.rw_lentpages_k10_change_kinds.Holds := by
  w_on; o_law
  refine HandSHeadRun.head_any (r := OpenLaw.row PySem.Challenge.rw_lentpages_k10_change_kinds) (q := view (OpenLaw.row PySem.Challenge.rw_lentpages_k10_change_kinds).prog [11]) (H := Law.hk) (ob := Law.ob) (M := 2000) (loose := Law.loose) (d := HandSHeadRun.topDef (OpenLaw.row PySem.Challenge.rw_lentpages_k10_change_kinds).prog 11) (kwd := []) Law.ob_eq
    (by kernel_rfl) (fun s => by kernel_rfl) Law.run (by kernel_rfl) (by kernel_rfl) (by kernel_rfl) (by rfl) (by first | assumption | decide +kernel) (by decide +kernel) ⟨rfl, rfl, rfl, rfl, rfl, by decide +kernel⟩ ?hw ?hc
  case hw => w_witness2
  case hc =>
    refine L2.walk_ofE (l := PySem.Challenge.rw_lentpages_k10_change_kinds) (n := 63) (k := 6) (x := "_law_script") (CX := L2.CX0) rfl (by decide) (by kernel_rfl) ⟨rfl, by decide, by decide⟩ ?F (fun _ _ _ _ z => z)
    intro w mg fa h Y G hmg0
    obtain ⟨K, KX, c⟩ := Y
    have hmg : mg ("law" : PySem.Str) = some (.ref fa) := by
      have e : (HandSHeadRun.topDef (OpenLaw.row PySem.Challenge.rw_lentpages_k10_change_kinds).prog 11).name = ("law" : PySem.Str) := by kernel_rfl
      rw [← e]
      exact hmg0
    have T : Law.TX K mg := My.Tx.mk' KX G c
    have e := hmg.symm.trans (Law.gl_law T)
    cases e
    obtain ⟨fd, F, _⟩ := Law.fn_law (P := (PySem.Challenge.rw_lentpages_k10_change_kinds).prog) (w := w) (base := h) T
    exact ⟨K, fd, My.spLaw K, KX, fun s v => L2.FunD.bindsA (ps := ["_law_script"]) F (fun _ _ _ _ _ _ us hl => match us, hl with | [_], _ => rfl) s [v] rfl, fun H a ns hl _ hS => ⟨a, ns, rfl, hS, hl, fun _ => rfl⟩, fun base _ _ => by
      obtain ⟨fd2, F2, h2⟩ := Law.fn_law (P := (PySem.Challenge.rw_lentpages_k10_change_kinds).prog) (w := w) (base := base) T
      have ef := My.FunD.same F F2
      subst ef
      exact h2⟩
#print axioms PySem.Challenge.cw_lentpages_k10_change_kinds_holds
