import PyProof.Rows.All
import Wide.All
import OpenK.AllK
import Wide.FinOn
import PyProof.EqAt
import PyProof.EqKinds
import PyProof.TupleCall
import KE.KStateDown
import Lean
import HandS.ForMost
import HandS.Evl
import HandS.Steps
import HandS.Wide
import HandS.IsInst
import HandS.Defaults
import HandS.Flow
import HandS.HeadEnd
import HandS.HeadHook1
import HandS.HeadHook2
import HandS.Head0
import HandS.Head1
import HandS.Head2
import HandS.Exc
import HandS.ExcOwn
import HandS.ExcInit
import HandS.ExcField
import HandS.ExcIs
import HandS.FStr
import HandS.TryMany
import HandS.TryOnly
import HandS.HeadHook3
import HandS.HeadHook4
import KE.KExcIs
import OpenK.KCls
import HandS.Rev
import HandS.Zip
import PySem.Challenge.RW_lentpages_k02_cover
set_option Elab.async false
set_option linter.all false
set_option maxRecDepth 100000
set_option maxHeartbeats 4000000
namespace My
open PySem PySem.Spec PyProof.Rows L2 Evl
/-! ### a def by its name -/
structure DefOk (P : Program) (w : World) (K : PySem.W.Frag) (mg : Str → Option Value) (base : Heap) (k : Nat) (x : Str) (ps : List Str) (dvs : List V) (sp : Sp) : Prop where
  ex : ∃ (f : Addr) (fd : FuncData) (ds : List Value), mg x = some (.ref f) ∧ PySem.W.keepIn K (.ref f) = true ∧ Binds K fd ps ds ∧ Vals dvs ds ∧ FnOk P w K mg base CX0 k f fd ps sp
section
variable {X : Cx} {k j : Nat} {x : Str} {ps : List Str} {dvs : List V} {sp : Sp} {p pos : Pos} {e : Expr} {es : List Expr} {t : TA}
theorem pe_callN (D : DefOk X.prog X.w X.K X.mg X.base k x ps dvs sp) (hr : Room j X.A)
    (ha : PA X (e :: es) t) (hk : k ≤ j := by decide) (hg : Gl X x := by rfl) (hdb : (x == ("__debug__" : Str)) = false := by decide) (he : starEach (e :: es) X.env = (false, eval e X.env) :: starEach es X.env := by rfl) (hpl : (backTo pos (starEach es X.env)).any (·.1) = false := by rfl) :
    PE X (.Call (.Name x p) (e :: es) [] pos) (tCall sp dvs E0 t) := by
  obtain ⟨f, fd, ds, h1, h2, h3, h4, h5⟩ := D.ex
  exact pe_call h5 (hr.mono hk) hg h1 h2 h3 h4 pass0 ha hdb he hpl
theorem pe_callN0 (D : DefOk X.prog X.w X.K X.mg X.base k x ps dvs sp) (hr : Room j X.A)
    (hk : k ≤ j := by decide) (hg : Gl X x := by rfl) (hdb : (x == ("__debug__" : Str)) = false := by decide) :
    PE X (.Call (.Name x p) [] [] pos) (tCall sp dvs E0 tNil) := by
  obtain ⟨f, fd, ds, h1, h2, h3, h4, h5⟩ := D.ex
  exact pe_call0 h5 (hr.mono hk) hg h1 h2 h3 h4 pass0 hdb
end
theorem DefOk.of {P : Program} {w : World} {K : PySem.W.Frag} {mg : Str → Option Value} {base : Heap} {k : Nat} {x : Str} {ps : List Str} {sp : Sp} {st : Stmt} {fd : FuncData} {f : Addr} (F : FunD K x x (defArgs st) (defBody st) (defScope st) [] [] f fd)
    (g : mg x = some (.ref f)) (b : Binds K fd ps []) (h : FnOk P w K mg base CX0 k f fd ps sp) : DefOk P w K mg base k x ps [] sp := ⟨f, fd, [], g, F.kp, b, .nil, h⟩
theorem FunD.ok0 {P : Program} {w : World} {K : PySem.W.Frag} {mg : Str → Option Value} {base : Heap} {x qual : Str} {params : Arguments} {body : List Stmt} {scope : Scope} {dvs : List V} {kws : List (Str × V)} {f : Addr} {fd : FuncData}
    {N ps : List Str} {k : Nat} {sp : Sp} (F : FunD K x qual params body scope dvs kws f fd) (S : FnScope N ps scope) (len : ∀ vs H Q E, sp vs H Q E → vs.length = ps.length)
    (hbody : ∀ (cdv : Value) (A : Around) (outer : List Env) (s : Shared) (H : Hp) (vs : List V) (Q : VK) (E : XK), Room k (A.deeper (envOfC qual scope s.heap.objs.size f cdv)) → sp vs H Q E →
      ∃ t, PSs (cxOf CX0 P w K mg base N qual scope f cdv A outer s H E).nox body t ∧ t { nx := fun _ H' => Q .non H', rt := Q } (start N vs) H) : FnOk P w K mg base CX0 (k + 1) f fd ps sp :=
  F.ok S len fun cdv A outer s H vs Q E hr h => by
    obtain ⟨t, h1, h2⟩ := hbody cdv A outer s H vs Q E hr h
    exact ⟨t, h1.nox, h2⟩
/-! ### the facts of a top by names -/
structure Tx (fa : List He.Fa) (fn : List He.DefD) (K : PySem.W.Frag) (mg : Str → Option Value) : Prop where
  says : He.SaysD fa fn K
  glo : ∀ x, (He.Fa.glo x).ok K = true → mg x = some (.ref (He.ga K x))
  fre : ∀ x, (He.Fa.free x).ok K = true → mg x = none
theorem Tx.mk' {fa : List He.Fa} {fn : List He.DefD} {K : PySem.W.Frag} {h : Heap} {mg : Str → Option Value} (X : K.In h) (G : h.Ns mainGlobals mg) (c : He.SaysD fa fn K) : Tx fa fn K mg :=
  ⟨c, fun _ h => He.glo_ok X G h, fun _ h => He.free_ok X G h⟩
/-! ### rules with their fragment named (within a block X.K is not seen as K) -/
def rLenQ (K : PySem.W.Frag) : List V → Hp → VK → Prop := fun xs H Q => ∃ p ys, xs = [.ref p] ∧ (SqL K H p ys ∨ SqT K H p ys) ∧ Q (.int ys.length) H
def rListQ (K : PySem.W.Frag) : List V → Hp → VK → Prop := fun xs H Q => ∃ p ys, xs = [.ref p] ∧ (SqL K H p ys ∨ SqT K H p ys) ∧ ∀ l, H l = none → Q (.ref l) (upd H l (.lst ys))
def rTupQ (K : PySem.W.Frag) : List V → Hp → VK → Prop := fun xs H Q => ∃ p ys, xs = [.ref p] ∧ ((SqL K H p ys ∧ ∀ l, H l = none → Q (.ref l) (upd H l (.tup ys))) ∨ (SqT K H p ys ∧ Q (.ref p) H))
section
variable {X : Cx} {K : PySem.W.Frag}
theorem ixL (K : PySem.W.Frag) (h : X.K = K := by rfl) : IxR X (rIxL K) := h ▸ ix_list
theorem ixT (K : PySem.W.Frag) (h : X.K = K := by rfl) : IxR X (rIxT K) := h ▸ ix_tup
theorem ixQ (K : PySem.W.Frag) (h : X.K = K := by rfl) : IxR X (rIx K) := h ▸ ix_seq
theorem inQ (K : PySem.W.Frag) (h : X.K = K := by rfl) : OpR X (compareOp .In) (rIn K false) := h ▸ op_in_seq
theorem niQ (K : PySem.W.Frag) (h : X.K = K := by rfl) : OpR X (compareOp .NotIn) (rIn K true) := h ▸ op_notIn_seq
theorem eqD (K : PySem.W.Frag) (hu : X.A.units + 64 < cLine) (h : X.K = K := by rfl) : OpR X (compareOp .Eq) (rEqD K) := h ▸ op_eqD hu
theorem neD (K : PySem.W.Frag) (hu : X.A.units + 64 < cLine) (h : X.K = K := by rfl) : OpR X (compareOp .NotEq) (rNeD K) := h ▸ op_neD hu
theorem catT (K : PySem.W.Frag) (h : X.K = K := by rfl) : OpR X (binaryOp .Add) (rCatT K) := h ▸ op_catT
theorem lenQ (K : PySem.W.Frag) (h : X.K = K := by rfl) : CallR X (.builtin "len") (rLenQ K) := h ▸ call_len_seq
theorem listQ (K : PySem.W.Frag) (h : X.K = K := by rfl) : CallR X (.type "list") (rListQ K) := h ▸ call_list_of
theorem tupQ (K : PySem.W.Frag) (h : X.K = K := by rfl) : CallR X (.type "tuple") (rTupQ K) := h ▸ call_tuple_of
theorem isiK (K : PySem.W.Frag) (h : X.K = K := by rfl) : CallR X (.builtin "isinstance") (rIsi K) := h ▸ call_isi
theorem isiTK (K : PySem.W.Frag) (h : X.K = K := by rfl) : CallR X (.builtin "isinstance") (rIsiT K) := h ▸ call_isiT
theorem sumK (K : PySem.W.Frag) (hc : X.calm = true) (h : X.K = K := by rfl) : CallR X (.builtin "sum") (rSum K) := h ▸ cr_sum hc
theorem maxK (K : PySem.W.Frag) (hc : X.calm = true) (h : X.K = K := by rfl) : CallR X (.builtin "max") (rMax K) := h ▸ cr_max hc
theorem minK (K : PySem.W.Frag) (hc : X.calm = true) (h : X.K = K := by rfl) : CallR X (.builtin "min") (rMin K) := h ▸ cr_min hc
theorem slL (K : PySem.W.Frag) (h : X.K = K := by rfl) : SlR X (rSlL K) := h ▸ sl_list
theorem slT (K : PySem.W.Frag) (h : X.K = K := by rfl) : SlR X (rSlT K) := h ▸ sl_tup
theorem pe_fldK (K : PySem.W.Frag) {e : Expr} {ta : TE} {f : Str} {pos : Pos} (he : PE X e ta) (hb : attributeBase e f X.env (eval e X.env) = eval e X.env) (h : X.K = K := by rfl) : PE X (.Attribute e f pos) (tFld K ta f) := h ▸ pe_fld he hb
theorem pt_truthK (K : PySem.W.Frag) {a : Expr} {ta : TE} (ha : PE X a ta) (he : ∀ whole, isTrue a X.env whole = (do let v ← whole; standAt a.pos; holding [v] (truthy v))) (h : X.K = K := by rfl) : PT X a (tTru K ta) := h ▸ pt_truth ha he
theorem pg_tupK (K : PySem.W.Frag) {es : List Expr} {k : Nat} {t : TGs} {n : Nat} {pos : Pos} (hc : X.calm = true) (hl : PGs X es t) (hn : (assignEach es X.env).length = n := by rfl) (hst : (assignEach es X.env).findIdx? (·.1) = none := by rfl) (h : X.K = K := by rfl) : PG X (.Tuple es k pos) (gTup K n t) := by
  subst h
  exact pg_tup hc hl hn hst
end
/-! ### further values -/
section
variable {K : PySem.W.Frag} {σ : L2.St} {H H' : Hp} {ta tb te tx : TE} {t u : TT} {x y z v : V} {r : R2}
theorem rv_pow {i j : Int} (h : CPow i j) : RV (rI CPow fun i j => .int (i ^ j.toNat)) (.int i) (.int j) H (.int (i ^ j.toNat)) := rv_I h
theorem rv_str {i j : Str} (h : i.length + j.length ≤ sizeLine) : RV (fun x y H Q => ∃ i j, x = .str i ∧ y = .str j ∧ i.length + j.length ≤ sizeLine ∧ Q (.str (i ++ j)) H) (.str i) (.str j) H (.str (i ++ j)) := fun H1 _ _ q => ⟨i, j, rfl, rfl, h, q H1 (Ex.refl H1)⟩
theorem rc_abs {i : Int} : RC (fun xs H Q => ∃ i, xs = [.int i] ∧ Q (.int (if i < 0 then -i else i)) H) [.int i] H (.int (if i < 0 then -i else i)) := fun H1 _ _ q => ⟨i, rfl, q H1 (Ex.refl H1)⟩
theorem rc_int {i : Int} : RC (fun xs H Q => (∃ i, xs = [.int i] ∧ Q (.int i) H) ∨ ∃ k, xs = [.bl k] ∧ Q (.int (if k then 1 else 0)) H) [.int i] H (.int i) := fun H1 _ _ q => .inl ⟨i, rfl, q H1 (Ex.refl H1)⟩
theorem rc_intb {k : Bool} : RC (fun xs H Q => (∃ i, xs = [.int i] ∧ Q (.int i) H) ∨ ∃ k, xs = [.bl k] ∧ Q (.int (if k then 1 else 0)) H) [.bl k] H (.int (if k then 1 else 0)) := fun H1 _ _ q => .inr ⟨k, rfl, q H1 (Ex.refl H1)⟩
theorem rc_max2 {i j : Int} : RC (fun xs H Q => ∃ i j, xs = [.int i, .int j] ∧ Q (.int (if j > i then j else i)) H) [.int i, .int j] H (.int (if j > i then j else i)) := fun H1 _ _ q => ⟨i, j, rfl, q H1 (Ex.refl H1)⟩
theorem rc_min2 {i j : Int} : RC (fun xs H Q => ∃ i j, xs = [.int i, .int j] ∧ Q (.int (if j < i then j else i)) H) [.int i, .int j] H (.int (if j < i then j else i)) := fun H1 _ _ q => ⟨i, j, rfl, q H1 (Ex.refl H1)⟩
theorem rc_lenL {p : Addr} {ys : List V} (h : SqL K H p ys) : RC (rLenQ K) [.ref p] H (.int ys.length) := fun H1 e _ q => ⟨p, ys, rfl, .inl (ex_l e h), q H1 (Ex.refl H1)⟩
theorem rc_lenT {p : Addr} {ys : List V} (h : SqT K H p ys) : RC (rLenQ K) [.ref p] H (.int ys.length) := fun H1 e _ q => ⟨p, ys, rfl, .inr (ex_t e h), q H1 (Ex.refl H1)⟩
theorem rc_isi {x c : V} {t u : Value} {b : Bool} (hc : ClsV c u) (ht : ∀ H1, Ex H H1 → TyX K H1 x t) (hk : PySem.W.kitOne K t u = some b) : RC (rIsi K) [x, c] H (.bl b) := fun H1 e _ q => ⟨x, c, t, u, b, rfl, hc, ht H1 e, hk, q H1 (Ex.refl H1)⟩
end
end My

namespace My
open PySem PySem.Spec PyProof.Rows L2 Evl
/-! ### data -/
section
variable {K : PySem.W.Frag} {H H' : Hp}
mutual
theorem dp_ex (e : Ex H H') : ∀ {v : V} {d : PyData}, Dp K H v d → Dp K H' v d
  | _, _, .non => .non
  | _, _, .bl b => .bl b
  | _, _, .int i => .int i
  | _, _, .str x => .str x
  | _, _, .lst h t => .lst (ex_l e h) (dpa_ex e t)
  | _, _, .tup h t => .tup (ex_t e h) (dpa_ex e t)
theorem dpa_ex (e : Ex H H') : ∀ {vs : List V} {ds : List PyData}, DpAll K H vs ds → DpAll K H' vs ds
  | _, _, .nil => .nil
  | _, _, .cons h t => .cons (dp_ex e h) (dpa_ex e t)
end
theorem dpa_len : ∀ {vs : List V} {ds : List PyData}, DpAll K H vs ds → vs.length = ds.length
  | _, _, .nil => rfl
  | _, _, .cons _ t => congrArg Nat.succ (dpa_len t)
theorem dpa_at : ∀ {vs : List V} {ds : List PyData} {i : Nat}, DpAll K H vs ds → (h : i < ds.length) → ∃ v, vs[i]? = some v ∧ Dp K H v ds[i]
  | _, _, 0, .cons h _, _ => ⟨_, rfl, h⟩
  | _, _, i + 1, .cons _ t, l => by
    obtain ⟨v, e, q⟩ := dpa_at (i := i) t (Nat.lt_of_succ_lt_succ l)
    exact ⟨v, e, q⟩
theorem dpa_app : ∀ {vs ws : List V} {ds es : List PyData}, DpAll K H vs ds → DpAll K H ws es → DpAll K H (vs ++ ws) (ds ++ es)
  | _, _, _, _, .nil, h => h
  | _, _, _, _, .cons a t, h => .cons a (dpa_app t h)
theorem dpa_ints : ∀ ns : List Int, DpAll K H (ns.map V.int) (ns.map PyData.int)
  | [] => .nil
  | n :: r => .cons (.int n) (dpa_ints r)
/-- nested at most so deep, no dict, no list over 40,000 items -/
def Dn : Nat → PyData → Prop
  | _, .none => True
  | _, .bool _ => True
  | _, .int _ => True
  | _, .str _ => True
  | n + 1, .list ds => ds.length ≤ 40000 ∧ ∀ d ∈ ds, Dn n d
  | n + 1, .tuple ds => ds.length ≤ 40000 ∧ ∀ d ∈ ds, Dn n d
  | _, _ => False
theorem Dn.up : ∀ {n : Nat} {d : PyData}, Dn n d → Dn (n + 1) d
  | _, .none, _ => by simp [Dn]
  | _, .bool _, _ => by simp [Dn]
  | _, .int _, _ => by simp [Dn]
  | _, .str _, _ => by simp [Dn]
  | 0, .list _, h => by simp [Dn] at h
  | 0, .tuple _, h => by simp [Dn] at h
  | n + 1, .list ds, h => by
    simp only [Dn] at h ⊢
    exact ⟨h.1, fun d hd => Dn.up (h.2 d hd)⟩
  | n + 1, .tuple ds, h => by
    simp only [Dn] at h ⊢
    exact ⟨h.1, fun d hd => Dn.up (h.2 d hd)⟩
  | 0, .dict _, h => by simp [Dn] at h
  | n + 1, .dict _, h => by simp [Dn] at h
theorem Dn.le {n m : Nat} {d : PyData} (h : Dn n d) (l : n ≤ m) : Dn m d := by
  induction l with
  | refl => exact h
  | step _ ih => exact ih.up
theorem dn_ints {ns : List Int} (h : ns.length ≤ 40000) : Dn 1 (.list (ns.map PyData.int)) := by
  simp only [Dn, List.length_map]
  refine ⟨h, fun d hd => ?_⟩
  obtain ⟨n, _, rfl⟩ := List.mem_map.mp hd
  simp [Dn]
/-! ### types -/
def tyN : PyData → String
  | .none => "NoneType"
  | .bool _ => "bool"
  | .int _ => "int"
  | .str _ => "str"
  | .list _ => "list"
  | .tuple _ => "tuple"
  | .dict _ => "dict"
theorem ty_l {a : Addr} {xs : List V} (h : SqL K H a xs) : TyX K H (.ref a) (.type "list") := by
  rcases h with (h | ⟨o, h⟩) | ⟨o, its, n, h1, h2, _⟩
  · exact .base (.lst h)
  · exact .base (.frz h)
  · exact .kList h1 h2
theorem ty_t {a : Addr} {xs : List V} (h : SqT K H a xs) : TyX K H (.ref a) (.type "tuple") := by
  rcases h with (h | ⟨o, h⟩) | ⟨o, its, n, h1, h2, _⟩
  · exact .base (.tup h)
  · exact .fTuple h
  · exact .kTuple h1 h2
theorem dp_ty {v : V} {d : PyData} (h : Dp K H v d) : TyX K H v (.type (tyN d)) := by
  cases h with
  | non => exact .base .non
  | bl b => exact .base (.bl b)
  | int i => exact .base (.int i)
  | str x => exact .base (.str x)
  | lst h _ => exact ty_l h
  | tup h _ => exact ty_t h
def isB (c t : String) : Bool := kitB t c == some true
/-- the classes that laws ask for -/
def askL : List String := ["int", "bool", "str", "list", "tuple"]
def askd (c : String) : Bool := askL.contains c
theorem kitB_all : ∀ t ∈ ["NoneType", "bool", "int", "str", "list", "tuple"], ∀ c ∈ askL, kitB t c = some (isB c t) := by decide +kernel
theorem kit_all {d : PyData} {v : V} (h : Dp K H v d) {c : String} (hc : askd c = true) : PySem.W.kitOne K (.type (tyN d)) (.type c) = some (isB c (tyN d)) := by
  have hm : c ∈ askL := by
    have h2 : askL.contains c = true := hc
    simpa using h2
  have ht : tyN d ∈ ["NoneType", "bool", "int", "str", "list", "tuple"] := by cases h <;> simp [tyN]
  exact kitB_all _ ht c hm
end
section
variable {K : PySem.W.Frag} {σ : L2.St} {H H' : Hp} {ta tb te tx : TE} {t u : TT} {x y z v : V} {d d2 : PyData}
theorem ev_isiD {c : String} (hx : Ev tx σ H v) (h : Dp K H v d) (hc : askd c = true) : Ev (tCB (rIsi K) (tCons tx (tCons (tC (.ty c)) tNil))) σ H (.bl (isB c (tyN d))) := fun H1 e Q q =>
  hx H1 e _ fun H2 e2 => ⟨v, .ty c, _, _, _, rfl, .ty c, dp_ty (dp_ex (e.trans e2) h), kit_all h hc, q H2 e2⟩
theorem ev_isiD2 {c1 c2 : String} (hx : Ev tx σ H v) (h : Dp K H v d) (h1 : askd c1 = true) (h2 : askd c2 = true) :
    Ev (tCB (rIsiT K) (tCons tx (tCons (tTup (tCons (tC (.ty c1)) (tCons (tC (.ty c2)) tNil))) tNil))) σ H (.bl (isB c1 (tyN d) || isB c2 (tyN d))) := fun H1 e Q q =>
  hx H1 e _ fun H2 e2 => ⟨by show 2 ≤ sizeLine; decide, fun p hp =>
    ⟨v, p, [.ty c1, .ty c2], .type (tyN d), [.type c1, .type c2], _, rfl, upd_same, .cons (.ty c1) (.cons (.ty c2) .nil), dp_ty (dp_ex ((e.trans e2).trans (Ex.new hp)) h), by
      refine kitAny_cons (b := isB c1 (tyN d)) (kit_all h h1) (fun e1 => ?_) (fun e1 => by rw [e1] <;> rfl)
      refine kitAny_cons (b := isB c2 (tyN d)) (kit_all h h2) (fun e2 => ?_) (fun e2 => by rw [e1, e2] <;> rfl)
      rw [e1, e2]
      exact kitAny_nil, q _ (e2.trans (Ex.new hp))⟩⟩
end
end My
namespace My
open PySem PySem.Spec PyProof.Rows L2 Evl
theorem FunD.same {K : PySem.W.Frag} {x qual : Str} {params : Arguments} {body : List Stmt} {scope : Scope} {dvs : List V} {kws : List (Str × V)} {f : Addr} {fd fd2 : FuncData} (F : FunD K x qual params body scope dvs kws f fd) (F2 : FunD K x qual params body scope dvs kws f fd2) : fd = fd2 := by
  obtain ⟨_, _, _, _, _, _, _, _, _, _, _, l1, _⟩ := F.ex
  obtain ⟨_, _, _, _, _, _, _, _, _, _, _, l2, _⟩ := F2.ex
  have e := l1.symm.trans l2
  injection e with e
  injection e with _ _ e _
  injection e
def spLaw (K : PySem.W.Frag) : Sp := fun vs H Q _ => ∃ (a : Addr) (ns : List Int), vs = [.ref a] ∧ SqL K H a (ns.map V.int) ∧ ns.length ≤ 63 ∧ ∀ H', Q (.bl true) H'
end My

namespace My
open PySem PySem.Spec PyProof.Rows L2 Evl
section
variable {K : PySem.W.Frag} {σ : L2.St} {H H' : Hp} {ta tb te tx : TE} {t u : TT} {x y z v : V} {D : Ends} {tu tw tz : TS} {g : TG}
/-- for over range(n), any n; a word B for a break -/
theorem q_forR1' {ta : TA} {j : Nat} {n : Int} (h : EvA ta σ H [.int n]) (hn : -(2 ^ 62) ≤ n ∧ n < 2 ^ 62) (Pv : Nat → L2.St → Hp → Prop) (B : L2.St → Hp → Prop) (h0 : ∀ H1, Ex H H1 → Pv 0 σ H1)
    (hs : ∀ (i : Nat) σ' H', (i : Int) < n → Pv i σ' H' → tu { D with nx := Pv (i + 1), ct := Pv (i + 1), bk := B } (σ'.set j (some (.int (i : Int)))) H') (hd : ∀ σ' H', Pv n.toNat σ' H' → B σ' H')
    (hb : ∀ σ' H', B σ' H' → tz D σ' H') : tCut (tFor (iRng1 ta) (gName j) tu) tz D σ H :=
  ⟨B, h H (Ex.refl H) _ fun H1 e => ⟨n, rfl, hn.1, hn.2, for_range (lo := 0) (n := n.toNat) Pv (h0 H1 e) (fun i σ' H' hi p => by
    have e0 : (0 : Int) + (i : Int) = (i : Int) := Int.zero_add _
    show tu { D with nx := Pv (i + 1), ct := Pv (i + 1), bk := B } (σ'.set j (some (.int ((0 : Int) + (i : Int))))) H'
    rw [e0]
    exact hs i σ' H' (by omega) p) hd⟩, hb⟩
theorem q_forR2' {ta : TA} {j : Nat} {lo n : Int} (h : EvA ta σ H [.int lo, .int n]) (hn : -(2 ^ 62) ≤ lo ∧ lo < 2 ^ 62 ∧ -(2 ^ 62) ≤ n ∧ n < 2 ^ 62) (Pv : Nat → L2.St → Hp → Prop) (B : L2.St → Hp → Prop) (h0 : ∀ H1, Ex H H1 → Pv 0 σ H1)
    (hs : ∀ (i : Nat) σ' H', lo + (i : Int) < n → Pv i σ' H' → tu { D with nx := Pv (i + 1), ct := Pv (i + 1), bk := B } (σ'.set j (some (.int (lo + (i : Int))))) H') (hd : ∀ σ' H', Pv (n - lo).toNat σ' H' → B σ' H')
    (hb : ∀ σ' H', B σ' H' → tz D σ' H') : tCut (tFor (iRng2 ta) (gName j) tu) tz D σ H :=
  ⟨B, h H (Ex.refl H) _ fun H1 e => ⟨lo, n, rfl, hn, for_range (lo := lo) (n := (n - lo).toNat) Pv (h0 H1 e) (fun i σ' H' hi p => hs i σ' H' (by omega) p) hd⟩, hb⟩
end
end My

namespace My
open PySem PySem.Spec PyProof.Rows L2 Evl
theorem isB_tab : isB "int" "NoneType" = false ∧ isB "bool" "NoneType" = false ∧ isB "str" "NoneType" = false ∧ isB "list" "NoneType" = false ∧ isB "tuple" "NoneType" = false ∧ isB "int" "bool" = true ∧ isB "bool" "bool" = true ∧ isB "str" "bool" = false ∧ isB "list" "bool" = false ∧ isB "tuple" "bool" = false ∧ isB "int" "int" = true ∧ isB "bool" "int" = false ∧ isB "str" "int" = false ∧ isB "list" "int" = false ∧ isB "tuple" "int" = false ∧ isB "int" "str" = false ∧ isB "bool" "str" = false ∧ isB "str" "str" = true ∧ isB "list" "str" = false ∧ isB "tuple" "str" = false ∧ isB "int" "list" = false ∧ isB "bool" "list" = false ∧ isB "str" "list" = false ∧ isB "list" "list" = true ∧ isB "tuple" "list" = false ∧ isB "int" "tuple" = false ∧ isB "bool" "tuple" = false ∧ isB "str" "tuple" = false ∧ isB "list" "tuple" = false ∧ isB "tuple" "tuple" = true := by decide +kernel
section
variable {K : PySem.W.Frag} {σ : L2.St} {H H' : Hp} {ta tb te tx : TE} {t u : TT} {x y z v : V} {D : Ends} {tu tw tz : TS} {g : TG}
theorem ev_isN (h : Ev ta σ H x) : Ev (tIsN ta) σ H (.bl (decide (x = .non))) := fun H1 e Q q => h H1 e _ fun H2 e2 => q H2 e2
theorem ev_notN (h : Ev ta σ H x) : Ev (tNotN ta) σ H (.bl (!decide (x = .non))) := fun H1 e Q q => h H1 e _ fun H2 e2 => q H2 e2
end
end My

namespace My
open PySem PySem.Spec PyProof.Rows L2 Evl
section
variable {K : PySem.W.Frag} {σ : L2.St} {H H' : Hp} {ta tb te tx : TE} {t u : TT} {x y z v : V} {D : Ends} {tu tw tz : TS} {g : TG}
theorem ev_lenN' {xs : List V} (ha : EvL ta σ H xs) : Ev (tCB (rLenQ K) (tCons ta tNil)) σ H (.int (xs.length : Int)) := fun H1 e Q q =>
  ha H1 e _ fun p H2 _ e2 h2 => ⟨p, xs, rfl, Or.inl (sq_of h2), q H2 e2⟩
theorem rv_ixQL {p : Addr} {xs : List V} {i : Int} (h : SqL K H p xs) (ha : atI xs i = some v) : RV (rIx K) (.ref p) (.int i) H v := fun H1 e _ q => .inl ⟨p, xs, i, v, rfl, rfl, ex_l e h, ha, q H1 (Ex.refl H1)⟩
theorem rv_ixQT {p : Addr} {xs : List V} {i : Int} (h : SqT K H p xs) (ha : atI xs i = some v) : RV (rIx K) (.ref p) (.int i) H v := fun H1 e _ q => .inr (.inl ⟨p, xs, i, v, rfl, rfl, ex_t e h, ha, q H1 (Ex.refl H1)⟩)
/-- a list or a tuple, by its kind -/
def SqB (K : PySem.W.Frag) (H : Hp) (b : Bool) (a : Addr) (xs : List V) : Prop := if b = true then SqL K H a xs else SqT K H a xs
theorem SqB.ex {b : Bool} {a : Addr} {xs : List V} (e : Ex H H') (h : SqB K H b a xs) : SqB K H' b a xs := by
  cases b with
  | true => exact ex_l e h
  | false => exact ex_t e h
theorem rv_ixB {b : Bool} {p : Addr} {xs : List V} {i : Int} (h : SqB K H b p xs) (ha : atI xs i = some v) : RV (rIx K) (.ref p) (.int i) H v := by
  cases b with
  | true => exact rv_ixQL h ha
  | false => exact rv_ixQT h ha
theorem rc_lenB {b : Bool} {p : Addr} {ys : List V} (h : SqB K H b p ys) : RC (rLenQ K) [.ref p] H (.int ys.length) := by
  cases b with
  | true => exact rc_lenL h
  | false => exact rc_lenT h
end
theorem given_none {n : Nat} {f : Nat → Bool} {v : Nat → V} : (given n f v).length = 0 ↔ ∀ i, i < n → f i = false := by
  unfold given
  rw [List.length_map, List.length_eq_zero_iff, List.filter_eq_nil_iff]
  constructor
  · intro h i hi
    have := h i (List.mem_range.mpr hi)
    simpa using this
  · intro h i hi
    rw [h i (List.mem_range.mp hi)]
    exact Bool.false_ne_true
/-- the sequences of one kind -/
def seqD (b : Bool) (ds : List PyData) : PyData := if b = true then .list ds else .tuple ds
theorem seqD_inj {b : Bool} {ds es : List PyData} : seqD b ds = seqD b es ↔ ds = es := by
  cases b <;> simp [seqD]
theorem dp_seq {K : PySem.W.Frag} {H : Hp} {b : Bool} {v : V} {ds : List PyData} (h : Dp K H v (seqD b ds)) : ∃ a xs, v = .ref a ∧ SqB K H b a xs ∧ DpAll K H xs ds := by
  cases b with
  | true =>
    cases h with
    | lst h t => exact ⟨_, _, rfl, h, t⟩
  | false =>
    cases h with
    | tup h t => exact ⟨_, _, rfl, h, t⟩
theorem dn_seq {n : Nat} {b : Bool} {ds : List PyData} (h : Dn n (seqD b ds)) : ∃ m, n = m + 1 ∧ ds.length ≤ 40000 ∧ ∀ d ∈ ds, Dn m d := by
  cases n with
  | zero => cases b <;> simp [Dn, seqD] at h
  | succ m => cases b <;> (simp [Dn, seqD] at h; exact ⟨m, rfl, h⟩)
end My

namespace My
open PySem PySem.Spec PyProof.Rows L2 Evl
/-! ### expressions whose values are data -/
section
variable {K : PySem.W.Frag}
def EvD (K : PySem.W.Frag) (te : TE) (σ : L2.St) (H : Hp) (d : PyData) : Prop := ∀ H1, Ex H H1 → ∀ Q : VK, (∀ v H2, Ex H1 H2 → Dp K H2 v d → Q v H2) → te σ H1 Q
def EvDs (K : PySem.W.Frag) (ta : TA) (σ : L2.St) (H : Hp) (ds : List PyData) : Prop := ∀ H1, Ex H H1 → ∀ Q : List V → Hp → Prop, (∀ vs H2, Ex H1 H2 → DpAll K H2 vs ds → Q vs H2) → ta σ H1 Q
/-- what a call hands back is data d, all else as it was -/
def RetD (K : PySem.W.Frag) (d : PyData) (H : Hp) (Q : VK) : Prop := ∀ v H2, Ex H H2 → Dp K H2 v d → Q v H2
/-- a call over data -/
def SpD (K : PySem.W.Frag) (sp : Sp) (ds : List PyData) (d : PyData) : Prop := ∀ vs H1, DpAll K H1 vs ds → ∀ Q : VK, RetD K d H1 Q → ∀ E : XK, sp vs H1 Q E
/-- a def that is a function of data -/
def spFn (K : PySem.W.Frag) (pre : List PyData → Prop) (f : List PyData → PyData) : Sp := fun vs H Q _ => ∃ ds, DpAll K H vs ds ∧ pre ds ∧ RetD K (f ds) H Q
/-- .. of which only a relation is told -/
def spRel (K : PySem.W.Frag) (pre : List PyData → Prop) (R : List PyData → PyData → Prop) : Sp := fun vs H Q _ => ∃ ds, DpAll K H vs ds ∧ pre ds ∧ ∀ d, R ds d → RetD K d H Q
theorem spFn_D {pre : List PyData → Prop} {f : List PyData → PyData} {ds : List PyData} (h : pre ds) : SpD K (spFn K pre f) ds (f ds) := fun vs H1 hv Q q E => ⟨ds, hv, h, q⟩
theorem RetD.go {d : PyData} {H H1 : Hp} {Q : VK} (k : RetD K d H Q) (e : Ex H H1) : RetD K d H1 Q := fun v H2 e2 h => k v H2 (e.trans e2) h
variable {σ : L2.St} {H H' : Hp} {ta tb te tx : TE} {t u : TT} {x y z v : V} {D : Ends} {tu tw tz : TS} {g : TG} {d e : PyData} {ds es : List PyData} {i j : Int} {b : Bool}
theorem EvD.mono (e : Ex H H') (h : EvD K te σ H d) : EvD K te σ H' d := fun H1 a Q q => h H1 (e.trans a) Q q
theorem dp_int (h : Dp K H v (.int i)) : v = .int i := by cases h; rfl
theorem dp_str {s : Str} (h : Dp K H v (.str s)) : v = .str s := by cases h; rfl
theorem dp_bool (h : Dp K H v (.bool b)) : v = .bl b := by cases h; rfl
theorem dp_none (h : Dp K H v .none) : v = .non := by cases h; rfl
theorem dp_list (h : Dp K H v (.list ds)) : ∃ a xs, v = .ref a ∧ SqL K H a xs ∧ DpAll K H xs ds := by
  cases h with
  | lst h t => exact ⟨_, _, rfl, h, t⟩
theorem dp_tup (h : Dp K H v (.tuple ds)) : ∃ a xs, v = .ref a ∧ SqT K H a xs ∧ DpAll K H xs ds := by
  cases h with
  | tup h t => exact ⟨_, _, rfl, h, t⟩
/-- a value that is data at H stays so -/
theorem evd_of (h : Ev te σ H v) (hd : Dp K H v d) : EvD K te σ H d := fun H1 e Q q => h H1 e Q fun H2 e2 => q v H2 e2 (dp_ex (e.trans e2) hd)
theorem evd_i (h : Ev te σ H (.int i)) : EvD K te σ H (.int i) := evd_of h (.int i)
theorem evd_b (h : Ev te σ H (.bl b)) : EvD K te σ H (.bool b) := evd_of h (.bl b)
theorem evd_s {s : Str} (h : Ev te σ H (.str s)) : EvD K te σ H (.str s) := evd_of h (.str s)
theorem evd_n (h : Ev te σ H .non) : EvD K te σ H .none := evd_of h .non
theorem EvD.toI (h : EvD K te σ H (.int i)) : Ev te σ H (.int i) := fun H1 e Q q => h H1 e Q fun v H2 e2 hd => dp_int hd ▸ q H2 e2
theorem EvD.toB (h : EvD K te σ H (.bool b)) : Ev te σ H (.bl b) := fun H1 e Q q => h H1 e Q fun v H2 e2 hd => dp_bool hd ▸ q H2 e2
theorem EvD.toS {s : Str} (h : EvD K te σ H (.str s)) : Ev te σ H (.str s) := fun H1 e Q q => h H1 e Q fun v H2 e2 hd => dp_str hd ▸ q H2 e2
theorem evd_var {n : Nat} (h : σ[n]? = some (some v)) (hd : Dp K H v d) : EvD K (tVar n) σ H d := evd_of (ev_var h) hd
theorem evd_int : EvD K (tC (.int i)) σ H (.int i) := evd_i ev_c
theorem evd_str {s : Str} : EvD K (tC (.str s)) σ H (.str s) := evd_s ev_c
theorem evd_bl : EvD K (tC (.bl b)) σ H (.bool b) := evd_b ev_c
theorem evd_non : EvD K (tC .non) σ H .none := evd_n ev_c
theorem evds_nil : EvDs K tNil σ H [] := fun H1 _ Q q => q [] H1 (Ex.refl H1) .nil
theorem evds_cons {tr : TA} (h : EvD K te σ H d) (hr : EvDs K tr σ H ds) : EvDs K (tCons te tr) σ H (d :: ds) := fun H1 e Q q =>
  h H1 e _ fun v H2 e2 hv => hr H2 (e.trans e2) _ fun vs H3 e3 hvs => q _ H3 (e2.trans e3) (.cons (dp_ex e3 hv) hvs)
theorem evd_call {sp : Sp} {E : XK} {ta : TA} (h : EvDs K ta σ H ds) (hs : SpD K sp ds d) : EvD K (tCall sp [] E ta) σ H d := fun H1 e Q q =>
  h H1 e _ fun vs H2 e2 hv => by
    rw [List.append_nil]
    exact hs vs H2 hv Q (fun v H3 e3 h3 => q v H3 (e2.trans e3) h3) E
theorem evd_tup {ta : TA} (h : EvDs K ta σ H ds) (hl : ds.length ≤ 100000) : EvD K (tTup ta) σ H (.tuple ds) := fun H1 e Q q =>
  h H1 e _ fun vs H2 e2 hv => ⟨by rw [dpa_len hv]; exact sz_of hl, fun p hp => q _ _ (e2.trans (Ex.new hp)) (.tup (st_of upd_same) (dpa_ex (Ex.new hp) hv))⟩
theorem evd_lst {ta : TA} (h : EvDs K ta σ H ds) (hl : ds.length ≤ 100000) : EvD K (tLst ta) σ H (.list ds) := fun H1 e Q q =>
  h H1 e _ fun vs H2 e2 hv => ⟨by rw [dpa_len hv]; exact sz_of hl, fun p hp => q _ _ (e2.trans (Ex.new hp)) (.lst (sq_of upd_same) (dpa_ex (Ex.new hp) hv))⟩
/-- the item at an int place -/
theorem dpa_atI {vs : List V} (h : DpAll K H vs ds) (ha : atI ds i = some d) : ∃ v, atI vs i = some v ∧ Dp K H v d := by
  obtain ⟨n, hn, hd⟩ := Option.bind_eq_some_iff.mp (show (ixN ds.length i).bind (fun j => ds[j]?) = some d from ha)
  obtain ⟨hlt, he⟩ := List.getElem?_eq_some_iff.mp hd
  obtain ⟨v, hv, hp⟩ := dpa_at h hlt
  refine ⟨v, ?_, he ▸ hp⟩
  show (ixN vs.length i).bind (fun j => vs[j]?) = some v
  rw [dpa_len h, hn]
  exact hv
theorem evd_ixL (ha : EvD K ta σ H (.list ds)) (hb : Ev tb σ H (.int i)) (h : atI ds i = some d) : EvD K (tOp (rIxL K) ta tb) σ H d := fun H1 e Q q =>
  ha H1 e _ fun v H2 e2 hv => hb H2 (e.trans e2) _ fun H3 e3 => by
    obtain ⟨a, xs, rfl, hs, hx⟩ := dp_list hv
    obtain ⟨w, hw, hp⟩ := dpa_atI hx h
    exact ⟨a, xs, i, w, rfl, rfl, ex_l e3 hs, hw, q w H3 (e2.trans e3) (dp_ex e3 hp)⟩
theorem evd_ixT (ha : EvD K ta σ H (.tuple ds)) (hb : Ev tb σ H (.int i)) (h : atI ds i = some d) : EvD K (tOp (rIxT K) ta tb) σ H d := fun H1 e Q q =>
  ha H1 e _ fun v H2 e2 hv => hb H2 (e.trans e2) _ fun H3 e3 => by
    obtain ⟨a, xs, rfl, hs, hx⟩ := dp_tup hv
    obtain ⟨w, hw, hp⟩ := dpa_atI hx h
    exact ⟨a, xs, i, w, rfl, rfl, ex_t e3 hs, hw, q w H3 (e2.trans e3) (dp_ex e3 hp)⟩
theorem ev_lenD (ha : EvD K ta σ H (.list ds)) : Ev (tCB (rLenQ K) (tCons ta tNil)) σ H (.int (ds.length : Int)) := fun H1 e Q q =>
  ha H1 e _ fun v H2 e2 hv => by
    obtain ⟨a, xs, rfl, hs, hx⟩ := dp_list hv
    refine ⟨a, xs, rfl, .inl hs, ?_⟩
    rw [dpa_len hx]
    exact q H2 e2
theorem ev_lenDT (ha : EvD K ta σ H (.tuple ds)) : Ev (tCB (rLenQ K) (tCons ta tNil)) σ H (.int (ds.length : Int)) := fun H1 e Q q =>
  ha H1 e _ fun v H2 e2 hv => by
    obtain ⟨a, xs, rfl, hs, hx⟩ := dp_tup hv
    refine ⟨a, xs, rfl, .inr hs, ?_⟩
    rw [dpa_len hx]
    exact q H2 e2
theorem dpa_drop : ∀ {vs : List V} {ds : List PyData} (n : Nat), DpAll K H vs ds → DpAll K H (vs.drop n) (ds.drop n)
  | _, _, 0, h => h
  | _, _, _ + 1, .nil => .nil
  | _, _, n + 1, .cons _ t => dpa_drop n t
theorem dpa_take : ∀ {vs : List V} {ds : List PyData} (n : Nat), DpAll K H vs ds → DpAll K H (vs.take n) (ds.take n)
  | _, _, 0, _ => .nil
  | _, _, _ + 1, .nil => .nil
  | _, _, n + 1, .cons h t => .cons h (dpa_take n t)
def cutD (xs : List PyData) (lo hi : Option Int) : List PyData := (xs.drop (HT.sIx xs.length 0 lo)).take (HT.sIx xs.length xs.length hi - HT.sIx xs.length 0 lo)
theorem dpa_cut {vs : List V} {lo hi : Option Int} (h : DpAll K H vs ds) : DpAll K H (cutV vs lo hi) (cutD ds lo hi) := by
  unfold cutV cutD
  rw [dpa_len h]
  exact dpa_take _ (dpa_drop _ h)
theorem evd_slL {tl th : TO} {lo hi : Option Int} (h : EvD K te σ H (.list ds)) (h1 : EvO tl σ H lo) (h2 : EvO th σ H hi) : EvD K (tSl (rSlL K) te tl th) σ H (.list (cutD ds lo hi)) := fun H0 e Q q =>
  h H0 e _ fun v H1 e1 hv => h1 H1 (e.trans e1) _ fun H2 e2 => h2 H2 ((e.trans e1).trans e2) _ fun H3 e3 => by
    obtain ⟨a, xs, rfl, hs, hx⟩ := dp_list hv
    refine ⟨a, xs, rfl, ex_l (e2.trans e3) hs, fun p hp => q _ _ (((e1.trans e2).trans e3).trans (Ex.new hp)) (.lst (sq_of upd_same) ?_)⟩
    exact dpa_ex (Ex.new hp) (dpa_cut (dpa_ex (e2.trans e3) hx))
/-- ==, != of data -/
theorem ev_eqD (ha : EvD K ta σ H d) (hb : EvD K tb σ H e) (sd : SeqAt.shaped d = true) (se : SeqAt.shaped e = true) : Ev (tOp (rEqD K) ta tb) σ H (.bl (PyData.eqv d e)) := fun H1 x Q q =>
  ha H1 x _ fun v H2 e2 hv => hb H2 (x.trans e2) _ fun u H3 e3 hu => ⟨d, e, dp_ex e3 hv, hu, sd, se, q H3 (e2.trans e3)⟩
theorem ev_neD (ha : EvD K ta σ H d) (hb : EvD K tb σ H e) (sd : SeqAt.shaped d = true) (se : SeqAt.shaped e = true) : Ev (tOp (rNeD K) ta tb) σ H (.bl (!PyData.eqv d e)) := fun H1 x Q q =>
  ha H1 x _ fun v H2 e2 hv => hb H2 (x.trans e2) _ fun u H3 e3 hu => ⟨d, e, dp_ex e3 hv, hu, sd, se, q H3 (e2.trans e3)⟩
def isNone : PyData → Bool
  | .none => true
  | _ => false
theorem isNone_iff {d : PyData} : isNone d = true ↔ d = .none := by cases d <;> simp [isNone]
theorem ev_isND (ha : EvD K ta σ H d) : Ev (tIsN ta) σ H (.bl (isNone d)) := fun H1 x Q q =>
  ha H1 x _ fun v H2 e2 hv => by
    have : decide (v = .non) = isNone d := by cases hv <;> simp [isNone]
    rw [this]
    exact q H2 e2
theorem ev_notND (ha : EvD K ta σ H d) : Ev (tNotN ta) σ H (.bl (!isNone d)) := fun H1 x Q q =>
  ha H1 x _ fun v H2 e2 hv => by
    have : decide (v = .non) = isNone d := by cases hv <;> simp [isNone]
    rw [this]
    exact q H2 e2
/-- a new list of data -/
def EvLD (K : PySem.W.Frag) (te : TE) (σ : L2.St) (H : Hp) (ds : List PyData) : Prop := ∀ H1, Ex H H1 → ∀ Q : VK, (∀ p vs H2, H1 p = none → Ex H1 H2 → H2 p = some (.lst vs) → DpAll K H2 vs ds → Q (.ref p) H2) → te σ H1 Q
theorem EvLD.toD (h : EvLD K te σ H ds) : EvD K te σ H (.list ds) := fun H1 e Q q => h H1 e Q fun p vs H2 _ e2 h2 hd => q _ H2 e2 (.lst (sq_of h2) hd)
theorem eld_lst {ta : TA} (h : EvDs K ta σ H ds) (hl : ds.length ≤ 100000) : EvLD K (tLst ta) σ H ds := fun H1 e Q q =>
  h H1 e _ fun vs H2 e2 hv => ⟨by rw [dpa_len hv]; exact sz_of hl, fun p hp => q p vs _ (fresh_back e2 hp) (e2.trans (Ex.new hp)) upd_same (dpa_ex (Ex.new hp) hv)⟩
theorem eld_list (ha : EvD K ta σ H (.list ds)) : EvLD K (tCB (rListQ K) (tCons ta tNil)) σ H ds := fun H1 e Q q =>
  ha H1 e _ fun v H2 e2 hv => by
    obtain ⟨a, xs, rfl, hs, hx⟩ := dp_list hv
    exact ⟨a, xs, rfl, .inl hs, fun l hl => q l xs _ (fresh_back e2 hl) (e2.trans (Ex.new hl)) upd_same (dpa_ex (Ex.new hl) hx)⟩
theorem eld_listT (ha : EvD K ta σ H (.tuple ds)) : EvLD K (tCB (rListQ K) (tCons ta tNil)) σ H ds := fun H1 e Q q =>
  ha H1 e _ fun v H2 e2 hv => by
    obtain ⟨a, xs, rfl, hs, hx⟩ := dp_tup hv
    exact ⟨a, xs, rfl, .inr hs, fun l hl => q l xs _ (fresh_back e2 hl) (e2.trans (Ex.new hl)) upd_same (dpa_ex (Ex.new hl) hx)⟩
theorem eld_sl {tl th : TO} {lo hi : Option Int} (h : EvD K te σ H (.list ds)) (h1 : EvO tl σ H lo) (h2 : EvO th σ H hi) : EvLD K (tSl (rSlL K) te tl th) σ H (cutD ds lo hi) := fun H0 e Q q =>
  h H0 e _ fun v H1 e1 hv => h1 H1 (e.trans e1) _ fun H2 e2 => h2 H2 ((e.trans e1).trans e2) _ fun H3 e3 => by
    obtain ⟨a, xs, rfl, hs, hx⟩ := dp_list hv
    refine ⟨a, xs, rfl, ex_l (e2.trans e3) hs, fun p hp => q p _ _ (fresh_back ((e1.trans e2).trans e3) hp) (((e1.trans e2).trans e3).trans (Ex.new hp)) upd_same ?_⟩
    exact dpa_ex (Ex.new hp) (dpa_cut (dpa_ex (e2.trans e3) hx))
/-! ### statements -/
theorem sd_asg {i : Nat} (h : EvD K te σ H d) (k : ∀ v H1, Ex H H1 → Dp K H1 v d → D.nx (σ.set i (some v)) H1) : tAsg te (gName i) D σ H := h H (Ex.refl H) _ fun v H1 e hv => k v H1 e hv
theorem qd_asg {i : Nat} (h : EvD K te σ H d) (k : ∀ v H1, Ex H H1 → Dp K H1 v d → tz D (σ.set i (some v)) H1) : tSeq (tAsg te (gName i)) tz D σ H := h H (Ex.refl H) _ fun v H1 e hv => k v H1 e hv
theorem sd_ret (h : EvD K te σ H d) (k : RetD K d H D.rt) : tRet te D σ H := h H (Ex.refl H) _ k
theorem sl_asg {i : Nat} (h : EvLD K te σ H ds) (k : ∀ p vs H1, H p = none → Ex H H1 → H1 p = some (.lst vs) → DpAll K H1 vs ds → D.nx (σ.set i (some (.ref p))) H1) : tAsg te (gName i) D σ H := h H (Ex.refl H) _ fun p vs H1 hp e h1 hd => k p vs H1 hp e h1 hd
theorem ql_asg {i : Nat} (h : EvLD K te σ H ds) (k : ∀ p vs H1, H p = none → Ex H H1 → H1 p = some (.lst vs) → DpAll K H1 vs ds → tz D (σ.set i (some (.ref p))) H1) : tSeq (tAsg te (gName i)) tz D σ H := h H (Ex.refl H) _ fun p vs H1 hp e h1 hd => k p vs H1 hp e h1 hd
/-- l.append(e), the list l at H -/
theorem qd_app {l : Addr} {xs : List V} (hl : H l = some (.lst xs)) (ha : Ev ta σ H (.ref l)) (h : EvD K te σ H d) (hz : xs.length < 100000) (k : ∀ v H1, Ex H H1 → Dp K H1 v d → tz D σ (upd H1 l (.lst (xs ++ [v])))) :
    tSeq (tDrop (tBM K "list" rAppend ta (tCons te tNil))) tz D σ H := ha H (Ex.refl H) _ fun H1 e1 =>
  ⟨Or.inl ⟨rfl, xs, sq_of (e1 l _ hl)⟩, h H1 e1 _ fun v H2 e2 hv => ⟨l, xs, v, rfl, rfl, e2 l _ (e1 l _ hl), sz_lt hz, k v H2 (e1.trans e2) hv⟩⟩
theorem sd_app {l : Addr} {xs : List V} (hl : H l = some (.lst xs)) (ha : Ev ta σ H (.ref l)) (h : EvD K te σ H d) (hz : xs.length < 100000) (k : ∀ v H1, Ex H H1 → Dp K H1 v d → D.nx σ (upd H1 l (.lst (xs ++ [v])))) :
    tDrop (tBM K "list" rAppend ta (tCons te tNil)) D σ H := ha H (Ex.refl H) _ fun H1 e1 =>
  ⟨Or.inl ⟨rfl, xs, sq_of (e1 l _ hl)⟩, h H1 e1 _ fun v H2 e2 hv => ⟨l, xs, v, rfl, rfl, e2 l _ (e1 l _ hl), sz_lt hz, k v H2 (e1.trans e2) hv⟩⟩
end
/-- all but the objects at these places is as it was -/
def ExO (L : List Addr) (H H' : Hp) : Prop := ∀ a o, a ∉ L → H a = some o → H' a = some o
theorem ExO.refl (L : List Addr) (H : Hp) : ExO L H H := fun _ _ _ h => h
theorem ExO.trans {L : List Addr} {H H1 H2 : Hp} (a : ExO L H H1) (b : ExO L H1 H2) : ExO L H H2 := fun x o n h => b x o n (a x o n h)
theorem ExO.of {L : List Addr} {H H' : Hp} (e : Ex H H') : ExO L H H' := fun a o _ h => e a o h
theorem ExO.upd {L : List Addr} {H H' : Hp} {p : Addr} {o : HO} (e : ExO L H H') (hp : p ∈ L) : ExO L H (L2.upd H' p o) := fun a u n h => by
  rw [upd_ne (fun z => n (by rw [z]; exact hp))]
  exact e a u n h
/-- what was not there at all may change -/
theorem ExO.ex {L : List Addr} {H0 H H' : Hp} (e0 : Ex H0 H) (e : ExO L H H') (hn : ∀ p ∈ L, H0 p = none) : Ex H0 H' := fun a o h =>
  e a o (fun hm => by rw [hn a hm] at h; cases h) (e0 a o h)
end My

namespace My
open PySem PySem.Spec PyProof.Rows L2 Evl
section
variable {K : PySem.W.Frag} {σ : L2.St} {H H' : Hp} {ta tb te tx : TE} {t u : TT} {x y z v : V} {D : Ends} {tu tw tz : TS} {g : TG} {d e : PyData} {ds es : List PyData} {i j : Int} {b : Bool}
/-- a call whose first argument is a new list -/
theorem ev_callL {sp : Sp} {E : XK} {tr : TA} {xs vs : List V} (h : EvL te σ H xs) (hr : EvA tr σ H vs) (hs : ∀ p H1, Ex H H1 → H1 p = some (.lst xs) → SpV sp (.ref p :: vs) H1 z) : Ev (tCall sp [] E (tCons te tr)) σ H z := fun H1 e Q q =>
  h H1 e _ fun p H2 hp e2 h2 => hr H2 (e.trans e2) _ fun H3 e3 => by
    show sp ((V.ref p :: vs) ++ []) H3 Q E
    rw [List.append_nil]
    exact hs p H3 ((e.trans e2).trans e3) (e3 _ _ h2) H3 (Ex.refl H3) Q (fun H4 e4 => q H4 ((e2.trans e3).trans e4)) E
theorem dpa_strs : ∀ ws : List Str, DpAll K H (ws.map V.str) (ws.map PyData.str)
  | [] => .nil
  | n :: r => .cons (.str n) (dpa_strs r)
theorem dn_strs {ws : List Str} {n : Nat} (h : ws.length ≤ 40000) : Dn (n + 1) (.list (ws.map PyData.str)) := by
  simp only [Dn, List.length_map]
  refine ⟨h, fun d hd => ?_⟩
  obtain ⟨x, _, rfl⟩ := List.mem_map.mp hd
  simp [Dn]
theorem dp_strs {a : Addr} {ws : List Str} (h : SqL K H a (ws.map V.str)) : Dp K H (.ref a) (.list (ws.map PyData.str)) := .lst h (dpa_strs ws)
theorem dp_ints {a : Addr} {ns : List Int} (h : SqL K H a (ns.map V.int)) : Dp K H (.ref a) (.list (ns.map PyData.int)) := .lst h (dpa_ints ns)
theorem q_whenF (h : EvT t σ H false) (k : ∀ H1, Ex H H1 → tz D σ H1) : tSeq (tIfS t tu tNext) tz D σ H := q_when (b := false) h (fun z => nomatch z) fun _ H1 e => k H1 e
theorem s_whenF (h : EvT t σ H false) (k : ∀ H1, Ex H H1 → D.nx σ H1) : tIfS t tu tNext D σ H := s_when (b := false) h (fun z => nomatch z) fun _ H1 e => k H1 e
theorem et_notT (h : EvT t σ H true) : EvT (tNot t) σ H false := et_not h
/-- for over a list that stands, behind it a word B -/
theorem q_forL' {a : Addr} {xs : List V} {tl : TE} (h : Ev tl σ H (.ref a)) (hx : SqL K H a xs) (Pv : Nat → L2.St → Hp → Prop) (B : L2.St → Hp → Prop) (h0 : ∀ H1, Ex H H1 → Pv 0 σ H1) (hl : ∀ i σ' H', i ≤ xs.length → Pv i σ' H' → SqL K H' a xs)
    (hs : ∀ i x σ' H', xs[i]? = some x → Pv i σ' H' → g x σ' H' fun σ2 H2 => tu { D with nx := Pv (i + 1), ct := Pv (i + 1), bk := B } σ2 H2) (hd : ∀ σ' H', Pv xs.length σ' H' → B σ' H')
    (hb : ∀ σ' H', B σ' H' → tz D σ' H') : tCut (tFor (iList K tl) g tu) tz D σ H :=
  ⟨B, h H (Ex.refl H) _ fun H1 e => ⟨a, rfl, ⟨xs, ex_l e hx⟩, for_list Pv (h0 H1 e) hl hs hd⟩, hb⟩
/-- .. over what an expression gives -/
theorem q_forD' {tl : TE} (h : EvD K tl σ H (.list ds)) (Pv : Addr → List V → Nat → L2.St → Hp → Prop) (B : L2.St → Hp → Prop) (h0 : ∀ a vs H1, Ex H H1 → SqL K H1 a vs → DpAll K H1 vs ds → Pv a vs 0 σ H1) (hl : ∀ a vs i σ' H', i ≤ vs.length → Pv a vs i σ' H' → SqL K H' a vs)
    (hs : ∀ a vs i x σ' H', vs[i]? = some x → Pv a vs i σ' H' → g x σ' H' fun σ2 H2 => tu { D with nx := Pv a vs (i + 1), ct := Pv a vs (i + 1), bk := B } σ2 H2) (hd : ∀ a vs σ' H', Pv a vs vs.length σ' H' → B σ' H')
    (hb : ∀ σ' H', B σ' H' → tz D σ' H') : tCut (tFor (iList K tl) g tu) tz D σ H :=
  ⟨B, h H (Ex.refl H) _ fun v H1 e hv => by
    obtain ⟨a, vs, rfl, hs2, hx⟩ := dp_list hv
    exact ⟨a, rfl, ⟨vs, hs2⟩, for_list (Pv a vs) (h0 a vs H1 e hs2 hx) (hl a vs) (hs a vs) (hd a vs)⟩, hb⟩
end
end My
namespace My
open PySem PySem.Spec PyProof.Rows L2 Evl
section
variable {K : PySem.W.Frag} {σ : L2.St} {H H' : Hp} {ta tb te tx ti t1 t2 : TE} {t u : TT} {x y z v : V} {D : Ends} {tu tw tz : TS} {g : TG} {d e : PyData} {ds es : List PyData} {i j : Int} {b : Bool}
/-- one of two new lists, by a place -/
theorem el_two {xs x1 x2 : List V} (h1 : EvL t1 σ H x1) (h2 : EvL t2 σ H x2) (hi : Ev ti σ H (.int i)) (hc : (i = 0 ∧ xs = x1) ∨ (i = 1 ∧ xs = x2)) : EvL (tOp (rIxL K) (tLst (tCons t1 (tCons t2 tNil))) ti) σ H xs := fun H1 e Q q =>
  h1 H1 e _ fun p1 H2 n1 e2 l1 => h2 H2 (e.trans e2) _ fun p2 H3 n2 e3 l2 => ⟨by show 2 ≤ sizeLine; decide, fun p hp => by
    have E3 := (e2.trans e3).trans (Ex.new (o := .lst [.ref p1, .ref p2]) hp)
    refine hi _ (e.trans E3) _ fun H4 e4 => ?_
    have a1 : H4 p1 = some (.lst x1) := e4 _ _ ((Ex.new hp) _ _ (e3 _ _ l1))
    have a2 : H4 p2 = some (.lst x2) := e4 _ _ ((Ex.new hp) _ _ l2)
    rcases hc with ⟨rfl, rfl⟩ | ⟨rfl, rfl⟩
    · exact ⟨p, [.ref p1, .ref p2], 0, .ref p1, rfl, rfl, sq_of (e4 _ _ upd_same), rfl, q p1 H4 n1 (E3.trans e4) a1⟩
    · exact ⟨p, [.ref p1, .ref p2], 1, .ref p2, rfl, rfl, sq_of (e4 _ _ upd_same), rfl, q p2 H4 (fresh_back e2 n2) (E3.trans e4) a2⟩⟩
theorem q_forNL' {xs : List V} {tl : TE} (h : EvL tl σ H xs) (Pv : Addr → Nat → L2.St → Hp → Prop) (B : L2.St → Hp → Prop) (h0 : ∀ p H1, H p = none → Ex H H1 → H1 p = some (.lst xs) → Pv p 0 σ H1) (hl : ∀ p i σ' H', i ≤ xs.length → Pv p i σ' H' → SqL K H' p xs)
    (hs : ∀ p i x σ' H', xs[i]? = some x → Pv p i σ' H' → g x σ' H' fun σ2 H2 => tu { D with nx := Pv p (i + 1), ct := Pv p (i + 1), bk := B } σ2 H2) (hd : ∀ p σ' H', Pv p xs.length σ' H' → B σ' H')
    (hb : ∀ σ' H', B σ' H' → tz D σ' H') : tCut (tFor (iList K tl) g tu) tz D σ H :=
  ⟨B, h H (Ex.refl H) _ fun p H1 hp e h1 => ⟨p, rfl, ⟨xs, sq_of h1⟩, for_list (Pv p) (h0 p H1 hp e h1) (hl p) (hs p) (hd p)⟩, hb⟩
end
end My

namespace My
open PySem PySem.Spec PyProof.Rows L2 Evl
/-! ### classes by their names -/
structure MkOk (P : Program) (w : World) (K : PySem.W.Frag) (mg : Str → Option Value) (base : Heap) (k : Nat) (x : Str) (C : Addr) (ps : List Str) (dvs : List V) (sp : Sp) : Prop where
  ex : ∃ (f : Addr) (fd : FuncData) (ds : List Value), mg x = some (.ref C) ∧ Mk K C f ∧ Binds K fd ps ds ∧ Vals dvs ds ∧ FnOk P w K mg base CX0 k f fd ps sp
structure MethOk (P : Program) (w : World) (K : PySem.W.Frag) (mg : Str → Option Value) (base : Heap) (CX : CXT) (k : Nat) (C : Addr) (m : Str) (ps : List Str) (dvs : List V) (sp : Sp) : Prop where
  cls : Cls K C
  ex : ∃ (f : Addr) (fd : FuncData) (ds : List Value), Meth K C m f ∧ Binds K fd ps ds ∧ Vals dvs ds ∧ FnOk P w K mg base CX k f fd ps sp
structure DefOkX (P : Program) (w : World) (K : PySem.W.Frag) (mg : Str → Option Value) (base : Heap) (k : Nat) (x : Str) (ps : List Str) (sp : Sp) : Prop where
  ex : ∃ (f : Addr) (fd : FuncData), mg x = some (.ref f) ∧ PySem.W.keepIn K (.ref f) = true ∧ Binds K fd ps [] ∧ FnOk P w K mg base (L2.CX P w) k f fd ps sp
/-- o.m(..) that may raise: E at the slots -/
def tMethS (C : Addr) (m : Str) (sp : Sp) (E : L2.St → XK) (ta : TE) (t : TA) : TE := fun σ H Q => ta σ H fun x H1 => ∃ a dx fs, x = .ref a ∧ H1 a = some (.ins C dx fs) ∧ fs.lookup m = none ∧
  t σ H1 fun vs H2 => sp (x :: vs) H2 Q (E σ)
section
variable {X : Cx} {k j : Nat} {x m : Str} {C : Addr} {ps : List Str} {dvs : List V} {sp : Sp} {p pos apos : Pos} {e o : Expr} {es : List Expr} {ta : TE} {t : TA} {W : WX}
theorem pe_makeN (D : MkOk X.prog X.w X.K X.mg X.base k x C ps dvs sp) (hr : Room j X.A) (ha : PA X (e :: es) t) (hk : k + 1 ≤ j := by decide) (hg : Gl X x := by rfl) (hdb : (x == ("__debug__" : Str)) = false := by decide)
    (he : starEach (e :: es) X.env = (false, eval e X.env) :: starEach es X.env := by rfl) (hpl : (backTo pos (starEach es X.env)).any (·.1) = false := by rfl) : PE X (.Call (.Name x p) (e :: es) [] pos) (tMake C sp dvs E0 t) := by
  obtain ⟨f, fd, ds, h1, h2, h3, h4, h5⟩ := D.ex
  exact pe_make h2 h5 (hr.mono hk) hg h1 h3 h4 pass0 ha hdb he hpl
theorem pe_makeN0 (D : MkOk X.prog X.w X.K X.mg X.base k x C ps dvs sp) (hr : Room j X.A) (hk : k + 1 ≤ j := by decide) (hg : Gl X x := by rfl) (hdb : (x == ("__debug__" : Str)) = false := by decide) : PE X (.Call (.Name x p) [] [] pos) (tMake C sp dvs E0 tNil) := by
  obtain ⟨f, fd, ds, h1, h2, h3, h4, h5⟩ := D.ex
  exact pe_make0 h2 h5 (hr.mono hk) hg h1 h3 h4 pass0 hdb
theorem pe_methN {pl : Sem Bool} (D : MethOk X.prog X.w X.K X.mg X.base CX0 k C m ps dvs sp) (ho : PE X o ta) (hr : Room j X.A) (ha : PA X (e :: es) t) (hk : k ≤ j := by decide)
    (hst : starEach (e :: es) X.env = (false, eval e X.env) :: starEach es X.env := by rfl) (hpl : (backTo pos (starEach es X.env)).any (·.1) = false := by rfl)
    (ht : eval (.Call (.Attribute o m apos) (e :: es) [] pos) X.env = (do
      let ov ← eval o X.env
      standAt apos.atName
      let (f, first) ← holding [ov] (getMethod ov m pl)
      callWith pos f first (backTo pos (starEach (e :: es) X.env)) (backToKw pos (keywordEach [] X.env))) := by rfl) :
    PE X (.Call (.Attribute o m apos) (e :: es) [] pos) (tMeth C m sp dvs E0 ta t) := by
  obtain ⟨f, fd, ds, h1, h2, h3, h4⟩ := D.ex
  exact pe_meth ho D.cls h1 h4 (hr.mono hk) h2 h3 pass0 ha hst hpl ht
theorem pe_methN0 {pl : Sem Bool} (D : MethOk X.prog X.w X.K X.mg X.base CX0 k C m ps dvs sp) (ho : PE X o ta) (hr : Room j X.A) (hk : k ≤ j := by decide)
    (ht : eval (.Call (.Attribute o m apos) [] [] pos) X.env = (do
      let ov ← eval o X.env
      standAt apos.atName
      let (f, first) ← holding [ov] (getMethod ov m pl)
      callWith pos f first (backTo pos (starEach [] X.env)) (backToKw pos (keywordEach [] X.env))) := by rfl) :
    PE X (.Call (.Attribute o m apos) [] [] pos) (tMeth C m sp dvs E0 ta tNil) := by
  obtain ⟨f, fd, ds, h1, h2, h3, h4⟩ := D.ex
  exact pe_meth0 ho D.cls h1 h4 (hr.mono hk) h2 h3 pass0 ht
theorem pe_callNX (D : DefOkX X.prog X.w X.K X.mg X.base k x ps sp) (hr : Room j X.A) (tk : Takes X W)
    (ha : PA X (e :: es) t) (hk : k ≤ j := by decide) (hg : Gl X x := by rfl) (hdb : (x == ("__debug__" : Str)) = false := by decide) (he : starEach (e :: es) X.env = (false, eval e X.env) :: starEach es X.env := by rfl) (hpl : (backTo pos (starEach es X.env)).any (·.1) = false := by rfl) :
    PE X (.Call (.Name x p) (e :: es) [] pos) (tCallS sp (WE W) t) := by
  obtain ⟨f, fd, h1, h2, h3, h5⟩ := D.ex
  exact pe_callS h5 (hr.mono hk) hg h1 h2 h3 (fun σ => passAt tk σ) ha hdb he hpl
theorem pe_methNX {pl : Sem Bool} (D : MethOk X.prog X.w X.K X.mg X.base (L2.CX X.prog X.w) k C m ps [] sp) (ho : PE X o ta) (hr : Room j X.A) (tk : Takes X W) (ha : PA X (e :: es) t) (hk : k ≤ j := by decide)
    (hst : starEach (e :: es) X.env = (false, eval e X.env) :: starEach es X.env := by rfl) (hpl : (backTo pos (starEach es X.env)).any (·.1) = false := by rfl)
    (ht : eval (.Call (.Attribute o m apos) (e :: es) [] pos) X.env = (do
      let ov ← eval o X.env
      standAt apos.atName
      let (f, first) ← holding [ov] (getMethod ov m pl)
      callWith pos f first (backTo pos (starEach (e :: es) X.env)) (backToKw pos (keywordEach [] X.env))) := by rfl) :
    PE X (.Call (.Attribute o m apos) (e :: es) [] pos) (tMethS C m sp (WE W) ta t) := by
  obtain ⟨f, fd, ds, hm, hb, hd, F⟩ := D.ex
  cases hd
  refine ⟨fun pins s σ H Q I h => ?_⟩
  refine PySem.W.methodCall_KW (pl := pl) (thn (ho.run pins s σ H _ I h) fun u s1 ⟨x, H1, I1, rx, a, dx, fs, ex, ea, l, q⟩ => ?_) ht
  subst ex
  obtain rfl : u = Value.ref a := rx
  refine getmeth_ok I1 ea D.cls hm l ?_
  refine PySem.W.callWith_K (first := [.ref a]) (h₀ := X.base) I.ok.mod.kin hm.kp (thn (ha.run pos pins s1 σ H1 _ I1 q) fun us s2 ⟨vs, H2, I2, r, q2⟩ => ⟨I2.kIn, ?_⟩) hst hpl
  exact run_fnS (us := .ref a :: us) (vs := .ref a :: vs) (E := WE W) F (hr.mono hk) hb (passAt tk σ) I2 (.cons rfl r) q2
/-! ### own errors -/
/-- AccessError.__init__(self, ..), the base's own maker reached through a class of the program -/
theorem pe_baseinit (K : PySem.W.Frag) {B : Addr} {pl : Sem Bool} (hm : X.mg x = some (.ref B)) (rd : PySem.W.readsIn K B (.type "type") = true) (ga : PySem.W.specialIn K (.ref B) "__getattribute__" = some (some (.builtin "type.__getattribute__")))
    (vV : PySem.W.findCls K (.ref B) (.type "type") "__init__" = some (.val (.builtin "ValueError.__init__"))) (ha : PA X (e :: es) t) (hg : Gl X x := by rfl) (hdb : (x == ("__debug__" : Str)) = false := by decide) (hK : X.K = K := by rfl)
    (hc : eval (.Call (.Attribute (.Name x p) "__init__" apos) (e :: es) [] pos) X.env = (do
      let ov ← eval (.Name x p) X.env
      standAt apos.atName
      let (f, first) ← holding [ov] (getMethod ov "__init__" pl)
      callWith pos f first (backTo pos (starEach (e :: es) X.env)) (backToKw pos (keywordEach [] X.env))) := by rfl)
    (he : starEach (e :: es) X.env = (false, eval e X.env) :: starEach es X.env := by rfl) (hpl : (backTo pos (starEach es X.env)).any (·.1) = false := by rfl) :
    PE X (.Call (.Attribute (.Name x p) "__init__" apos) (e :: es) [] pos) (tVeI K t) := by
  subst hK
  refine ⟨fun pins s σ H Q I h => ?_⟩
  refine PySem.W.methodCall_KW (ld_glob I hg hm ?_ hdb) hc
  refine PySem.W.method_cls I.kIn ga (PySem.W.cls_value I.kIn rd vV (by decide +kernel) ?_)
  show wpAny _ _ (callWith pos (Value.builtin "ValueError.__init__") [] (backTo pos (starEach (e :: es) X.env)) []) _ _ _
  refine PyProof.Rows.callWith_method1 (thn (ha.run pos pins _ σ H _ (I.tok _) h) fun us s1 ⟨vs, H1, I1, r1, a, C, ws, ev, hl, T, ea, q⟩ => ?_) he hpl
  subst ev
  cases r1 with
  | @cons _ u0 _ ur ra rw' =>
    obtain rfl : u0 = Value.ref a := ra
    have hlen : ur.length ≤ sizeLine := by
      have := Paired.length rw'
      rw [sizeLine_eq]
      omega
    exact oinit_ok T I1 ea hlen fun s' J => ⟨.non, H1, J, rfl, q⟩
end
end My
namespace My
open PySem PySem.Spec PyProof.Rows L2 Evl
/-! ### facts of error classes, read off the top by a Bool -/
def eCls (K : PySem.W.Frag) (C : Addr) : Bool := match K.lookup C with
  | some o => (match o.cls, o.data with
    | .type ty, .cls cd => (match cd.mro, o.slots.toList with
      | .ref D :: bm, [_, _, _, _, some (.builtin n), _] => decide (ty = "type") && (decide (D = C) && (decide (n = "ValueError.__new__") && (!cd.hasDel && (cd.hasDict && PySem.HandSPX.refsVE bm))))
      | _, _ => false)
    | _, _ => false)
  | none => false
theorem eCls_ok {K : PySem.W.Frag} {C : Addr} (h : eCls K C = true) :
    ∃ nm q N bs bm sn sub ab col dd k0 k1 k2 k3 k5, K.lookup C = some (excClassObj nm q C N bs bm true sn sub ab col dd k0 k1 k2 k3 k5 "ValueError.__new__") ∧ PySem.HandSPX.refsVE bm = true := by
  unfold eCls at h
  split at h
  · rename_i o ho
    split at h
    · rename_i ty cd hc hd
      split at h
      · rename_i D bm k0 k1 k2 k3 n k5 hm hs
        simp only [Bool.and_eq_true, decide_eq_true_eq, Bool.not_eq_true'] at h
        obtain ⟨rfl, rfl, rfl, h4, h5, h6⟩ := h
        obtain ⟨oc, od, dt, sl⟩ := o
        obtain ⟨nm, bs, mro, N, q, hdct, sn, sub, ab, col, del⟩ := cd
        dsimp only at hc hd hm hs h4 h5
        subst hc hd hm h4 h5
        have e : sl = #[k0, k1, k2, k3, some (.builtin "ValueError.__new__"), k5] := by
          rw [← hs, Array.toArray_toList]
        subst e
        exact ⟨nm, q, N, bs, bm, sn, sub, ab, col, od, k0, k1, k2, k3, k5, ho, h6⟩
      · cases h
    · cases h
  · cases h
inductive Fx where
  | oex (x : Str)
  | base (x : Str)
  | xf (x : Str)
  | kit (x c : Str) (b : Bool)
  | kitT (x : Str) (n : String) (b : Bool)
def Fx.ok (K : PySem.W.Frag) : Fx → Bool
  | .oex x => eCls K (He.ga K x) && (decide (PySem.W.findIn K (.ref (He.ga K x)) "__setattr__" = some (some (.builtin "object.__setattr__"))) && (decide (PySem.W.subIn K (.ref (He.ga K x)) (.type "BaseException") = some true) &&
      (decide (PySem.W.typeIn K (.ref (He.ga K x)) = some (.type "type")) && (PySem.W.keepIn K (.ref (He.ga K x)) && (decide (PySem.W.findIn K (.ref (He.ga K x)) "__init__" = some (some (.ref (He.ma K (He.ga K x) "__init__")))) &&
      decide (PySem.W.typeIn K (.ref (He.ma K (He.ga K x) "__init__")) = some (.type "function")))))))
  | .base x => PySem.W.readsIn K (He.ga K x) (.type "type") && (decide (PySem.W.specialIn K (.ref (He.ga K x)) "__getattribute__" = some (some (.builtin "type.__getattribute__"))) && (match PySem.W.findCls K (.ref (He.ga K x)) (.type "type") "__init__" with
    | some (.val (.builtin n)) => decide (n = "ValueError.__init__")
    | _ => false))
  | .xf x => xfB K (He.ga K x) && (decide (PySem.W.findIn K (.ref (He.ga K x)) "__class__" = some (some (.builtin "object.__class__"))) && (decide (PySem.W.specialIn K (.builtin "object.__class__") "__get__" = some (some (.builtin "getset_descriptor.__get__"))) &&
      (decide (PySem.W.takesIn K (.builtin "object.__class__") = some true) && decide (PySem.W.mroIn K (He.ga K x) (.type "object") = some true))))
  | .kit x c b => decide (PySem.W.kitOne K (.ref (He.ga K x)) (.ref (He.ga K c)) = some b)
  | .kitT x n b => decide (PySem.W.kitOne K (.ref (He.ga K x)) (.type n) = some b)
section
variable {K : PySem.W.Frag}
theorem oex_ok {x : Str} (h : (Fx.oex x).ok K = true) : OexC K (He.ga K x) ∧ PySem.W.findIn K (.ref (He.ga K x)) "__init__" = some (some (.ref (He.ma K (He.ga K x) "__init__"))) ∧ PySem.W.typeIn K (.ref (He.ma K (He.ga K x) "__init__")) = some (.type "function") := by
  obtain ⟨h1, h⟩ := He.ba h
  obtain ⟨h2, h⟩ := He.ba h
  obtain ⟨h3, h⟩ := He.ba h
  obtain ⟨h4, h⟩ := He.ba h
  obtain ⟨h5, h⟩ := He.ba h
  obtain ⟨h6, h7⟩ := He.ba h
  exact ⟨⟨eCls_ok h1, of_decide_eq_true h2, of_decide_eq_true h3, of_decide_eq_true h4, h5⟩, of_decide_eq_true h6, of_decide_eq_true h7⟩
theorem base_ok {x : Str} (h : (Fx.base x).ok K = true) : PySem.W.readsIn K (He.ga K x) (.type "type") = true ∧ PySem.W.specialIn K (.ref (He.ga K x)) "__getattribute__" = some (some (.builtin "type.__getattribute__")) ∧
    PySem.W.findCls K (.ref (He.ga K x)) (.type "type") "__init__" = some (.val (.builtin "ValueError.__init__")) := by
  obtain ⟨h1, h⟩ := He.ba h
  obtain ⟨h2, h3⟩ := He.ba h
  refine ⟨h1, of_decide_eq_true h2, ?_⟩
  split at h3
  · rename_i n hn
    rw [hn, of_decide_eq_true h3]
  · cases h3
structure XcC (K : PySem.W.Frag) (C : Addr) : Prop where
  x : XfC K C
  c : PySem.W.findIn K (.ref C) "__class__" = some (some (.builtin "object.__class__"))
  n : PySem.W.specialIn K (.builtin "object.__class__") "__get__" = some (some (.builtin "getset_descriptor.__get__"))
  t : PySem.W.takesIn K (.builtin "object.__class__") = some true
  m : PySem.W.mroIn K C (.type "object") = some true
theorem xf_ok {x : Str} (h : (Fx.xf x).ok K = true) : XcC K (He.ga K x) := by
  obtain ⟨h1, h⟩ := He.ba h
  obtain ⟨h2, h⟩ := He.ba h
  obtain ⟨h3, h⟩ := He.ba h
  obtain ⟨h4, h5⟩ := He.ba h
  exact ⟨xfB_ok h1, of_decide_eq_true h2, of_decide_eq_true h3, of_decide_eq_true h4, of_decide_eq_true h5⟩
end
/-- isinstance(e, c), isinstance(e, (c, ..)) of the error that the suite holds -/
def rIsX (K : PySem.W.Frag) (D a : Addr) (cls : Value) (d : Option Addr) : List V → Hp → VK → Prop := fun xs H Q => cls = .ref D ∧ (∃ dd fs, d = some dd ∧ H dd = some (.xd fs)) ∧
  ((∃ (c : V) (cv : Value) (b : Bool), xs = [.ref a, c] ∧ ClsV c cv ∧ PySem.W.kitOne K (.ref D) cv = some b ∧ Q (.bl b) H) ∨
    ∃ (tp : Addr) (cs : List V) (us : List Value) (b : Bool), xs = [.ref a, .ref tp] ∧ H tp = some (.tup cs) ∧ Paired ClsV cs us ∧ PySem.W.kitAny K (.ref D) us = some b ∧ Q (.bl b) H)
theorem call_isX {X : Cx} (K : PySem.W.Frag) {a D : Addr} {oe : Obj} {cls : Value} {d : Option Addr} {pn : List (Addr × Obj)} (C : XcC K D) (hz : Zc cls d oe) (hf : ∃ vs, oe.data = .fields vs) (hK : X.K = K := by rfl) :
    CallR (X.suite a ((a, oe) :: pn)) (.builtin "isinstance") (rIsX K D a cls d) := by
  subst hK
  intro pins s σ H xs us Q I r h
  obtain ⟨ec, ⟨dd, fs, ed, hdd⟩, h⟩ := h
  subst ec
  subst ed
  obtain ⟨hget, _⟩ := I.pin (a, oe) (List.mem_append.mpr (.inl List.mem_cons_self))
  obtain ⟨vs, hv⟩ := hf
  have hx : ObjOk X.prog X.w H s.heap dd (.xd fs) := I.hok dd _ hdd
  obtain ⟨mA, hns, _⟩ := hx
  obtain ⟨od, ho, _⟩ := lookIn_ns hns
  have J : PySem.W.InstAt s.heap a oe D (some od) := ⟨hget, hz.1, by unfold PySem.W.notCls; rw [hv] <;> rfl, by rw [hz.2]; exact ho⟩
  have hcl : (PySem.W.clsIn X.K D).isSome = true := by
    obtain ⟨cd, hc, _⟩ := PySem.W.any_some C.x.hdC
    rw [hc]
    rfl
  have Z := PySem.W.kitx_exc (x := a) (ox := oe) (od := some od) hcl C.x.ga C.x.gg C.x.exC C.c C.n C.t C.m
  rcases h with ⟨c, cv, b, rfl, hc, e, q⟩ | ⟨tp, cs, ws, b, rfl, hT, hc, e, q⟩
  · cases r with
    | cons rx rr =>
      cases rr with
      | cons rt rr =>
        cases rr
        cases rx
        have ec := hc.eq rt
        subst ec
        exact PySem.W.kia_one Z I.kIn J e (fun z => nomatch z) fun tk => ⟨.bl b, H, I.tok tk, rfl, q⟩
  · obtain ⟨u1, u2, rfl, r1, r2⟩ := vals2 r
    cases r1
    cases r2
    obtain ⟨_, its, rv, o, h1, h2, n, h3⟩ := (show ObjOk X.prog X.w H s.heap tp (.tup cs) from I.hok tp _ hT)
    have e3 := ClsV.all hc rv
    subst e3
    obtain ⟨oc, od2, dt, sl⟩ := o
    simp only at h2 h3
    subst h2 h3
    exact PySem.W.kia_tup Z I.kIn J h1 e (fun z => nomatch z) fun tk => ⟨.bl b, H, I.tok tk, rfl, q⟩
/-- e.f of the error that the suite holds -/
theorem pe_xfK {X : Cx} (K : PySem.W.Frag) {a C : Addr} {oe : Obj} {cls : Value} {d : Option Addr} {pn : List (Addr × Obj)} {e : Expr} {te : TE} {pos : Pos} {n : Str} (T : XcC K C) (hno : PySem.W.findIn K (.ref C) n = some none)
    (hz : Zc cls d oe) (hf : ∃ vs, oe.data = .fields vs) (he : PE (X.suite a ((a, oe) :: pn)) e te) (hK : X.K = K := by rfl) (hb : attributeBase e n X.env (eval e X.env) = eval e X.env := by rfl) :
    PE (X.suite a ((a, oe) :: pn)) (.Attribute e n pos) (tXf a cls d C n te) := by
  subst hK
  exact pe_xf T.x hno hz hf he hb
/-! ### an error with two, one fields: __init__, raise -/
/-- what a def wishes of an error of the class C with these fields -/
def RaiseR (C : Addr) (fs : List (Str × V)) (H : Hp) (E : XK) : Prop := ∀ d H', H d = none → Ex H H' → H' d = some (.xd fs) → E (.ref C) (some d) H'
theorem RaiseR.go {C : Addr} {fs : List (Str × V)} {H H1 : Hp} {E : XK} (k : RaiseR C fs H E) (e : Ex H H1) : RaiseR C fs H1 E := fun d H' hd e2 h => k d H' (fresh_back e hd) (e.trans e2) h
/-- __init__ of an error of the class C: its arguments' values are vs, its fields afterwards fs -/
def spXinit (K : PySem.W.Frag) (C : Addr) (ok : List V → Prop) (fs : List V → List (Str × V)) : Sp := fun vs H Q _ => ∃ (a : Addr) (ws : List V), vs = .ref a :: ws ∧ ok ws ∧ H a = some (exo a C none) ∧
  ∀ (d : Addr) (H' : Hp), H d = none → d ≠ a → H' a = some (exo a C (some d)) → H' d = some (exd d (fs ws)) → (∀ b o, b ≠ a → H b = some o → H' b = some o) → Q .non H'
structure XMkOk (P : Program) (w : World) (K : PySem.W.Frag) (mg : Str → Option Value) (base : Heap) (k : Nat) (x : Str) (C : Addr) (ps : List Str) (sp : Sp) : Prop where
  ex : ∃ (f : Addr) (fd : FuncData), mg x = some (.ref C) ∧ OexC K C ∧ PySem.W.findIn K (.ref C) "__init__" = some (some (.ref f)) ∧ PySem.W.typeIn K (.ref f) = some (.type "function") ∧ Binds K fd ps [] ∧ FnOk P w K mg base CX0 k f fd ps sp
theorem ps_raiseX {X : Cx} {W : WX} {e : Expr} {es : List Expr} {t : TA} {k j : Nat} {x : Str} {C : Addr} {ps : List Str} {sp : Sp} {p pos pos2 : Pos} (D : XMkOk X.prog X.w X.K X.mg X.base k x C ps sp) (hr : Room j X.A) (hc : X.calm = true) (tk : Takes X W) (ha : PA X (e :: es) t)
    (hk : k + 1 ≤ j := by decide) (hg : Gl X x := by rfl) (hdb : (x == ("__debug__" : Str)) = false := by decide) (he : starEach (e :: es) X.env = (false, eval e X.env) :: starEach es X.env := by rfl) (hpl : (backTo pos (starEach es X.env)).any (·.1) = false := by rfl) :
    PS X (.Raise (some (.Call (.Name x p) (e :: es) [] pos)) none pos2) (fun _ σ H => tMkO C sp [] t σ H fun cls d H' => W cls d σ H') := by
  obtain ⟨f, fd, h1, h2, h3, h4, h5, h6⟩ := D.ex
  exact ps_raise hc tk (pmk_oex h2 h3 h4 h6 (hr.mono hk) h5 .nil (fun _ _ _ _ _ _ _ h => h.elim) hg h1 ha hdb he hpl)
/-- what raising asks -/
theorem raise_ask {K : PySem.W.Frag} {C : Addr} {ok : List V → Prop} {fs : List V → List (Str × V)} {ta : TA} {σ : L2.St} {H : Hp} {Q : XK} {vs : List V} (ha : EvA ta σ H vs) (h0 : ok vs) (hl : vs.length ≤ 1000)
    (q : ∀ H1, Ex H H1 → RaiseR C (fs vs) H1 Q) : tMkO C (spXinit K C ok fs) [] ta σ H Q := ha H (Ex.refl H) _ fun H1 e1 => ⟨hl, fun a na => ⟨a, vs, by rw [List.append_nil], h0, upd_same, fun d H' nd da h1 h2 kp => ⟨rfl, d, fs vs, h1, h2, by
    rw [upd_ne da] at nd
    exact nd, by
    have nd' : H1 d = none := by
      rw [upd_ne da] at nd
      exact nd
    refine q H1 e1 d _ nd' (fun b o hb => ?_) upd_same
    have hba : b ≠ a := ne_of_none hb na
    have hbd : b ≠ d := ne_of_none hb nd'
    rw [upd_ne hbd, del_ne hba]
    exact kp b o hba (by rw [upd_ne hba]; exact hb)⟩⟩⟩
end My
namespace My
open PySem PySem.Spec PyProof.Rows L2 Evl
/-! ### the facts of a top with classes and errors -/
structure TxE (fa : List He.Fa) (fn : List He.DefD) (fx : List Fx) (K : PySem.W.Frag) (mg : Str → Option Value) : Prop where
  tx : Tx fa fn K mg
  more : (fx.all fun f => f.ok K) = true
theorem TxE.fx {fa : List He.Fa} {fn : List He.DefD} {fx : List Fx} {K : PySem.W.Frag} {mg : Str → Option Value} (T : TxE fa fn fx K mg) (i : Nat) {f : Fx} (h : fx[i]? = some f := by rfl) : f.ok K = true :=
  List.all_eq_true.mp T.more f (List.mem_of_getElem? h)
theorem TxE.mk' {fa : List He.Fa} {fn : List He.DefD} {fx : List Fx} {K : PySem.W.Frag} {w : World} {h h0 : Heap} {mg : Str → Option Value} (X : K.In h) (G : h.Ns mainGlobals mg) (c : He.SaysX fa fn [] [] (fun K => fx.all fun f => f.ok K) w h0 K) : TxE fa fn fx K mg :=
  ⟨Tx.mk' X G c.t.d, c.more⟩
/-- what the names reach in n steps and the statics (readsIn asks them), and the facts there -/
def farE (g : Addr → Option Obj) (n : Nat) : PySem.W.Frag := He.frG g (He.asD g n ++ [cStatics])
def lookE (n : Nat) (fa : List He.Fa) (fn : List He.DefD) (fx : List Fx) (g : Addr → Option Obj) : Bool × He.AlD := (fx.all fun f => f.ok (farE g n), He.obsD fa fn (farE g n))
def hookE (n : Nat) (fa : List He.Fa) (fn : List He.DefD) (fx : List Fx) : PySem.W.Hook where
  α := Bool × He.AlD
  obs := fun s => lookE n fa fn fx s.heap.get?
  val := fun _ => (true, He.valD fn)
  says := fun _ h => ∃ K : PySem.W.Frag, K.In h ∧ ((fx.all fun f => f.ok K) = true ∧ He.SaysD fa fn K)
  of := fun _ _ e => ⟨_, He.frG_in, congrArg (fun z : Bool × He.AlD => z.1) e, congrArg (fun z : Bool × He.AlD => z.2) e⟩
  keeps := fun _ _ _ ⟨K, hK, c⟩ k => ⟨K, PySem.W.Frag.In.keeps hK k, c⟩
theorem lookE_eq {n : Nat} {fa : List He.Fa} {fn : List He.DefD} {fx : List Fx} {g : Addr → Option Obj} {s : Shared} (h : ∀ a, g a = s.heap.get? a) : lookE n fa fn fx g = (hookE n fa fn fx).obs s := by
  have e : g = s.heap.get? := funext h
  subst e
  rfl
theorem TxE.of {fa : List He.Fa} {fn : List He.DefD} {fx : List Fx} {K : PySem.W.Frag} {h : Heap} {mg : Str → Option Value} (X : K.In h) (G : h.Ns mainGlobals mg) (c : (fx.all fun f => f.ok K) = true ∧ He.SaysD fa fn K) : TxE fa fn fx K mg := ⟨Tx.mk' X G c.2, c.1⟩
theorem MethOk.of {P : Program} {w : World} {K : PySem.W.Frag} {mg : Str → Option Value} {base : Heap} {CX : CXT} {k : Nat} {C : Addr} {m qual : Str} {ps : List Str} {sp : Sp} {st : Stmt} {fd : FuncData} {f : Addr} (F : FunD K m qual (defArgs st) (defBody st) (defScope st) [] [] f fd)
    (c : Cls K C) (hm : Meth K C m f) (b : Binds K fd ps []) (h : FnOk P w K mg base CX k f fd ps sp) : MethOk P w K mg base CX k C m ps [] sp := ⟨c, f, fd, [], hm, b, .nil, h⟩
theorem DefOkX.of {P : Program} {w : World} {K : PySem.W.Frag} {mg : Str → Option Value} {base : Heap} {k : Nat} {x : Str} {ps : List Str} {sp : Sp} {st : Stmt} {fd : FuncData} {f : Addr} (F : FunD K x x (defArgs st) (defBody st) (defScope st) [] [] f fd)
    (g : mg x = some (.ref f)) (b : Binds K fd ps []) (h : FnOk P w K mg base (L2.CX P w) k f fd ps sp) : DefOkX P w K mg base k x ps sp := ⟨f, fd, g, F.kp, b, h⟩
end My
namespace My
open PySem PySem.Spec PyProof.Rows L2 Evl
/-! ### a op b op c op d, as a test -/
def tChain3 (r r' r'' : R2) (ta tb tc td : TE) : TE := fun σ H Q => ta σ H fun x H1 => tb σ H1 fun y H2 => r x y H2 fun z H3 => ∃ k, z = .bl k ∧
  (if k = true then tc σ H3 fun u H4 => r' y u H4 fun z' H5 => ∃ k', z' = .bl k' ∧ (if k' = true then td σ H5 fun v H6 => r'' u v H6 Q else Q (.bl false) H5) else Q (.bl false) H3)
theorem pt_chain3 {X : Cx} {a b c d : Expr} {pos : Pos} {op op' op'' : CmpOp} {r r' r'' : R2} {ta tb tc td : TE} (ho : OpR X (compareOp op) r) (ho' : OpR X (compareOp op') r') (ho'' : OpR X (compareOp op'') r'') (ha : PE X a ta) (hb : PE X b tb) (hc : PE X c tc) (hd : PE X d td)
    (hm : lastMarks [op, op', op''] [b, c, d] = false := by with_unfolding_all rfl) : PT X (.Compare a [op, op', op''] [b, c, d] pos) (tTest (tChain3 r r' r'' ta tb tc td)) := by
  refine ⟨fun pins s σ H Q I h => isTrue_chain (thn (ha.run pins s σ H _ I h) fun v s1 g1 => ?_) hm⟩
  obtain ⟨x, H1, I1, r1, q1⟩ := g1
  refine test_link (thn (hb.run pins s1 σ H1 _ I1 q1) fun u s2 g2 => ?_)
  obtain ⟨y, H2, I2, r2, q2⟩ := g2
  refine thn (ho pins s2 σ H2 x y v u _ I2 r1 r2 q2) fun w s3 g3 => ?_
  obtain ⟨z, H3, I3, r3, k, rfl, q3⟩ := g3
  cases r3
  refine wpAny_truthy_bool ?_
  cases k with
  | false =>
    obtain ⟨k', e', q'⟩ := q3
    cases e'
    exact ite_ff ⟨H3, I3, q'⟩
  | true =>
    refine ite_tt (test_link (thn (hc.run pins s3 σ H3 _ I3 q3) fun u' s4 g4 => ?_))
    obtain ⟨y', H4, I4, r4, q4⟩ := g4
    refine thn (ho' pins s4 σ H4 y y' u u' _ I4 r2 r4 q4) fun w' s5 g5 => ?_
    obtain ⟨z', H5, I5, r5, k5, rfl, q5⟩ := g5
    cases r5
    refine wpAny_truthy_bool ?_
    cases k5 with
    | false =>
      obtain ⟨k', e', q'⟩ := q5
      cases e'
      exact ite_ff ⟨H5, I5, q'⟩
    | true =>
      refine ite_tt (test_last (thn (hd.run pins s5 σ H5 _ I5 q5) fun u6 s6 g6 => ?_))
      obtain ⟨y6, H6, I6, r6, q6⟩ := g6
      refine thn (ho'' pins s6 σ H6 y' y6 u' u6 _ I6 r4 r6 q6) fun w7 s7 g7 => ?_
      obtain ⟨z7, H7, I7, r7, k7, rfl, q7⟩ := g7
      cases r7
      exact wpAny_truthy_bool ⟨H7, I7, q7⟩
section
variable {σ : L2.St} {H : Hp} {ta tb tc td : TE}
theorem et_chain3 {f g h : Int → Int → Bool} {i j k l : Int} (ha : Ev ta σ H (.int i)) (hb : Ev tb σ H (.int j)) (hc : Ev tc σ H (.int k)) (hd : Ev td σ H (.int l)) :
    EvT (tTest (tChain3 (rI0 fun i j => .bl (f i j)) (rI0 fun i j => .bl (g i j)) (rI0 fun i j => .bl (h i j)) ta tb tc td)) σ H (f i j && (g j k && h k l)) := fun H1 e1 Q q =>
  ha H1 e1 _ fun H2 e2 => hb H2 (e1.trans e2) _ fun H3 e3 => ⟨i, j, rfl, rfl, f i j, rfl, by
    revert q
    cases f i j with
    | false => exact fun q => iteF ⟨_, rfl, q H3 (e2.trans e3)⟩
    | true =>
      intro q
      refine iteT (hc H3 ((e1.trans e2).trans e3) _ fun H4 e4 => ⟨j, k, rfl, rfl, g j k, rfl, ?_⟩)
      revert q
      cases g j k with
      | false => exact fun q => iteF ⟨_, rfl, q H4 ((e2.trans e3).trans e4)⟩
      | true => exact fun q => iteT (hd H4 (((e1.trans e2).trans e3).trans e4) _ fun H5 e5 => ⟨k, l, rfl, rfl, _, rfl, q H5 (((e2.trans e3).trans e4).trans e5)⟩)⟩
theorem ev_chain {f g : Int → Int → Bool} {i j k : Int} (ha : Ev ta σ H (.int i)) (hb : Ev tb σ H (.int j)) (hc : Ev tc σ H (.int k)) :
    Ev (tChain (rI0 fun i j => .bl (f i j)) (rI0 fun i j => .bl (g i j)) ta tb tc) σ H (.bl (f i j && g j k)) := fun H1 e1 Q q =>
  ha H1 e1 _ fun H2 e2 => hb H2 (e1.trans e2) _ fun H3 e3 => ⟨i, j, rfl, rfl, f i j, rfl, by
    revert q
    cases f i j with
    | false => exact fun q => iteF (q H3 (e2.trans e3))
    | true => exact fun q => iteT (hc H3 ((e1.trans e2).trans e3) _ fun H4 e4 => ⟨j, k, rfl, rfl, q H4 ((e2.trans e3).trans e4)⟩)⟩
end
end My
namespace My
open PySem PySem.Spec PyProof.Rows L2 Evl
/-! ### f-strings -/
theorem str_len_app (a b : Str) : (a ++ b).length = a.length + b.length := by
  show (a.cps ++ b.cps).size = a.cps.size + b.cps.size
  exact Array.size_append
section
variable {σ : L2.St} {H : Hp} {t te : TE} {ts : List TE} {acc y out : Str}
def EvJ (ts : List TE) (acc : Str) (σ : L2.St) (H : Hp) (out : Str) : Prop := ∀ H1, Ex H H1 → ∀ Q : Str → Hp → Prop, (∀ H2, Ex H1 H2 → Q out H2) → tJs ts acc σ H1 Q
theorem ej_nil : EvJ [] acc σ H acc := fun H1 _ Q q => q H1 (Ex.refl H1)
theorem ej_cons (h : Ev t σ H (.str y)) (r : EvJ ts (acc ++ y) σ H out) (hl : (acc ++ y).length ≤ sizeLine) : EvJ (t :: ts) acc σ H out := fun H1 e Q q =>
  h H1 e _ fun H2 e2 => ⟨y, rfl, hl, r H2 (e.trans e2) Q fun H3 e3 => q H3 (e2.trans e3)⟩
theorem ev_joined (h : EvJ ts Str.empty σ H out) : Ev (fun σ H Q => tJs ts Str.empty σ H fun out H1 => Q (.str out) H1) σ H (.str out) := fun H1 e Q q => h H1 e _ q
def small (i : Int) : Prop := i.natAbs < 2 ^ 1000
theorem log_ok {i : Int} (h : small i) : i.natAbs.log2 < 1920 := Nat.lt_of_lt_of_le (PySem.Flt.log2_lt_of (by decide) h) (by decide)
theorem fmt_int {i : Int} (h : Ev te σ H (.int i)) (hs : small i) : Ev (tFmt te) σ H (.str (toString i)) := fun H1 e Q q => h H1 e _ fun H2 e2 => .inr ⟨i, rfl, log_ok hs, q H2 e2⟩
theorem fmt_str {x : Str} (h : Ev te σ H (.str x)) (hs : x.length ≤ 10000) : Ev (tFmt te) σ H (.str x) := fun H1 e Q q => h H1 e _ fun H2 e2 => .inl ⟨x, rfl, sz_of (by omega), q H2 e2⟩
theorem small_len {i : Int} (h : small i) : (Str.ofString (toString i)).length ≤ 1921 := int_text_len_1921 (log_ok h)
theorem small_of {i : Int} (h1 : -(2 ^ 62) ≤ i) (h2 : i ≤ 2 ^ 62) : small i := by
  have : i.natAbs ≤ 2 ^ 62 := by omega
  exact Nat.lt_of_le_of_lt this (by decide)
end
/-- an error's two fields, stored by its __init__ -/
theorem ost_first {K : PySem.W.Frag} {f : Str} {to te : TE} {σ : L2.St} {H : Hp} {D : Ends} {tz : TS} {a C : Addr} {y : V} (he : Ev te σ H y) (ho : Ev to σ H (.ref a)) (T : OexC K C) (hn : PySem.W.findIn K (.ref C) f = some none) (ha : H a = some (exo a C none))
    (k : ∀ dx H1, Ex H H1 → H1 dx = none → dx ≠ a → tz D σ (upd (upd H1 dx (exd dx [(f, y)])) a (exo a C (some dx)))) : tSeq (tOst K f to te) tz D σ H := he H (Ex.refl H) _ fun H1 e1 => ho H1 e1 _ fun H2 e2 =>
  ⟨a, C, rfl, T, hn, .inl ⟨e2 _ _ (e1 _ _ ha), fun dx n ne => k dx H2 (e1.trans e2) n ne⟩⟩
theorem ost_last {K : PySem.W.Frag} {f : Str} {to te : TE} {σ : L2.St} {H : Hp} {D : Ends} {a C dx : Addr} {fs : List (Str × V)} {y : V} (he : Ev te σ H y) (ho : Ev to σ H (.ref a)) (T : OexC K C) (hn : PySem.W.findIn K (.ref C) f = some none) (ha : H a = some (exo a C (some dx))) (hd : H dx = some (exd dx fs)) (hl : fs.length ≤ 900)
    (k : ∀ H1, Ex H H1 → D.nx σ (upd H1 dx (exd dx ((f, y) :: fs)))) : tOst K f to te D σ H := he H (Ex.refl H) _ fun H1 e1 => ho H1 e1 _ fun H2 e2 =>
  ⟨a, C, rfl, T, hn, .inr ⟨dx, fs, e2 _ _ (e1 _ _ ha), e2 _ _ (e1 _ _ hd), hl, k H2 (e1.trans e2)⟩⟩
end My

namespace My
open PySem PySem.Spec PyProof.Rows L2 Evl
/-! ### fields of own instances, made by their class -/
theorem lk_hit {f : Str} {v : V} {r : List (Str × V)} : ((f, v) :: r).lookup f = some v := by simp [List.lookup]
theorem lk_miss {f g : Str} {v : V} {r : List (Str × V)} (h : f ≠ g) : ((g, v) :: r).lookup f = r.lookup f := by
  have : (f == g) = false := beq_eq_false_iff_ne.mpr h
  simp [List.lookup, this]
theorem put_hit {f : Str} {v x : V} {r : List (Str × V)} : putF f v ((f, x) :: r) = (f, v) :: r := by simp [putF]
theorem put_miss {f g : Str} {v x : V} {r : List (Str × V)} (h : g ≠ f) : putF f v ((g, x) :: r) = (g, x) :: putF f v r := by
  show (if g = f then _ else _) = _
  rw [if_neg h]
section
variable {K : PySem.W.Frag} {σ : L2.St} {H H' : Hp} {ta tb te tx tv : TE} {t u : TT} {x y z v : V} {D : Ends} {tu tw tz : TS} {g : TG} {i j : Int} {b : Bool} {C a dx : Addr} {fs : List (Str × V)} {f : Str}
theorem ev_fld (h : Ev ta σ H (.ref a)) (ha : H a = some (.ins C dx fs)) (c : Cls K C) (n : NoAttr K C f) (l : fs.lookup f = some v) : Ev (tFld K ta f) σ H v := fun H1 e Q q => h H1 e _ fun H2 e2 =>
  ⟨a, C, dx, fs, v, rfl, (e.trans e2) _ _ ha, c, n, l, q H2 e2⟩
theorem q_fld (hv : Ev tv σ H y) (ho : Ev ta σ H (.ref a)) (ha : H a = some (.ins C dx fs)) (c : Cls K C) (n : NoAttr K C f) (l : fs.length < 1000) (k : ∀ H1, Ex H H1 → tz D σ (upd H1 a (.ins C dx (putF f y fs)))) : tSeq (sFld K ta tv f) tz D σ H :=
  hv H (Ex.refl H) _ fun H1 e1 => ho H1 e1 _ fun H2 e2 => ⟨a, C, dx, fs, rfl, (e1.trans e2) _ _ ha, c, n, l, k H2 (e1.trans e2)⟩
theorem s_fld (hv : Ev tv σ H y) (ho : Ev ta σ H (.ref a)) (ha : H a = some (.ins C dx fs)) (c : Cls K C) (n : NoAttr K C f) (l : fs.length < 1000) (k : ∀ H1, Ex H H1 → D.nx σ (upd H1 a (.ins C dx (putF f y fs)))) : sFld K ta tv f D σ H :=
  hv H (Ex.refl H) _ fun H1 e1 => ho H1 e1 _ fun H2 e2 => ⟨a, C, dx, fs, rfl, (e1.trans e2) _ _ ha, c, n, l, k H2 (e1.trans e2)⟩
/-- a value of some kind, told by a predicate of the heap -/
def EvP (te : TE) (σ : L2.St) (H : Hp) (P : V → Hp → Prop) : Prop := ∀ H1, Ex H H1 → ∀ Q : VK, (∀ v H2, Ex H1 H2 → P v H2 → Q v H2) → te σ H1 Q
theorem qp_fld {P : V → Hp → Prop} (hv : EvP tv σ H P) (ho : Ev ta σ H (.ref a)) (hP : ∀ v H1 H2, Ex H1 H2 → P v H1 → P v H2) (ha : H a = some (.ins C dx fs)) (c : Cls K C) (n : NoAttr K C f) (l : fs.length < 1000) (k : ∀ y H1, Ex H H1 → P y H1 → tz D σ (upd H1 a (.ins C dx (putF f y fs)))) : tSeq (sFld K ta tv f) tz D σ H :=
  hv H (Ex.refl H) _ fun y H1 e1 p => ho H1 e1 _ fun H2 e2 => ⟨a, C, dx, fs, rfl, (e1.trans e2) _ _ ha, c, n, l, k y H2 (e1.trans e2) (hP _ _ _ e2 p)⟩
theorem qu_fld {xs : List V} (hv : EvU tv σ H xs) (ho : Ev ta σ H (.ref a)) (ha : H a = some (.ins C dx fs)) (c : Cls K C) (n : NoAttr K C f) (l : fs.length < 1000) (k : ∀ p H1, H p = none → Ex H H1 → H1 p = some (.tup xs) → tz D σ (upd H1 a (.ins C dx (putF f (.ref p) fs)))) : tSeq (sFld K ta tv f) tz D σ H :=
  hv H (Ex.refl H) _ fun p H1 n1 e1 h1 => ho H1 e1 _ fun H2 e2 => ⟨a, C, dx, fs, rfl, (e1.trans e2) _ _ ha, c, n, l, k p H2 n1 (e1.trans e2) (e2 _ _ h1)⟩
theorem su_fld {xs : List V} (hv : EvU tv σ H xs) (ho : Ev ta σ H (.ref a)) (ha : H a = some (.ins C dx fs)) (c : Cls K C) (n : NoAttr K C f) (l : fs.length < 1000) (k : ∀ p H1, H p = none → Ex H H1 → H1 p = some (.tup xs) → D.nx σ (upd H1 a (.ins C dx (putF f (.ref p) fs)))) : sFld K ta tv f D σ H :=
  hv H (Ex.refl H) _ fun p H1 n1 e1 h1 => ho H1 e1 _ fun H2 e2 => ⟨a, C, dx, fs, rfl, (e1.trans e2) _ _ ha, c, n, l, k p H2 n1 (e1.trans e2) (e2 _ _ h1)⟩
/-- tuple(x), x a list or a tuple: a tuple -/
theorem evp_tup {l : Addr} {xs : List V} (h : Ev te σ H (.ref l)) (hs : SqL K H l xs ∨ SqT K H l xs) : EvP (tCB (rTupQ K) (tCons te tNil)) σ H fun v H2 => ∃ p, v = .ref p ∧ SqT K H2 p xs := fun H1 e Q q =>
  h H1 e _ fun H2 e2 => ⟨l, xs, rfl, by
    rcases hs with hs | hs
    · exact .inl ⟨ex_l (e.trans e2) hs, fun p hp => q _ _ (e2.trans (Ex.new hp)) ⟨p, rfl, st_of upd_same⟩⟩
    · exact .inr ⟨ex_t (e.trans e2) hs, q _ _ e2 ⟨l, rfl, ex_t (e.trans e2) hs⟩⟩⟩
/-- tuple(a new list), tuple(a list): a new tuple -/
theorem eu_tupN {xs : List V} (h : EvL te σ H xs) : EvU (tCB (rTupQ K) (tCons te tNil)) σ H xs := fun H1 e Q q =>
  h H1 e _ fun p H2 n e2 h2 => ⟨p, xs, rfl, .inl ⟨sq_of h2, fun l hl => q l _ (fresh_back e2 hl) (e2.trans (Ex.new hl)) upd_same⟩⟩
theorem eu_tupL {l : Addr} {xs : List V} (h : Ev te σ H (.ref l)) (hs : SqL K H l xs) : EvU (tCB (rTupQ K) (tCons te tNil)) σ H xs := fun H1 e Q q =>
  h H1 e _ fun H2 e2 => ⟨l, xs, rfl, .inl ⟨ex_l (e.trans e2) hs, fun p hp => q p _ (fresh_back e2 hp) (e2.trans (Ex.new hp)) upd_same⟩⟩
theorem ev_sumN {ns : List Int} {xs : List V} (h : EvL te σ H xs) (hx : xs = ns.map V.int) : Ev (tCB (rSum K) (tCons te tNil)) σ H (.int ns.sum) := fun H1 e Q q =>
  h H1 e _ fun p H2 n e2 h2 => ⟨p, ns, rfl, sq_of (hx ▸ h2), q H2 e2⟩
theorem sqt_keep {p : Addr} {o o2 : HO} {xs : List V} (hp : H p = some o2) (h1 : ∀ xs, o2 ≠ .tup xs) (h2 : ∀ c d, o2 ≠ .frz c d) (h : SqT K H a xs) : SqT K (upd H p o) a xs := by
  rcases h with (h | ⟨c, h⟩) | h
  · refine .inl (.inl ?_)
    rw [upd_ne]
    · exact h
    · intro z
      subst z
      rw [hp] at h
      exact h1 _ (Option.some.inj h)
  · refine .inl (.inr ⟨c, ?_⟩)
    rw [upd_ne]
    · exact h
    · intro z
      subst z
      rw [hp] at h
      exact h2 _ _ (Option.some.inj h)
  · exact .inr h
/-- for over reversed(a tuple), behind it a word B -/
theorem q_forRevT {xs : List V} (h : Ev te σ H (.ref a)) (hx : SqT K H a xs) (Pv : Nat → L2.St → Hp → Prop) (B : L2.St → Hp → Prop) (h0 : ∀ H1, Ex H H1 → Pv 0 σ H1) (hl : ∀ i σ' H', Pv i σ' H' → SqT K H' a xs)
    (hs : ∀ (i : Nat) x σ' H', i < xs.length → xs[xs.length - 1 - i]? = some x → Pv i σ' H' → g x σ' H' fun σ2 H2 => tu { D with nx := Pv (i + 1), ct := Pv (i + 1), bk := B } σ2 H2) (hd : ∀ σ' H', Pv xs.length σ' H' → B σ' H')
    (hb : ∀ σ' H', B σ' H' → tz D σ' H') : tCut (tFor (RT.iRevA K te) g tu) tz D σ H :=
  ⟨B, h H (Ex.refl H) _ fun H1 e => ⟨a, xs, rfl, .inr ⟨ex_t e hx, RT.for_ItvT Pv (h0 H1 e) hl hs hd⟩⟩, hb⟩
/-- a comprehension over zip of two tuples of one length -/
theorem el_lcZT {ta : TA} {a b : Addr} {xs ys : List V} {n m : Nat} {vs : List Nat} (v : Nat → V) (h : EvA ta σ H [.ref a, .ref b]) (hx : SqT K H a xs) (hy : SqT K H b ys) (hl : xs.length = ys.length) (hz : xs.length ≤ 40000)
    (hw : ∀ x y, wipe (((wipe σ vs).set n (some x)).set m (some y)) vs = wipe σ vs)
    (he : ∀ (i : Nat) (x y : V) H1, Ex H H1 → xs[i]? = some x → ys[i]? = some y → Ev te (((wipe σ vs).set n (some x)).set m (some y)) H1 (v i)) :
    EvL (tLc (RZ.iZipA K ta) (gTup K 2 (gCons (gName n) (gCons (gName m) gNil))) tYes te vs) σ H (given xs.length (fun _ => true) v) := fun H0 e Q q => h H0 e _ fun H1 e1 =>
  ⟨a, b, xs, ys, rfl, .inr ⟨ex_t (e.trans e1) hx, ex_t (e.trans e1) hy, fun Dl hD =>
    ⟨fun i k Hi => k = xs.length - i ∧ i ≤ xs.length ∧ Cw H1 (fun _ => true) v Dl i Hi, ⟨xs.length, rfl, Nat.zero_le _, hD, Ex.new hD, upd_same⟩, by
      rintro i k Hi ⟨rfl, hi, p⟩
      have qx := ex_t ((e.trans e1).trans p.2.1) hx
      have qy := ex_t ((e.trans e1).trans p.2.1) hy
      by_cases hlt : i < xs.length
      · have hlt2 : i < ys.length := by omega
        refine .inr ⟨⟨xs, ys, _, _, qx, qy, List.getElem?_eq_getElem hlt, List.getElem?_eq_getElem hlt2⟩, Cw H1 (fun _ => true) v Dl (i + 1), fun H' p' => ⟨xs.length - (i + 1), by omega, rfl, hlt, p'⟩, fun u Hu yy => ?_⟩
        obtain ⟨T, x', y', rfl, hT, rfl, f1, f2⟩ := yy
        have gx := f1 xs qx
        have gy := f2 ys qy
        have hTD : T ≠ Dl := fun z => by
          rw [z, p.2.2] at hT
          cases hT
        have p2 : Cw H1 (fun _ => true) v Dl i (upd Hi T (.tup [x', y'])) := ⟨p.1, p.2.1.trans (Ex.new hT), by rw [upd_ne hTD.symm]; exact p.2.2⟩
        exact ⟨T, [x', y'], rfl, st_of upd_same, rfl, x', [y'], rfl, y', [], rfl, rfl, hw _ _, cw_turn (t := tYes) p2 (by omega) (fun H3 e3 Q3 q3 => q3 H3 (Ex.refl H3)) fun _ => he i x' y' H1 (e.trans e1) gx gy⟩
      · have ei : i = xs.length := by omega
        subst ei
        exact .inl ⟨⟨xs, ys, qx, qy, .inl (Nat.le_refl _)⟩, q Dl Hi (fresh_back e1 p.1) (e1.trans p.2.1) p.2.2⟩⟩⟩⟩
end
end My
namespace My
open PySem PySem.Spec PyProof.Rows L2 Evl
section
variable {K : PySem.W.Frag} {σ : L2.St} {H H' : Hp} {ta tb te tx tv : TE} {t u : TT} {x y z v : V} {D : Ends} {tu tw tz : TS} {g : TG} {i j : Int} {b : Bool} {C a dx : Addr} {fs : List (Str × V)} {f : Str}
theorem takes0 {X : Cx} : Takes X (fun _ _ _ _ => False) := fun _ _ x => by
  obtain ⟨_, _, _, _, _, _, _, _, _, _, _, _, _, _, _, _, z⟩ := x
  exact z.elim
theorem given_all {zs : List V} {n : Nat} (hn : zs.length = n) : given n (fun _ => true) (fun i => zs.getD i .non) = zs := by
  subst hn
  unfold given
  rw [List.filter_eq_self.mpr (by simp)]
  refine List.ext_getElem? fun i => ?_
  rw [List.getElem?_map]
  by_cases h : i < zs.length
  · rw [List.getElem?_range h, List.getElem?_eq_getElem h]
    simp [List.getD, h]
  · rw [List.getElem?_eq_none (by simpa using h), List.getElem?_eq_none (by omega)]
    rfl
theorem getD_some {zs : List V} {i : Nat} {n : Nat} (hn : zs.length = n) (h : i < n) : zs[i]? = some (zs.getD i .non) := by
  subst hn
  rw [List.getElem?_eq_getElem h]
  simp [List.getD, h]
/-- a comprehension over zip of two tuples: its items are zs -/
theorem el_zipT {ta : TA} {a b : Addr} {xs ys zs : List V} {n m : Nat} {vs : List Nat} (h : EvA ta σ H [.ref a, .ref b]) (hx : SqT K H a xs) (hy : SqT K H b ys) (hl : xs.length = ys.length) (hzs : zs.length = xs.length) (hz : xs.length ≤ 40000)
    (hw : ∀ x y, wipe (((wipe σ vs).set n (some x)).set m (some y)) vs = wipe σ vs)
    (he : ∀ (i : Nat) (x y z : V) H1, Ex H H1 → xs[i]? = some x → ys[i]? = some y → zs[i]? = some z → Ev te (((wipe σ vs).set n (some x)).set m (some y)) H1 z) :
    EvL (tLc (RZ.iZipA K ta) (gTup K 2 (gCons (gName n) (gCons (gName m) gNil))) tYes te vs) σ H zs := by
  have q := el_lcZT (te := te) (fun i => zs.getD i .non) h hx hy hl hz hw fun i x y H1 e hx' hy' => he i x y _ H1 e hx' hy' (getD_some hzs (by
    have := (List.getElem?_eq_some_iff.mp hx').1
    omega))
  rwa [given_all hzs] at q
theorem et_yes : EvT tYes σ H true := fun H1 _ _ q => q H1 (Ex.refl H1)
/-- .. over a range, without a test -/
theorem el_rng {ta : TA} {j : Nat} {vs : List Nat} {n : Int} {zs : List V} (h : EvA ta σ H [.int n]) (hn : 0 ≤ n ∧ n ≤ 40000) (hzs : zs.length = n.toNat) (hw : ∀ x, wipe ((wipe σ vs).set j (some x)) vs = wipe σ vs)
    (he : ∀ (i : Nat) (z : V) H1, Ex H H1 → (i : Int) < n → zs[i]? = some z → Ev te ((wipe σ vs).set j (some (.int (i : Int)))) H1 z) :
    EvL (tLc (iRng1 ta) (gName j) tYes te vs) σ H zs := by
  have q := el_lcR1 (t := tYes) (te := te) (fun _ => true) (fun i => zs.getD i .non) h hn hw (fun i H1 _ _ => et_yes) fun i H1 e hi _ => he i _ H1 e hi (getD_some hzs (by omega))
  rwa [given_all hzs] at q
end
end My
namespace My
open PySem PySem.Spec PyProof.Rows L2 Evl
/-! ### methods; calls that may raise -/
section
variable {K : PySem.W.Frag} {σ : L2.St} {H H' : Hp} {ta tb te tx tv : TE} {t : TA} {x y z v : V} {D : Ends} {tu tw tz : TS} {C a dx : Addr} {fs : List (Str × V)} {m : Str} {sp : Sp} {E : XK} {ES : L2.St → XK} {vs : List V} {Q : VK} {d : PyData}
theorem cs_ask (ht : EvA t σ H vs) (k : ∀ H1, Ex H H1 → sp vs H1 Q (ES σ)) : tCallS sp ES t σ H Q := ht H (Ex.refl H) _ k
theorem ms_ask (ho : Ev ta σ H (.ref a)) (hi : H a = some (.ins C dx fs)) (hm : fs.lookup m = none) (ht : EvA t σ H vs) (k : ∀ H1, Ex H H1 → sp (.ref a :: vs) H1 Q (ES σ)) : tMethS C m sp ES ta t σ H Q := ho H (Ex.refl H) _ fun H1 e1 =>
  ⟨a, dx, fs, rfl, e1 _ _ hi, hm, ht H1 e1 _ fun H2 e2 => k H2 (e1.trans e2)⟩
theorem mm_ask (ho : Ev ta σ H (.ref a)) (hi : H a = some (.ins C dx fs)) (hm : fs.lookup m = none) (ht : EvA t σ H vs) (k : ∀ H1, Ex H H1 → sp (.ref a :: vs) H1 Q E) : tMeth C m sp [] E ta t σ H Q := ho H (Ex.refl H) _ fun H1 e1 =>
  ⟨a, dx, fs, rfl, e1 _ _ hi, hm, ht H1 e1 _ fun H2 e2 => by
    rw [List.append_nil]
    exact k H2 (e1.trans e2)⟩
theorem ev_callS (ht : EvA t σ H vs) (k : SpV sp vs H z) : Ev (tCallS sp ES t) σ H z := fun H1 e Q q => cs_ask (ht.mono e) fun H2 e2 => k H2 (e.trans e2) Q (fun H3 e3 => q H3 (e2.trans e3)) _
theorem ev_methS (ho : Ev ta σ H (.ref a)) (hi : H a = some (.ins C dx fs)) (hm : fs.lookup m = none) (ht : EvA t σ H vs) (k : SpV sp (.ref a :: vs) H z) : Ev (tMethS C m sp ES ta t) σ H z := fun H1 e Q q =>
  ms_ask (ho.mono e) (e _ _ hi) hm (ht.mono e) fun H2 e2 => k H2 (e.trans e2) Q (fun H3 e3 => q H3 (e2.trans e3)) _
theorem ev_meth (ho : Ev ta σ H (.ref a)) (hi : H a = some (.ins C dx fs)) (hm : fs.lookup m = none) (ht : EvA t σ H vs) (k : SpV sp (.ref a :: vs) H z) : Ev (tMeth C m sp [] E ta t) σ H z := fun H1 e Q q =>
  mm_ask (ho.mono e) (e _ _ hi) hm (ht.mono e) fun H2 e2 => k H2 (e.trans e2) Q (fun H3 e3 => q H3 (e2.trans e3)) _
/-- what a call gives is data -/
def SpVD (K : PySem.W.Frag) (sp : Sp) (vs : List V) (H : Hp) (d : PyData) : Prop := ∀ H1, Ex H H1 → ∀ Q : VK, RetD K d H1 Q → ∀ E : XK, sp vs H1 Q E
theorem evd_callV (ht : EvA t σ H vs) (k : SpVD K sp vs H d) : EvD K (tCall sp [] E t) σ H d := fun H1 e Q q => ht H1 e _ fun H2 e2 => by
  show sp (vs ++ []) H2 Q E
  rw [List.append_nil]
  exact k H2 (e.trans e2) Q (fun v H3 e3 hd => q v H3 (e2.trans e3) hd) E
theorem evd_methS (ho : Ev ta σ H (.ref a)) (hi : H a = some (.ins C dx fs)) (hm : fs.lookup m = none) (ht : EvA t σ H vs) (k : SpVD K sp (.ref a :: vs) H d) : EvD K (tMethS C m sp ES ta t) σ H d := fun H1 e Q q =>
  ms_ask (ho.mono e) (e _ _ hi) hm (ht.mono e) fun H2 e2 => k H2 (e.trans e2) Q (fun v H3 e3 hd => q v H3 (e2.trans e3) hd) _
theorem evd_meth (ho : Ev ta σ H (.ref a)) (hi : H a = some (.ins C dx fs)) (hm : fs.lookup m = none) (ht : EvA t σ H vs) (k : SpVD K sp (.ref a :: vs) H d) : EvD K (tMeth C m sp [] E ta t) σ H d := fun H1 e Q q =>
  mm_ask (ho.mono e) (e _ _ hi) hm (ht.mono e) fun H2 e2 => k H2 (e.trans e2) Q (fun v H3 e3 hd => q v H3 (e2.trans e3) hd) _
end
end My
namespace My
open PySem PySem.Spec PyProof.Rows L2 Evl
/-! ### isinstance of a caught error -/
section
variable {K : PySem.W.Frag} {σ : L2.St} {H H' : Hp} {te tx : TE} {ta : TA} {D a dd : Addr} {fs : List (Str × V)} {c v : V} {cv : Value} {b : Bool} {f : Str}
theorem ev_isX {tc : TE} (hx : Ev tx σ H (.ref a)) (hc : Ev tc σ H c) (hd : H dd = some (.xd fs)) (k : ClsV c cv) (hk : PySem.W.kitOne K (.ref D) cv = some b) : Ev (tCB (rIsX K D a (.ref D) (some dd)) (tCons tx (tCons tc tNil))) σ H (.bl b) := fun H1 e Q q =>
  hx H1 e _ fun H2 e2 => hc H2 (e.trans e2) _ fun H3 e3 => ⟨rfl, ⟨dd, fs, rfl, ((e.trans e2).trans e3) _ _ hd⟩, .inl ⟨c, cv, b, rfl, k, hk, q H3 (e2.trans e3)⟩⟩
theorem ev_isXT {cs : List V} {us : List Value} (hx : Ev tx σ H (.ref a)) (hc : EvA ta σ H cs) (hl : cs.length ≤ 100) (hd : H dd = some (.xd fs)) (k : Paired ClsV cs us) (hk : PySem.W.kitAny K (.ref D) us = some b) : Ev (tCB (rIsX K D a (.ref D) (some dd)) (tCons tx (tCons (tTup ta) tNil))) σ H (.bl b) := fun H1 e Q q =>
  hx H1 e _ fun H2 e2 => hc H2 (e.trans e2) _ fun H3 e3 => ⟨sz_of (by omega), fun p hp => by
    have E3 := (e2.trans e3).trans (Ex.new (o := .tup cs) hp)
    exact ⟨rfl, ⟨dd, fs, rfl, (e.trans E3) _ _ hd⟩, .inr ⟨p, cs, us, b, rfl, upd_same, k, hk, q _ E3⟩⟩⟩
theorem ev_xf (hx : Ev te σ H (.ref a)) (hd : H dd = some (.xd fs)) (hl : fs.lookup f = some v) : Ev (tXf a (.ref D) (some dd) D f te) σ H v := fun H1 e Q q =>
  hx H1 e _ fun H2 e2 => ⟨rfl, rfl, dd, fs, v, rfl, (e.trans e2) _ _ hd, hl, q H2 e2⟩
/-- an error class named by a def, its catch in a suite -/
theorem catch_as {C B : Addr} {i : Nat} {ts : Addr → Value → Option Addr → TS} {Wout : WX} {DD : Ends} (hx : PySem.W.exmOne K (.ref C) (.ref B) = some true)
    (k : ∀ d H', H d = none → Ex H H' → H' d = some (.xd fs) → ∀ a, H' a = none → ts a (.ref C) (some d) { nx := fun σ' H' => DD.nx (σ'.set i none) H', rt := DD.rt, bk := fun σ' H' => DD.bk (σ'.set i none) H', ct := fun σ' H' => DD.ct (σ'.set i none) H' } (σ.set i (some (.ref a))) H') :
    RaiseR C fs H (WE (wAs K (.ref B) i ts Wout DD) σ) := fun d H' n e h => ⟨true, hx, fun _ a na => k d H' n e h a na, fun z => nomatch z⟩
end
end My
namespace My
open PySem PySem.Spec PyProof.Rows L2 Evl
section
variable {K : PySem.W.Frag} {σ : L2.St} {H H' : Hp} {te tx : TE} {ta : TA} {a l : Addr} {v : V} {xs : List V} {ns : List Int}
theorem evd_Li (h : EvL te σ H (ns.map V.int)) : EvD K te σ H (.list (ns.map PyData.int)) := fun H1 e Q q => h H1 e _ fun p H2 _ e2 h2 => q _ H2 e2 (.lst (sq_of h2) (dpa_ints ns))
theorem evd_Ui (h : EvU te σ H (ns.map V.int)) : EvD K te σ H (.tuple (ns.map PyData.int)) := fun H1 e Q q => h H1 e _ fun p H2 _ e2 h2 => q _ H2 e2 (.tup (st_of h2) (dpa_ints ns))
theorem dp_tups {a : Addr} (h : SqT K H a (ns.map V.int)) : Dp K H (.ref a) (.tuple (ns.map PyData.int)) := .tup h (dpa_ints ns)
theorem el_listQ (ha : Ev te σ H (.ref a)) (h : SqL K H a xs) : EvL (tCB (rListQ K) (tCons te tNil)) σ H xs := fun H1 e Q q =>
  ha H1 e _ fun H2 e2 => ⟨a, xs, rfl, .inl (ex_l (e.trans e2) h), fun l hl => q l _ (fresh_back e2 hl) (e2.trans (Ex.new hl)) upd_same⟩
theorem dn_tups {n : Nat} (h : ns.length ≤ 40000) : Dn (n + 1) (.tuple (ns.map PyData.int)) := by
  simp only [Dn, List.length_map]
  refine ⟨h, fun d hd => ?_⟩
  obtain ⟨x, _, rfl⟩ := List.mem_map.mp hd
  simp [Dn]
theorem dn_lists {n : Nat} (h : ns.length ≤ 40000) : Dn (n + 1) (.list (ns.map PyData.int)) := by
  simp only [Dn, List.length_map]
  refine ⟨h, fun d hd => ?_⟩
  obtain ⟨x, _, rfl⟩ := List.mem_map.mp hd
  simp [Dn]
theorem dn_int {n : Nat} {i : Int} : Dn n (.int i) := by simp [Dn]
theorem sql_keep {p : Addr} {o o2 : HO} (hp : H p = some o2) (h1 : ∀ xs, o2 ≠ .lst xs) (h2 : ∀ c d, o2 ≠ .frz c d) (h : SqL K H a xs) : SqL K (upd H p o) a xs := by
  rcases h with (h | ⟨c, h⟩) | h
  · refine .inl (.inl ?_)
    rw [upd_ne]
    · exact h
    · intro z
      subst z
      rw [hp] at h
      exact h1 _ (Option.some.inj h)
  · refine .inl (.inr ⟨c, ?_⟩)
    rw [upd_ne]
    · exact h
    · intro z
      subst z
      rw [hp] at h
      exact h2 _ _ (Option.some.inj h)
  · exact .inr h
/-- a value that is a list or a tuple -/
theorem evp_var {i : Nat} {P : V → Hp → Prop} (h : σ[i]? = some (some v)) (p : ∀ H1, Ex H H1 → P v H1) : EvP (tVar i) σ H P := fun H1 e Q q => ev_var h H1 e _ fun H2 e2 => q _ H2 e2 (p H2 (e.trans e2))
theorem evp_U {P : V → Hp → Prop} (h : EvU te σ H xs) (p : ∀ l H1, H1 l = some (.tup xs) → P (.ref l) H1) : EvP te σ H P := fun H1 e Q q => h H1 e _ fun l H2 _ e2 h2 => q _ H2 e2 (p l H2 h2)
end
end My

namespace Law
open PySem PySem.Spec PyProof.Rows L2 Evl My
def top (i : Nat) : Stmt := PySem.Challenge.pw_lentpages_k02_cover.main.body.getD i (.Pass ⟨0, 0, 0, 0⟩)
abbrev s__wall : Stmt := top 0
abbrev s_BadRange___init__ : Stmt := inClass (top 8) 0
abbrev s_Unmapped___init__ : Stmt := inClass (top 9) 0
abbrev s_Denied___init__ : Stmt := inClass (top 10) 0
abbrev s_BeyondFile___init__ : Stmt := inClass (top 11) 0
abbrev s_check_range : Stmt := top 13
abbrev s_Shape___init__ : Stmt := inClass (top 15) 0
abbrev s_Shape_span : Stmt := inClass (top 15) 1
abbrev s_Shape_path : Stmt := inClass (top 15) 2
abbrev s_Shape_page_at : Stmt := inClass (top 15) 3
abbrev s_Shape_block_at : Stmt := inClass (top 15) 4
abbrev s_level_of : Stmt := top 16
abbrev s_largest_block : Stmt := top 17
abbrev s_is_cover : Stmt := top 18
abbrev s_cover : Stmt := top 19
abbrev s_l_number : Stmt := top 21
abbrev s_l_is_whole : Stmt := top 22
abbrev s_l_same : Stmt := top 23
abbrev s_l_fan_spans : Stmt := top 24
abbrev s_l_fan : Stmt := top 25
abbrev s_l_range : Stmt := top 26
abbrev s_l_cover_refused : Stmt := top 27
abbrev s_l_is_cover : Stmt := top 28
abbrev s_l_least_count : Stmt := top 29
abbrev s_l_cover_good : Stmt := top 30
abbrev s_law : Stmt := top 31
def dd__wall : He.DefD := ⟨("_wall", none), "_wall", "_wall", defArgs s__wall, defBody s__wall, defScope s__wall, [], []⟩
def dd_BadRange___init__ : He.DefD := ⟨("BadRange", some "__init__"), "__init__", "BadRange.__init__", defArgs s_BadRange___init__, defBody s_BadRange___init__, defScope s_BadRange___init__, [], []⟩
def dd_Unmapped___init__ : He.DefD := ⟨("Unmapped", some "__init__"), "__init__", "Unmapped.__init__", defArgs s_Unmapped___init__, defBody s_Unmapped___init__, defScope s_Unmapped___init__, [], []⟩
def dd_Denied___init__ : He.DefD := ⟨("Denied", some "__init__"), "__init__", "Denied.__init__", defArgs s_Denied___init__, defBody s_Denied___init__, defScope s_Denied___init__, [], []⟩
def dd_BeyondFile___init__ : He.DefD := ⟨("BeyondFile", some "__init__"), "__init__", "BeyondFile.__init__", defArgs s_BeyondFile___init__, defBody s_BeyondFile___init__, defScope s_BeyondFile___init__, [], []⟩
def dd_check_range : He.DefD := ⟨("check_range", none), "check_range", "check_range", defArgs s_check_range, defBody s_check_range, defScope s_check_range, [], []⟩
def dd_Shape___init__ : He.DefD := ⟨("Shape", some "__init__"), "__init__", "Shape.__init__", defArgs s_Shape___init__, defBody s_Shape___init__, defScope s_Shape___init__, [], []⟩
def dd_Shape_span : He.DefD := ⟨("Shape", some "span"), "span", "Shape.span", defArgs s_Shape_span, defBody s_Shape_span, defScope s_Shape_span, [], []⟩
def dd_Shape_path : He.DefD := ⟨("Shape", some "path"), "path", "Shape.path", defArgs s_Shape_path, defBody s_Shape_path, defScope s_Shape_path, [], []⟩
def dd_Shape_page_at : He.DefD := ⟨("Shape", some "page_at"), "page_at", "Shape.page_at", defArgs s_Shape_page_at, defBody s_Shape_page_at, defScope s_Shape_page_at, [], []⟩
def dd_Shape_block_at : He.DefD := ⟨("Shape", some "block_at"), "block_at", "Shape.block_at", defArgs s_Shape_block_at, defBody s_Shape_block_at, defScope s_Shape_block_at, [], []⟩
def dd_level_of : He.DefD := ⟨("level_of", none), "level_of", "level_of", defArgs s_level_of, defBody s_level_of, defScope s_level_of, [], []⟩
def dd_largest_block : He.DefD := ⟨("largest_block", none), "largest_block", "largest_block", defArgs s_largest_block, defBody s_largest_block, defScope s_largest_block, [], []⟩
def dd_is_cover : He.DefD := ⟨("is_cover", none), "is_cover", "is_cover", defArgs s_is_cover, defBody s_is_cover, defScope s_is_cover, [], []⟩
def dd_cover : He.DefD := ⟨("cover", none), "cover", "cover", defArgs s_cover, defBody s_cover, defScope s_cover, [], []⟩
def dd_l_number : He.DefD := ⟨("_law_number", none), "_law_number", "_law_number", defArgs s_l_number, defBody s_l_number, defScope s_l_number, [], []⟩
def dd_l_is_whole : He.DefD := ⟨("_law_is_whole", none), "_law_is_whole", "_law_is_whole", defArgs s_l_is_whole, defBody s_l_is_whole, defScope s_l_is_whole, [], []⟩
def dd_l_same : He.DefD := ⟨("_law_same", none), "_law_same", "_law_same", defArgs s_l_same, defBody s_l_same, defScope s_l_same, [], []⟩
def dd_l_fan_spans : He.DefD := ⟨("_law_fan_spans", none), "_law_fan_spans", "_law_fan_spans", defArgs s_l_fan_spans, defBody s_l_fan_spans, defScope s_l_fan_spans, [], []⟩
def dd_l_fan : He.DefD := ⟨("_law_fan", none), "_law_fan", "_law_fan", defArgs s_l_fan, defBody s_l_fan, defScope s_l_fan, [], []⟩
def dd_l_range : He.DefD := ⟨("_law_range", none), "_law_range", "_law_range", defArgs s_l_range, defBody s_l_range, defScope s_l_range, [], []⟩
def dd_l_cover_refused : He.DefD := ⟨("_law_cover_refused", none), "_law_cover_refused", "_law_cover_refused", defArgs s_l_cover_refused, defBody s_l_cover_refused, defScope s_l_cover_refused, [], []⟩
def dd_l_is_cover : He.DefD := ⟨("_law_is_cover", none), "_law_is_cover", "_law_is_cover", defArgs s_l_is_cover, defBody s_l_is_cover, defScope s_l_is_cover, [], []⟩
def dd_l_least_count : He.DefD := ⟨("_law_least_count", none), "_law_least_count", "_law_least_count", defArgs s_l_least_count, defBody s_l_least_count, defScope s_l_least_count, [], []⟩
def dd_l_cover_good : He.DefD := ⟨("_law_cover_good", none), "_law_cover_good", "_law_cover_good", defArgs s_l_cover_good, defBody s_l_cover_good, defScope s_l_cover_good, [], []⟩
def dd_law : He.DefD := ⟨("law", none), "law", "law", defArgs s_law, defBody s_law, defScope s_law, [], []⟩
def fns : List He.DefD := [dd__wall, dd_BadRange___init__, dd_Unmapped___init__, dd_Denied___init__, dd_BeyondFile___init__, dd_check_range, dd_Shape___init__, dd_Shape_span, dd_Shape_path, dd_Shape_page_at, dd_Shape_block_at, dd_level_of, dd_largest_block, dd_is_cover, dd_cover, dd_l_number, dd_l_is_whole, dd_l_same, dd_l_fan_spans, dd_l_fan, dd_l_range, dd_l_cover_refused, dd_l_is_cover, dd_l_least_count, dd_l_cover_good, dd_law]
def fas : List He.Fa := [.free "tuple", .free "len", .free "reversed", .free "range", .free "abs", .free "int", .free "isinstance", .free "bool", .free "str", .free "list", .free "ValueError", .free "min", .glo "_wall", .glo "check_range", .glo "level_of", .glo "largest_block", .glo "is_cover", .glo "cover", .glo "_law_number", .glo "_law_is_whole", .glo "_law_same", .glo "_law_fan_spans", .glo "_law_fan", .glo "_law_range", .glo "_law_cover_refused", .glo "_law_is_cover", .glo "_law_least_count", .glo "_law_cover_good", .glo "law", .glo "PagesError", .glo "AccessError", .glo "LimitError", .glo "MissingError", .glo "FileError", .glo "CodeError", .glo "BadRange", .glo "Unmapped", .glo "Denied", .glo "BeyondFile", .glo "Shape", .cls "Shape", .mkr "Shape", .meth "Shape" "span", .meth "Shape" "path", .meth "Shape" "page_at", .meth "Shape" "block_at", .noat "BadRange" "start", .noat "BadRange" "end", .noat "Shape" "widths", .noat "Shape" "levels", .noat "Shape" "page_count", .noat "Shape" "spans", .exm "BadRange" "PagesError" true]
def fxs : List Fx := [.oex "BadRange", .xf "BadRange", .base "AccessError", .kit "BadRange" "BadRange" true, .kit "BadRange" "AccessError" true, .kitT "BadRange" "ValueError" true, .kit "BadRange" "Unmapped" false, .kit "BadRange" "Denied" false, .kit "BadRange" "BeyondFile" false, .kit "BadRange" "LimitError" false, .kit "BadRange" "MissingError" false, .kit "BadRange" "FileError" false, .kit "BadRange" "CodeError" false]
abbrev TX (K : PySem.W.Frag) (mg : Str → Option Value) : Prop := My.TxE fas fns fxs K mg
section
variable {K : PySem.W.Frag} {mg : Str → Option Value}
theorem fr_tuple (T : TX K mg) : mg "tuple" = none := T.tx.fre "tuple" (T.tx.says.fact 0 rfl)
theorem fr_len (T : TX K mg) : mg "len" = none := T.tx.fre "len" (T.tx.says.fact 1 rfl)
theorem fr_reversed (T : TX K mg) : mg "reversed" = none := T.tx.fre "reversed" (T.tx.says.fact 2 rfl)
theorem fr_range (T : TX K mg) : mg "range" = none := T.tx.fre "range" (T.tx.says.fact 3 rfl)
theorem fr_abs (T : TX K mg) : mg "abs" = none := T.tx.fre "abs" (T.tx.says.fact 4 rfl)
theorem fr_int (T : TX K mg) : mg "int" = none := T.tx.fre "int" (T.tx.says.fact 5 rfl)
theorem fr_isinstance (T : TX K mg) : mg "isinstance" = none := T.tx.fre "isinstance" (T.tx.says.fact 6 rfl)
theorem fr_bool (T : TX K mg) : mg "bool" = none := T.tx.fre "bool" (T.tx.says.fact 7 rfl)
theorem fr_str (T : TX K mg) : mg "str" = none := T.tx.fre "str" (T.tx.says.fact 8 rfl)
theorem fr_list (T : TX K mg) : mg "list" = none := T.tx.fre "list" (T.tx.says.fact 9 rfl)
theorem fr_ValueError (T : TX K mg) : mg "ValueError" = none := T.tx.fre "ValueError" (T.tx.says.fact 10 rfl)
theorem fr_min (T : TX K mg) : mg "min" = none := T.tx.fre "min" (T.tx.says.fact 11 rfl)
theorem gl__wall (T : TX K mg) : mg "_wall" = some (.ref (He.ga K "_wall")) := T.tx.glo "_wall" (T.tx.says.fact 12 rfl)
theorem gl_check_range (T : TX K mg) : mg "check_range" = some (.ref (He.ga K "check_range")) := T.tx.glo "check_range" (T.tx.says.fact 13 rfl)
theorem gl_level_of (T : TX K mg) : mg "level_of" = some (.ref (He.ga K "level_of")) := T.tx.glo "level_of" (T.tx.says.fact 14 rfl)
theorem gl_largest_block (T : TX K mg) : mg "largest_block" = some (.ref (He.ga K "largest_block")) := T.tx.glo "largest_block" (T.tx.says.fact 15 rfl)
theorem gl_is_cover (T : TX K mg) : mg "is_cover" = some (.ref (He.ga K "is_cover")) := T.tx.glo "is_cover" (T.tx.says.fact 16 rfl)
theorem gl_cover (T : TX K mg) : mg "cover" = some (.ref (He.ga K "cover")) := T.tx.glo "cover" (T.tx.says.fact 17 rfl)
theorem gl_l_number (T : TX K mg) : mg "_law_number" = some (.ref (He.ga K "_law_number")) := T.tx.glo "_law_number" (T.tx.says.fact 18 rfl)
theorem gl_l_is_whole (T : TX K mg) : mg "_law_is_whole" = some (.ref (He.ga K "_law_is_whole")) := T.tx.glo "_law_is_whole" (T.tx.says.fact 19 rfl)
theorem gl_l_same (T : TX K mg) : mg "_law_same" = some (.ref (He.ga K "_law_same")) := T.tx.glo "_law_same" (T.tx.says.fact 20 rfl)
theorem gl_l_fan_spans (T : TX K mg) : mg "_law_fan_spans" = some (.ref (He.ga K "_law_fan_spans")) := T.tx.glo "_law_fan_spans" (T.tx.says.fact 21 rfl)
theorem gl_l_fan (T : TX K mg) : mg "_law_fan" = some (.ref (He.ga K "_law_fan")) := T.tx.glo "_law_fan" (T.tx.says.fact 22 rfl)
theorem gl_l_range (T : TX K mg) : mg "_law_range" = some (.ref (He.ga K "_law_range")) := T.tx.glo "_law_range" (T.tx.says.fact 23 rfl)
theorem gl_l_cover_refused (T : TX K mg) : mg "_law_cover_refused" = some (.ref (He.ga K "_law_cover_refused")) := T.tx.glo "_law_cover_refused" (T.tx.says.fact 24 rfl)
theorem gl_l_is_cover (T : TX K mg) : mg "_law_is_cover" = some (.ref (He.ga K "_law_is_cover")) := T.tx.glo "_law_is_cover" (T.tx.says.fact 25 rfl)
theorem gl_l_least_count (T : TX K mg) : mg "_law_least_count" = some (.ref (He.ga K "_law_least_count")) := T.tx.glo "_law_least_count" (T.tx.says.fact 26 rfl)
theorem gl_l_cover_good (T : TX K mg) : mg "_law_cover_good" = some (.ref (He.ga K "_law_cover_good")) := T.tx.glo "_law_cover_good" (T.tx.says.fact 27 rfl)
theorem gl_law (T : TX K mg) : mg "law" = some (.ref (He.ga K "law")) := T.tx.glo "law" (T.tx.says.fact 28 rfl)
theorem gl_PagesError (T : TX K mg) : mg "PagesError" = some (.ref (He.ga K "PagesError")) := T.tx.glo "PagesError" (T.tx.says.fact 29 rfl)
theorem gl_AccessError (T : TX K mg) : mg "AccessError" = some (.ref (He.ga K "AccessError")) := T.tx.glo "AccessError" (T.tx.says.fact 30 rfl)
theorem gl_LimitError (T : TX K mg) : mg "LimitError" = some (.ref (He.ga K "LimitError")) := T.tx.glo "LimitError" (T.tx.says.fact 31 rfl)
theorem gl_MissingError (T : TX K mg) : mg "MissingError" = some (.ref (He.ga K "MissingError")) := T.tx.glo "MissingError" (T.tx.says.fact 32 rfl)
theorem gl_FileError (T : TX K mg) : mg "FileError" = some (.ref (He.ga K "FileError")) := T.tx.glo "FileError" (T.tx.says.fact 33 rfl)
theorem gl_CodeError (T : TX K mg) : mg "CodeError" = some (.ref (He.ga K "CodeError")) := T.tx.glo "CodeError" (T.tx.says.fact 34 rfl)
theorem gl_BadRange (T : TX K mg) : mg "BadRange" = some (.ref (He.ga K "BadRange")) := T.tx.glo "BadRange" (T.tx.says.fact 35 rfl)
theorem gl_Unmapped (T : TX K mg) : mg "Unmapped" = some (.ref (He.ga K "Unmapped")) := T.tx.glo "Unmapped" (T.tx.says.fact 36 rfl)
theorem gl_Denied (T : TX K mg) : mg "Denied" = some (.ref (He.ga K "Denied")) := T.tx.glo "Denied" (T.tx.says.fact 37 rfl)
theorem gl_BeyondFile (T : TX K mg) : mg "BeyondFile" = some (.ref (He.ga K "BeyondFile")) := T.tx.glo "BeyondFile" (T.tx.says.fact 38 rfl)
theorem gl_Shape (T : TX K mg) : mg "Shape" = some (.ref (He.ga K "Shape")) := T.tx.glo "Shape" (T.tx.says.fact 39 rfl)
theorem cls_Shape (T : TX K mg) : Cls K (He.ga K "Shape") := He.cls_ok (T.tx.says.fact 40 rfl)
theorem mkr_Shape (T : TX K mg) : Mk K (He.ga K "Shape") (He.ma K (He.ga K "Shape") "__init__") := He.mkr_ok (T.tx.says.fact 41 rfl)
theorem meth_Shape_span (T : TX K mg) : Meth K (He.ga K "Shape") "span" (He.ma K (He.ga K "Shape") "span") := He.meth_ok (T.tx.says.fact 42 rfl)
theorem meth_Shape_path (T : TX K mg) : Meth K (He.ga K "Shape") "path" (He.ma K (He.ga K "Shape") "path") := He.meth_ok (T.tx.says.fact 43 rfl)
theorem meth_Shape_page_at (T : TX K mg) : Meth K (He.ga K "Shape") "page_at" (He.ma K (He.ga K "Shape") "page_at") := He.meth_ok (T.tx.says.fact 44 rfl)
theorem meth_Shape_block_at (T : TX K mg) : Meth K (He.ga K "Shape") "block_at" (He.ma K (He.ga K "Shape") "block_at") := He.meth_ok (T.tx.says.fact 45 rfl)
theorem na_BadRange_start (T : TX K mg) : NoAttr K (He.ga K "BadRange") "start" := He.noat_ok (T.tx.says.fact 46 rfl)
theorem na_BadRange_end (T : TX K mg) : NoAttr K (He.ga K "BadRange") "end" := He.noat_ok (T.tx.says.fact 47 rfl)
theorem na_Shape_widths (T : TX K mg) : NoAttr K (He.ga K "Shape") "widths" := He.noat_ok (T.tx.says.fact 48 rfl)
theorem na_Shape_levels (T : TX K mg) : NoAttr K (He.ga K "Shape") "levels" := He.noat_ok (T.tx.says.fact 49 rfl)
theorem na_Shape_page_count (T : TX K mg) : NoAttr K (He.ga K "Shape") "page_count" := He.noat_ok (T.tx.says.fact 50 rfl)
theorem na_Shape_spans (T : TX K mg) : NoAttr K (He.ga K "Shape") "spans" := He.noat_ok (T.tx.says.fact 51 rfl)
theorem exm_BadRange_PagesError (T : TX K mg) : PySem.W.exmOne K (.ref (He.ga K "BadRange")) (.ref (He.ga K "PagesError")) = some true := He.exm_ok (T.tx.says.fact 52 rfl)
theorem oex_BadRange (T : TX K mg) : OexC K (He.ga K "BadRange") ∧ PySem.W.findIn K (.ref (He.ga K "BadRange")) "__init__" = some (some (.ref (He.ma K (He.ga K "BadRange") "__init__"))) ∧ PySem.W.typeIn K (.ref (He.ma K (He.ga K "BadRange") "__init__")) = some (.type "function") := oex_ok (T.fx 0 rfl)
theorem xf_BadRange (T : TX K mg) : XcC K (He.ga K "BadRange") := xf_ok (T.fx 1 rfl)
theorem base_AccessError (T : TX K mg) : PySem.W.readsIn K (He.ga K "AccessError") (.type "type") = true ∧ PySem.W.specialIn K (.ref (He.ga K "AccessError")) "__getattribute__" = some (some (.builtin "type.__getattribute__")) ∧ PySem.W.findCls K (.ref (He.ga K "AccessError")) (.type "type") "__init__" = some (.val (.builtin "ValueError.__init__")) := base_ok (T.fx 2 rfl)
theorem kit_BadRange_BadRange (T : TX K mg) : PySem.W.kitOne K (.ref (He.ga K "BadRange")) (.ref (He.ga K "BadRange")) = some true := of_decide_eq_true (T.fx 3 rfl)
theorem kit_BadRange_AccessError (T : TX K mg) : PySem.W.kitOne K (.ref (He.ga K "BadRange")) (.ref (He.ga K "AccessError")) = some true := of_decide_eq_true (T.fx 4 rfl)
theorem kit_BadRange_ValueError (T : TX K mg) : PySem.W.kitOne K (.ref (He.ga K "BadRange")) (.type "ValueError") = some true := of_decide_eq_true (T.fx 5 rfl)
theorem kit_BadRange_Unmapped (T : TX K mg) : PySem.W.kitOne K (.ref (He.ga K "BadRange")) (.ref (He.ga K "Unmapped")) = some false := of_decide_eq_true (T.fx 6 rfl)
theorem kit_BadRange_Denied (T : TX K mg) : PySem.W.kitOne K (.ref (He.ga K "BadRange")) (.ref (He.ga K "Denied")) = some false := of_decide_eq_true (T.fx 7 rfl)
theorem kit_BadRange_BeyondFile (T : TX K mg) : PySem.W.kitOne K (.ref (He.ga K "BadRange")) (.ref (He.ga K "BeyondFile")) = some false := of_decide_eq_true (T.fx 8 rfl)
theorem kit_BadRange_LimitError (T : TX K mg) : PySem.W.kitOne K (.ref (He.ga K "BadRange")) (.ref (He.ga K "LimitError")) = some false := of_decide_eq_true (T.fx 9 rfl)
theorem kit_BadRange_MissingError (T : TX K mg) : PySem.W.kitOne K (.ref (He.ga K "BadRange")) (.ref (He.ga K "MissingError")) = some false := of_decide_eq_true (T.fx 10 rfl)
theorem kit_BadRange_FileError (T : TX K mg) : PySem.W.kitOne K (.ref (He.ga K "BadRange")) (.ref (He.ga K "FileError")) = some false := of_decide_eq_true (T.fx 11 rfl)
theorem kit_BadRange_CodeError (T : TX K mg) : PySem.W.kitOne K (.ref (He.ga K "BadRange")) (.ref (He.ga K "CodeError")) = some false := of_decide_eq_true (T.fx 12 rfl)
theorem fd__wall (T : TX K mg) : ∃ fd, FunD K "_wall" "_wall" (defArgs s__wall) (defBody s__wall) (defScope s__wall) [] [] (He.ga K "_wall") fd := T.tx.says.def_ 0 (d := dd__wall) rfl
theorem fd_BadRange___init__ (T : TX K mg) : ∃ fd, FunD K "__init__" "BadRange.__init__" (defArgs s_BadRange___init__) (defBody s_BadRange___init__) (defScope s_BadRange___init__) [] [] (He.ma K (He.ga K "BadRange") "__init__") fd := T.tx.says.def_ 1 (d := dd_BadRange___init__) rfl
theorem fd_Unmapped___init__ (T : TX K mg) : ∃ fd, FunD K "__init__" "Unmapped.__init__" (defArgs s_Unmapped___init__) (defBody s_Unmapped___init__) (defScope s_Unmapped___init__) [] [] (He.ma K (He.ga K "Unmapped") "__init__") fd := T.tx.says.def_ 2 (d := dd_Unmapped___init__) rfl
theorem fd_Denied___init__ (T : TX K mg) : ∃ fd, FunD K "__init__" "Denied.__init__" (defArgs s_Denied___init__) (defBody s_Denied___init__) (defScope s_Denied___init__) [] [] (He.ma K (He.ga K "Denied") "__init__") fd := T.tx.says.def_ 3 (d := dd_Denied___init__) rfl
theorem fd_BeyondFile___init__ (T : TX K mg) : ∃ fd, FunD K "__init__" "BeyondFile.__init__" (defArgs s_BeyondFile___init__) (defBody s_BeyondFile___init__) (defScope s_BeyondFile___init__) [] [] (He.ma K (He.ga K "BeyondFile") "__init__") fd := T.tx.says.def_ 4 (d := dd_BeyondFile___init__) rfl
theorem fd_check_range (T : TX K mg) : ∃ fd, FunD K "check_range" "check_range" (defArgs s_check_range) (defBody s_check_range) (defScope s_check_range) [] [] (He.ga K "check_range") fd := T.tx.says.def_ 5 (d := dd_check_range) rfl
theorem fd_Shape___init__ (T : TX K mg) : ∃ fd, FunD K "__init__" "Shape.__init__" (defArgs s_Shape___init__) (defBody s_Shape___init__) (defScope s_Shape___init__) [] [] (He.ma K (He.ga K "Shape") "__init__") fd := T.tx.says.def_ 6 (d := dd_Shape___init__) rfl
theorem fd_Shape_span (T : TX K mg) : ∃ fd, FunD K "span" "Shape.span" (defArgs s_Shape_span) (defBody s_Shape_span) (defScope s_Shape_span) [] [] (He.ma K (He.ga K "Shape") "span") fd := T.tx.says.def_ 7 (d := dd_Shape_span) rfl
theorem fd_Shape_path (T : TX K mg) : ∃ fd, FunD K "path" "Shape.path" (defArgs s_Shape_path) (defBody s_Shape_path) (defScope s_Shape_path) [] [] (He.ma K (He.ga K "Shape") "path") fd := T.tx.says.def_ 8 (d := dd_Shape_path) rfl
theorem fd_Shape_page_at (T : TX K mg) : ∃ fd, FunD K "page_at" "Shape.page_at" (defArgs s_Shape_page_at) (defBody s_Shape_page_at) (defScope s_Shape_page_at) [] [] (He.ma K (He.ga K "Shape") "page_at") fd := T.tx.says.def_ 9 (d := dd_Shape_page_at) rfl
theorem fd_Shape_block_at (T : TX K mg) : ∃ fd, FunD K "block_at" "Shape.block_at" (defArgs s_Shape_block_at) (defBody s_Shape_block_at) (defScope s_Shape_block_at) [] [] (He.ma K (He.ga K "Shape") "block_at") fd := T.tx.says.def_ 10 (d := dd_Shape_block_at) rfl
theorem fd_level_of (T : TX K mg) : ∃ fd, FunD K "level_of" "level_of" (defArgs s_level_of) (defBody s_level_of) (defScope s_level_of) [] [] (He.ga K "level_of") fd := T.tx.says.def_ 11 (d := dd_level_of) rfl
theorem fd_largest_block (T : TX K mg) : ∃ fd, FunD K "largest_block" "largest_block" (defArgs s_largest_block) (defBody s_largest_block) (defScope s_largest_block) [] [] (He.ga K "largest_block") fd := T.tx.says.def_ 12 (d := dd_largest_block) rfl
theorem fd_is_cover (T : TX K mg) : ∃ fd, FunD K "is_cover" "is_cover" (defArgs s_is_cover) (defBody s_is_cover) (defScope s_is_cover) [] [] (He.ga K "is_cover") fd := T.tx.says.def_ 13 (d := dd_is_cover) rfl
theorem fd_cover (T : TX K mg) : ∃ fd, FunD K "cover" "cover" (defArgs s_cover) (defBody s_cover) (defScope s_cover) [] [] (He.ga K "cover") fd := T.tx.says.def_ 14 (d := dd_cover) rfl
theorem fd_l_number (T : TX K mg) : ∃ fd, FunD K "_law_number" "_law_number" (defArgs s_l_number) (defBody s_l_number) (defScope s_l_number) [] [] (He.ga K "_law_number") fd := T.tx.says.def_ 15 (d := dd_l_number) rfl
theorem fd_l_is_whole (T : TX K mg) : ∃ fd, FunD K "_law_is_whole" "_law_is_whole" (defArgs s_l_is_whole) (defBody s_l_is_whole) (defScope s_l_is_whole) [] [] (He.ga K "_law_is_whole") fd := T.tx.says.def_ 16 (d := dd_l_is_whole) rfl
theorem fd_l_same (T : TX K mg) : ∃ fd, FunD K "_law_same" "_law_same" (defArgs s_l_same) (defBody s_l_same) (defScope s_l_same) [] [] (He.ga K "_law_same") fd := T.tx.says.def_ 17 (d := dd_l_same) rfl
theorem fd_l_fan_spans (T : TX K mg) : ∃ fd, FunD K "_law_fan_spans" "_law_fan_spans" (defArgs s_l_fan_spans) (defBody s_l_fan_spans) (defScope s_l_fan_spans) [] [] (He.ga K "_law_fan_spans") fd := T.tx.says.def_ 18 (d := dd_l_fan_spans) rfl
theorem fd_l_fan (T : TX K mg) : ∃ fd, FunD K "_law_fan" "_law_fan" (defArgs s_l_fan) (defBody s_l_fan) (defScope s_l_fan) [] [] (He.ga K "_law_fan") fd := T.tx.says.def_ 19 (d := dd_l_fan) rfl
theorem fd_l_range (T : TX K mg) : ∃ fd, FunD K "_law_range" "_law_range" (defArgs s_l_range) (defBody s_l_range) (defScope s_l_range) [] [] (He.ga K "_law_range") fd := T.tx.says.def_ 20 (d := dd_l_range) rfl
theorem fd_l_cover_refused (T : TX K mg) : ∃ fd, FunD K "_law_cover_refused" "_law_cover_refused" (defArgs s_l_cover_refused) (defBody s_l_cover_refused) (defScope s_l_cover_refused) [] [] (He.ga K "_law_cover_refused") fd := T.tx.says.def_ 21 (d := dd_l_cover_refused) rfl
theorem fd_l_is_cover (T : TX K mg) : ∃ fd, FunD K "_law_is_cover" "_law_is_cover" (defArgs s_l_is_cover) (defBody s_l_is_cover) (defScope s_l_is_cover) [] [] (He.ga K "_law_is_cover") fd := T.tx.says.def_ 22 (d := dd_l_is_cover) rfl
theorem fd_l_least_count (T : TX K mg) : ∃ fd, FunD K "_law_least_count" "_law_least_count" (defArgs s_l_least_count) (defBody s_l_least_count) (defScope s_l_least_count) [] [] (He.ga K "_law_least_count") fd := T.tx.says.def_ 23 (d := dd_l_least_count) rfl
theorem fd_l_cover_good (T : TX K mg) : ∃ fd, FunD K "_law_cover_good" "_law_cover_good" (defArgs s_l_cover_good) (defBody s_l_cover_good) (defScope s_l_cover_good) [] [] (He.ga K "_law_cover_good") fd := T.tx.says.def_ 24 (d := dd_l_cover_good) rfl
theorem fd_law (T : TX K mg) : ∃ fd, FunD K "law" "law" (defArgs s_law) (defBody s_law) (defScope s_law) [] [] (He.ga K "law") fd := T.tx.says.def_ 25 (d := dd_law) rfl
end
/-! ### _law_number -/
def lnIt : Nat → Int → Int
  | 0, r => r
  | n + 1, r => lnIt n r / 1000
theorem lnIt_zero {n : Nat} {r : Int} (h : lnIt n r = 0) : ∀ m, n ≤ m → lnIt m r = 0 := fun m l => by
  induction l with
  | refl => exact h
  | step _ ih =>
    show lnIt _ r / 1000 = 0
    rw [ih]
    rfl
theorem lnIt_nn {r : Int} (h : 0 ≤ r) : ∀ n, 0 ≤ lnIt n r
  | 0 => h
  | n + 1 => by
    have := lnIt_nn h n
    show 0 ≤ lnIt n r / 1000
    omega
def lnAbs (i : Int) : Int := if i < 0 then -i else i
def lnCell (ns : List Int) (a : Int) : Int := if ns.length = 0 then 0 else lnAbs (ns.getD (a % (ns.length : Int)).toNat 0)
def lnTurn (ns : List Int) (a : Int) : Int := if ns.length = 0 then a else a / (ns.length : Int)
def lnEnd (m p sz : Int) : Int :=
  let m1 := (m + 7919 * p + 13) % 2147483647
  let m2 := (m1 * (m1 + 48271)) % 2147483629
  let m3 := (m2 * (m2 + 69621) + 31 * p) % 2147483647
  (m3 / 9) % sz
@[irreducible] def lawNum (ns : List Int) (a k sz : Int) : Int :=
  if 10 ^ 18 ≤ lnCell ns a ∧ 0 < lnIt (k + 16 * lnTurn ns a).toNat (lnCell ns a / 10 ^ 18) then (lnIt (k + 16 * lnTurn ns a).toNat (lnCell ns a / 10 ^ 18) % 1000) % sz
  else lnEnd (lnCell ns a) (k + 16 * lnTurn ns a) sz
theorem lawNum_nn (ns : List Int) (a k sz : Int) (h : 0 < sz) : 0 ≤ lawNum ns a k sz := by
  unfold lawNum lnEnd
  split <;> exact Int.emod_nonneg _ (by omega)
theorem lawNum_lt (ns : List Int) (a k sz : Int) (h : 0 < sz) : lawNum ns a k sz < sz := by
  unfold lawNum lnEnd
  split <;> exact Int.emod_lt_of_pos _ h
def NumOk (a k sz : Int) : Prop := -1000000 ≤ a ∧ a ≤ 1000000 ∧ -1000000 ≤ k ∧ k ≤ 1000000 ∧ 0 < sz
def spNum (K : PySem.W.Frag) : Sp := fun vs H Q _ => ∃ (s : Addr) (ns : List Int) (a k sz : Int), vs = [.ref s, .int a, .int k, .int sz] ∧ SqL K H s (ns.map V.int) ∧ ns.length ≤ 63 ∧ NumOk a k sz ∧ RetV (.int (lawNum ns a k sz)) H Q
theorem sv_num {K : PySem.W.Frag} {H : Hp} {s : Addr} {ns : List Int} {a k sz : Int} (h : SqL K H s (ns.map V.int)) (hl : ns.length ≤ 63) (ok : NumOk a k sz) : SpV (spNum K) [.ref s, .int a, .int k, .int sz] H (.int (lawNum ns a k sz)) :=
  fun H1 e Q q E => ⟨s, ns, a, k, sz, rfl, ex_l e h, hl, ok, q⟩
section
variable {P : Program} {w : World} {K : PySem.W.Frag} {mg : Str → Option Value} {base : Heap}
theorem ev_cellAt {ns : List Int} {s : Addr} {σ : L2.St} {H : Hp} {ta tb : TE} {i : Int} (ha : Ev ta σ H (.ref s)) (hb : Ev tb σ H (.int i)) (h : SqL K H s (ns.map V.int)) (h0 : 0 ≤ i) (h1 : i < (ns.length : Int)) : Ev (tOp (rIxL K) ta tb) σ H (.int (ns.getD i.toNat 0)) := by
  have e : ((i.toNat : Nat) : Int) = i := Int.toNat_of_nonneg h0
  have l : i.toNat < ns.length := by omega
  refine ev_op ha hb (rv_ixL h ?_)
  rw [← e]
  refine atI_nat ?_
  rw [Int.toNat_natCast, List.getElem?_map, List.getElem?_eq_getElem l, List.getD_eq_getElem?_getD, List.getElem?_eq_getElem l]
  rfl
theorem sc_l_number : FnScope ["_law_script", "_law_at", "_law_k", "_law_size", "_law_cell", "_law_turn", "_law_pick", "_law_rest", "_law_step", "_law_mixed"] ["_law_script", "_law_at", "_law_k", "_law_size"] (defScope s_l_number) := ⟨rfl, rfl, rfl, by decide +kernel, rfl, by decide +kernel, by decide +kernel⟩
theorem fn_l_number (T : TX K mg) : ∃ fd, FunD K "_law_number" "_law_number" (defArgs s_l_number) (defBody s_l_number) (defScope s_l_number) [] [] (He.ga K "_law_number") fd ∧ FnOk P w K mg base CX0 (1) (He.ga K "_law_number") fd ["_law_script", "_law_at", "_law_k", "_law_size"] (spNum K) := by
  obtain ⟨fd, F⟩ := fd_l_number T
  refine ⟨fd, F, My.FunD.ok0 F sc_l_number (fun vs H Q E h => ?_) (fun cdv A outer s0 H vs Q E hr h => ?_)⟩
  · obtain ⟨s, ns, a, k, sz, rfl, hS, hl, ok, hQ⟩ := h
    rfl
  obtain ⟨s, ns, a, k, sz, rfl, hS, hl, ok, hQ⟩ := h
  have hu := hu_of hr
  refine ⟨_, (pss_cons (ps_set (i := 4) sc_l_number.nd rfl (Or.inl rfl) pe_int)
      (pss_cons (ps_set (i := 5) sc_l_number.nd rfl (Or.inl rfl) (pv 1))
      (pss_cut (ps_if (pt_cmpR op_gt (pe_callB (lenQ K) (by rfl) (fr_len T) PySem.boot_len (pa_cons (pv 0) pa_nil)) pe_int (nomark _)) (pss_cons (ps_set (i := 4) sc_l_number.nd rfl (Or.inl rfl) (pe_callB call_abs (by rfl) (fr_abs T) (by decide +kernel) (pa_cons (pe_ix (ixL K) (pv 0) (pe_op op_mod (pe_callTy call_int1 (by rfl) (fr_int T) (by decide +kernel) (pa_cons (pv 1) pa_nil)) (pe_callB (lenQ K) (by rfl) (fr_len T) PySem.boot_len (pa_cons (pv 0) pa_nil))) (fun _ _ => rfl)) pa_nil)))
      (pss_one (ps_set (i := 5) sc_l_number.nd rfl (Or.inl rfl) (pe_op op_fdiv (pv 1) (pe_callB (lenQ K) (by rfl) (fr_len T) PySem.boot_len (pa_cons (pv 0) pa_nil)))))) pss_nil)
      (pss_cons (ps_set (i := 6) sc_l_number.nd rfl (Or.inl rfl) (pe_op op_add (pv 2) (pe_op op_mul pe_int (pv 5))))
      (pss_cut (ps_if (pt_cmpR op_ge (pv 4) (pe_op op_pow pe_int pe_int) (nomark _)) (pss_cons (ps_set (i := 7) sc_l_number.nd rfl (Or.inl rfl) (pe_op op_fdivW (pv 4) (pe_op op_pow pe_int pe_int)))
      (pss_cut (ps_for PassesOwn.never rfl (pi_range1 rfl (fr_range T) (pa_cons (pv 6) pa_nil)) (pg_name (i := 8) sc_l_number.nd rfl (Or.inl rfl)) (pss_cons (ps_if (pt_cmpR op_eq (pv 7) pe_int (nomark _)) (pss_one ps_break) pss_nil)
      (pss_one (ps_set (i := 7) sc_l_number.nd rfl (Or.inl rfl) (pe_op op_fdiv (pv 7) pe_int)))))
      (pss_one (ps_if (pt_cmpR op_gt (pv 7) pe_int (nomark _)) (pss_one (ps_ret (pe_op op_mod (pe_callTy call_int1 (by rfl) (fr_int T) (by decide +kernel) (pa_cons (pe_op op_mod (pe_callTy call_int1 (by rfl) (fr_int T) (by decide +kernel) (pa_cons (pv 7) pa_nil)) pe_int) pa_nil)) (pv 3)))) pss_nil)))) pss_nil)
      (pss_cons (ps_set (i := 9) sc_l_number.nd rfl (Or.inl rfl) (pe_op op_mod (pe_callTy call_int1 (by rfl) (fr_int T) (by decide +kernel) (pa_cons (pe_op op_add (pe_op op_add (pv 4) (pe_op op_mul pe_int (pv 6))) pe_int) pa_nil)) pe_int))
      (pss_cons (ps_set (i := 9) sc_l_number.nd rfl (Or.inl rfl) (pe_op op_mod (pe_callTy call_int1 (by rfl) (fr_int T) (by decide +kernel) (pa_cons (pe_op op_mul (pv 9) (pe_op op_add (pv 9) pe_int)) pa_nil)) pe_int))
      (pss_cons (ps_set (i := 9) sc_l_number.nd rfl (Or.inl rfl) (pe_op op_mod (pe_callTy call_int1 (by rfl) (fr_int T) (by decide +kernel) (pa_cons (pe_op op_add (pe_op op_mul (pv 9) (pe_op op_add (pv 9) pe_int)) (pe_op op_mul pe_int (pv 6))) pa_nil)) pe_int))
      (pss_one (ps_ret (pe_op op_mod (pe_callTy call_int1 (by rfl) (fr_int T) (by decide +kernel) (pa_cons (pe_op op_fdiv (pv 9) pe_int) pa_nil)) (pv 3)))))))))))), ?_⟩
  unfold NumOk at ok
  have hL : ((ns.map V.int).length : Int) = (ns.length : Int) := by rw [List.length_map]
  refine q_asg ev_c fun H1 e1 => ?_
  refine q_asg (ev_var rfl) fun H2 e2 => ?_
  have E2 := e1.trans e2
  -- if len(script) > 0
  refine q_cut (M := fun σ' H' => Ex H H' ∧ σ' = [some (.ref s), some (.int a), some (.int k), some (.int sz), some (.int (lnCell ns a)), some (.int (lnTurn ns a)), none, none, none, none])
    (s_if (et_test (ev_op (ev_cb (ea_cons (ev_var rfl) ea_nil) (rc_lenL (ex_l E2 hS))) ev_c rv_I0)) (fun hb H3 e3 => ?_) (fun hb H3 e3 => ?_)) (fun σ4 H4 hM => ?_)
  · have hp : (0 : Int) < (ns.length : Int) := by
      have := of_decide_eq_true hb
      rw [hL] at this
      exact this
    have E3 := E2.trans e3
    have hS3 := ex_l E3 hS
    have em := Int.emod_nonneg a (show (ns.length : Int) ≠ 0 by omega)
    have el := Int.emod_lt_of_pos a hp
    have nz : ¬ ns.length = 0 := by omega
    refine q_asg (ev_cb (ea_cons (ev_cellAt (ns := ns) (i := a % (ns.length : Int)) (ev_var rfl) (ev_is (ev_op (ev_cb (ea_cons (ev_var rfl) ea_nil) rc_int) (ev_cb (ea_cons (ev_var rfl) ea_nil) (rc_lenL hS3)) (rv_I (by rw [hL]; exact hp))) (by rw [hL])) hS3 em el) ea_nil) rc_abs) fun H4 e4 => ?_
    have hS4 := ex_l e4 hS3
    refine s_asg (ev_op (ev_var rfl) (ev_cb (ea_cons (ev_var rfl) ea_nil) (rc_lenL hS4)) (rv_I (by rw [hL]; exact ⟨hp, by omega⟩))) fun H5 e5 => ?_
    refine ⟨(E3.trans e4).trans e5, ?_⟩
    unfold lnCell lnTurn lnAbs
    rw [if_neg nz, if_neg nz, hL]
    rfl
  · have hp : ns.length = 0 := by
      have := of_decide_eq_false hb
      rw [hL] at this
      omega
    refine ⟨E2.trans e3, ?_⟩
    unfold lnCell lnTurn
    rw [if_pos hp, if_pos hp]
    rfl
  obtain ⟨E4, rfl⟩ := hM
  have hturn : -1000000 ≤ lnTurn ns a ∧ lnTurn ns a ≤ 1000000 := by
    unfold lnTurn
    split
    · omega
    · have hp : (0 : Int) < (ns.length : Int) := by omega
      refine ⟨?_, ?_⟩
      · rw [Int.le_ediv_iff_mul_le hp]
        omega
      · have h2 : a / (ns.length : Int) < 1000000 + 1 := by
          rw [Int.ediv_lt_iff_lt_mul hp]
          omega
        omega
  have hcell : 0 ≤ lnCell ns a := by
    unfold lnCell lnAbs
    split
    · exact Int.le_refl _
    · split <;> omega
  have hnum : lawNum ns a k sz = if 10 ^ 18 ≤ lnCell ns a ∧ 0 < lnIt (k + 16 * lnTurn ns a).toNat (lnCell ns a / 10 ^ 18) then (lnIt (k + 16 * lnTurn ns a).toNat (lnCell ns a / 10 ^ 18) % 1000) % sz
      else lnEnd (lnCell ns a) (k + 16 * lnTurn ns a) sz := by unfold lawNum; rfl
  rw [hnum] at hQ
  clear hnum
  generalize lnCell ns a = c at *
  generalize lnTurn ns a = tn at *
  refine q_asg (ev_op (ev_var rfl) (ev_op ev_c (ev_var rfl) (rv_I (Or.inl (by decide)))) rv_I0) fun H5 e5 => ?_
  have E5 := E4.trans e5
  have d18 : CPow 10 18 := by unfold CPow; decide
  have n18 : ((10 : Int) ^ (18 : Int).toNat) = 10 ^ 18 := rfl
  generalize hp : k + 16 * tn = p at *
  refine q_cut (M := fun σ' H' => Ex H H' ∧ (∃ o1 o2, σ' = [some (.ref s), some (.int a), some (.int k), some (.int sz), some (.int c), some (.int tn), some (.int p), o1, o2, none]) ∧ ¬ (10 ^ 18 ≤ c ∧ 0 < lnIt p.toNat (c / 10 ^ 18)))
    (s_if (et_test (ev_op (ev_var rfl) (ev_op ev_c ev_c (rv_I d18)) rv_I0)) (fun hb H6 e6 => ?_) (fun hb H6 e6 => ?_)) (fun σ7 H7 hM => ?_)
  · have hb' : (10 : Int) ^ 18 ≤ c := of_decide_eq_true hb
    have dw : CDivW c (10 ^ 18) := wide_div (b := 60) (by decide) (by decide) (by decide) (by decide)
    refine q_asg (ev_op (ev_var rfl) (ev_op ev_c ev_c (rv_I d18)) (rv_I dw)) fun H7 e7 => ?_
    have E7 := (E5.trans e6).trans e7
    refine q_forR1' (n := p) (ea_cons (ev_var rfl) ea_nil) (by omega) (fun i σ' H' => Ex H H' ∧ ∃ o, σ' = [some (.ref s), some (.int a), some (.int k), some (.int sz), some (.int c), some (.int tn), some (.int p), some (.int (lnIt i (c / 10 ^ 18))), o, none])
      (fun σ' H' => Ex H H' ∧ ∃ o, σ' = [some (.ref s), some (.int a), some (.int k), some (.int sz), some (.int c), some (.int tn), some (.int p), some (.int (lnIt p.toNat (c / 10 ^ 18))), o, none]) ?_ ?_ ?_ ?_
    · exact fun H8 e8 => ⟨E7.trans e8, _, rfl⟩
    · rintro i σ' H' hi ⟨E8, o, rfl⟩
      refine q_when (et_test (ev_op (ev_var rfl) ev_c (rv_eq rfl))) (fun hb H9 e9 => ?_) (fun hb H9 e9 => ?_)
      · refine ⟨E8.trans e9, some (.int (i : Int)), ?_⟩
        have hz : lnIt i (c / 10 ^ 18) = 0 := by
          have := of_decide_eq_true hb
          injection this
        rw [hz, lnIt_zero hz p.toNat (by omega)]
        rfl
      · exact s_asg (ev_op (ev_var rfl) ev_c (rv_I (by unfold CDiv; decide))) fun H10 e10 => ⟨(E8.trans e9).trans e10, _, rfl⟩
    · rintro σ' H' ⟨E8, o, rfl⟩
      exact ⟨E8, _, rfl⟩
    · rintro σ' H' ⟨E8, o, rfl⟩
      refine s_when (et_test (ev_op (ev_var rfl) ev_c rv_I0)) (fun hb H9 e9 => ?_) (fun hb H9 e9 => ?_)
      · have hr0 : (0 : Int) < lnIt p.toNat (c / 10 ^ 18) := of_decide_eq_true hb
        rw [if_pos ⟨hb', hr0⟩] at hQ
        refine s_ret (ev_op (ev_cb (ea_cons (ev_op (ev_cb (ea_cons (ev_var rfl) ea_nil) rc_int) ev_c (rv_I (by decide))) ea_nil) rc_int) (ev_var rfl) (rv_I ok.2.2.2.2)) fun H10 e10 => ?_
        exact hQ H10 ((E8.trans e9).trans e10)
      · have hr0 : ¬ (0 : Int) < lnIt p.toNat (c / 10 ^ 18) := of_decide_eq_false hb
        exact ⟨E8.trans e9, ⟨_, _, rfl⟩, fun z => hr0 z.2⟩
  · have hb' : ¬ (10 : Int) ^ 18 ≤ c := of_decide_eq_false hb
    exact ⟨E5.trans e6, ⟨_, _, rfl⟩, fun z => hb' z.1⟩
  obtain ⟨E7, ⟨o1, o2, rfl⟩, hn⟩ := hM
  rw [if_neg hn] at hQ
  unfold lnEnd at hQ
  dsimp only at hQ
  have a1 := Int.emod_nonneg (c + 7919 * p + 13) (show (2147483647 : Int) ≠ 0 by decide)
  have b1 := Int.emod_lt_of_pos (c + 7919 * p + 13) (show (0 : Int) < 2147483647 by decide)
  refine q_asg (ev_op (ev_cb (ea_cons (ev_op (ev_op (ev_var rfl) (ev_op ev_c (ev_var rfl) (rv_I (Or.inl (by decide)))) rv_I0) ev_c rv_I0) ea_nil) rc_int) ev_c (rv_I (by decide))) fun H8 e8 => ?_
  generalize (c + 7919 * p + 13) % 2147483647 = m1 at *
  have a2 := Int.emod_nonneg (m1 * (m1 + 48271)) (show (2147483629 : Int) ≠ 0 by decide)
  have b2 := Int.emod_lt_of_pos (m1 * (m1 + 48271)) (show (0 : Int) < 2147483629 by decide)
  refine q_asg (ev_op (ev_cb (ea_cons (ev_op (ev_var rfl) (ev_op (ev_var rfl) ev_c rv_I0) (rv_I (Or.inl (by constructor <;> omega)))) ea_nil) rc_int) ev_c (rv_I (by decide))) fun H9 e9 => ?_
  generalize (m1 * (m1 + 48271)) % 2147483629 = m2 at *
  refine q_asg (ev_op (ev_cb (ea_cons (ev_op (ev_op (ev_var rfl) (ev_op (ev_var rfl) ev_c rv_I0) (rv_I (Or.inl (by constructor <;> omega)))) (ev_op ev_c (ev_var rfl) (rv_I (Or.inl (by decide)))) rv_I0) ea_nil) rc_int) ev_c (rv_I (by decide))) fun H10 e10 => ?_
  refine s_ret (ev_op (ev_cb (ea_cons (ev_op (ev_var rfl) ev_c (rv_I (by unfold CDiv; decide))) ea_nil) rc_int) (ev_var rfl) (rv_I ok.2.2.2.2)) fun H11 e11 => ?_
  exact hQ H11 (((E7.trans e8).trans e9).trans (e10.trans e11))
theorem ok_l_number (T : TX K mg) : DefOk P w K mg base (1) "_law_number" ["_law_script", "_law_at", "_law_k", "_law_size"] [] (spNum K) := by
  obtain ⟨fd, F, h⟩ := fn_l_number (P := P) (w := w) (base := base) T
  exact DefOk.of F (gl_l_number T) (F.bindsN fun _ _ _ _ _ _ us hl => match us, hl with | [_, _, _, _], _ => rfl) h
/-! ### _law_is_whole, _law_same -/
def isInt (d : PyData) : Bool := isB "int" (tyN d) && !isB "bool" (tyN d)
def spWhole (K : PySem.W.Frag) : Sp := fun vs H Q _ => ∃ (v : V) (d : PyData), vs = [v] ∧ Dp K H v d ∧ RetV (.bl (isInt d)) H Q
theorem sv_whole {K : PySem.W.Frag} {H : Hp} {v : V} {d : PyData} (h : Dp K H v d) : SpV (spWhole K) [v] H (.bl (isInt d)) := fun H1 e Q q E => ⟨v, d, rfl, dp_ex e h, q⟩
theorem sc_l_is_whole : FnScope ["_law_told"] ["_law_told"] (defScope s_l_is_whole) := ⟨rfl, rfl, rfl, by decide +kernel, rfl, by decide +kernel, by decide +kernel⟩
theorem fn_l_is_whole (T : TX K mg) : ∃ fd, FunD K "_law_is_whole" "_law_is_whole" (defArgs s_l_is_whole) (defBody s_l_is_whole) (defScope s_l_is_whole) [] [] (He.ga K "_law_is_whole") fd ∧ FnOk P w K mg base CX0 (1) (He.ga K "_law_is_whole") fd ["_law_told"] (spWhole K) := by
  obtain ⟨fd, F⟩ := fd_l_is_whole T
  refine ⟨fd, F, My.FunD.ok0 F sc_l_is_whole (fun vs H Q E h => ?_) (fun cdv A outer s0 H vs Q E hr h => ?_)⟩
  · obtain ⟨v, d, rfl, hd, hQ⟩ := h
    rfl
  obtain ⟨v, d, rfl, hd, hQ⟩ := h
  have hu := hu_of hr
  refine ⟨_, (pss_one (ps_ret (pe_and (pe_callB (isiK K) (by rfl) (fr_isinstance T) (by decide +kernel) (pa_cons (pv 0) (pa_cons (pe_bltn (v := .ty "int") (by rfl) (fr_int T) (by decide +kernel) rfl) pa_nil))) (pe_one (pe_not (pe_callB (isiK K) (by rfl) (fr_isinstance T) (by decide +kernel) (pa_cons (pv 0) (pa_cons (pe_bltn (v := .ty "bool") (by rfl) (fr_bool T) (by decide +kernel) rfl) pa_nil)))))))), ?_⟩
  exact s_ret (ev_andV (ev_isiD (ev_var rfl) hd rfl) fun _ => ev_notV (ev_isiD (ev_var rfl) hd rfl)) hQ
theorem ok_l_is_whole (T : TX K mg) : DefOk P w K mg base (1) "_law_is_whole" ["_law_told"] [] (spWhole K) := by
  obtain ⟨fd, F, h⟩ := fn_l_is_whole (P := P) (w := w) (base := base) T
  exact DefOk.of F (gl_l_is_whole T) (F.bindsN fun _ _ _ _ _ _ us hl => match us, hl with | [_], _ => rfl) h
/-- _law_same: equal through and through, told of data nested at most n deep -/
def spSame (K : PySem.W.Frag) (n : Nat) : Sp := fun vs H Q _ => ∃ (v u : V) (d e : PyData), vs = [v, u] ∧ Dp K H v d ∧ Dp K H u e ∧ Dn n d ∧ Dn n e ∧ ∀ b : Bool, (b = true ↔ d = e) → RetV (.bl b) H Q
def spIn (K : PySem.W.Frag) : Nat → Sp
  | 0 => fun _ _ _ _ => False
  | n + 1 => spSame K n
theorem sc_l_same : FnScope ["_law_told", "_law_due", "_law_k"] ["_law_told", "_law_due"] (defScope s_l_same) := ⟨rfl, rfl, rfl, by decide +kernel, rfl, by decide +kernel, by decide +kernel⟩
theorem body_same {n : Nat} (T : TX K mg) {base : Heap} {f : Addr} {cdv : Value} {A : Around} {outer : List Env} {s0 : Shared} {H : Hp} {E : XK} {Q : VK} {v u : V} {d e : PyData}
    (hr : Room (n + 1) (A.deeper (envOfC "_law_same" (defScope s_l_same) s0.heap.objs.size f cdv))) (hd : Dp K H v d) (he : Dp K H u e) (hn : Dn n d) (hm : Dn n e) (hQ : ∀ b : Bool, (b = true ↔ d = e) → RetV (.bl b) H Q)
    (rec : DefOk P w K mg base (n + 1) "_law_same" ["_law_told", "_law_due"] [] (spIn K n)) :
    ∃ t, PSs (cxOf CX0 P w K mg base ["_law_told", "_law_due", "_law_k"] "_law_same" (defScope s_l_same) f cdv A outer s0 H E).nox (defBody s_l_same) t ∧ t { nx := fun _ H' => Q .non H', rt := Q } (start ["_law_told", "_law_due", "_law_k"] [v, u]) H := by
  refine ⟨_, (pss_cons (ps_if (pt_val (pe_callB (isiTK K) (by rfl) (fr_isinstance T) (by decide +kernel) (pa_cons (pv 1) (pa_cons (pe_tup (pa_cons (pe_bltn (v := .ty "list") (by rfl) (fr_list T) (by decide +kernel) rfl) (pa_cons (pe_bltn (v := .ty "tuple") (by rfl) (fr_tuple T) (by decide +kernel) rfl) pa_nil))) pa_nil)))) (pss_cons (ps_if (PW.pt (pw_or (pt_not (pt_val (pe_callB (isiTK K) (by rfl) (fr_isinstance T) (by decide +kernel) (pa_cons (pv 0) (pa_cons (pe_tup (pa_cons (pe_bltn (v := .ty "list") (by rfl) (fr_list T) (by decide +kernel) rfl) (pa_cons (pe_bltn (v := .ty "tuple") (by rfl) (fr_tuple T) (by decide +kernel) rfl) pa_nil))) pa_nil))))) (pw_or1 (pt_cmpR op_ne (pe_callB (isiK K) (by rfl) (fr_isinstance T) (by decide +kernel) (pa_cons (pv 0) (pa_cons (pe_bltn (v := .ty "list") (by rfl) (fr_list T) (by decide +kernel) rfl) pa_nil))) (pe_callB (isiK K) (by rfl) (fr_isinstance T) (by decide +kernel) (pa_cons (pv 1) (pa_cons (pe_bltn (v := .ty "list") (by rfl) (fr_list T) (by decide +kernel) rfl) pa_nil))) (nomark _))))) (pss_one (ps_ret pe_bl)) pss_nil)
      (pss_cons (ps_if (pt_cmpR op_ne (pe_callB (lenQ K) (by rfl) (fr_len T) PySem.boot_len (pa_cons (pv 0) pa_nil)) (pe_callB (lenQ K) (by rfl) (fr_len T) PySem.boot_len (pa_cons (pv 1) pa_nil)) (nomark _)) (pss_one (ps_ret pe_bl)) pss_nil)
      (pss_one (ps_ret (pe_cmpR op_eq (pe_callB (lenQ K) (by rfl) (fr_len T) PySem.boot_len (pa_cons (pe_lc (own := [("_law_k", 2)]) rfl sc_l_same.nd (pi_range1 rfl (fr_range T) (pa_cons (pe_callB (lenQ K) (by rfl) (fr_len T) PySem.boot_len (pa_cons (pv 1) pa_nil)) pa_nil)) (blkOk_by (own := [("_law_k", 2)]) (N := ["_law_told", "_law_due", "_law_k"]) (sc := defScope s_l_same) (by decide +kernel)) (fun _ _ _ _ _ => (pg_name (i := 2) sc_l_same.nd rfl (Or.inl rfl))) (fun _ _ _ _ _ => (pts_one (pt_not (pt_val (pe_callN rec hr (pa_cons (pe_ix (ixQ K) (pv 0) (pv 2) (fun _ _ => rfl)) (pa_cons (pe_ix (ixQ K) (pv 1) (pv 2) (fun _ _ => rfl)) pa_nil)) (hk := Nat.le_refl _)))))) (fun _ _ _ _ _ => (pv 2))) pa_nil)) pe_int (nomark _)))))) pss_nil)
      (pss_cons (ps_if (pt_val (pe_callB (isiK K) (by rfl) (fr_isinstance T) (by decide +kernel) (pa_cons (pv 1) (pa_cons (pe_bltn (v := .ty "bool") (by rfl) (fr_bool T) (by decide +kernel) rfl) pa_nil)))) (pss_one (ps_ret (pe_and (pe_callB (isiK K) (by rfl) (fr_isinstance T) (by decide +kernel) (pa_cons (pv 0) (pa_cons (pe_bltn (v := .ty "bool") (by rfl) (fr_bool T) (by decide +kernel) rfl) pa_nil))) (pe_one (pe_cmpR op_eq (pv 0) (pv 1) (nomark _)))))) pss_nil)
      (pss_cons (ps_if (pt_val (pe_callB (isiK K) (by rfl) (fr_isinstance T) (by decide +kernel) (pa_cons (pv 1) (pa_cons (pe_bltn (v := .ty "int") (by rfl) (fr_int T) (by decide +kernel) rfl) pa_nil)))) (pss_one (ps_ret (pe_and (pe_callN (ok_l_is_whole (P := P) (w := w) (base := base) T) hr (pa_cons (pv 0) pa_nil) (hk := by omega)) (pe_one (pe_cmpR op_eq (pv 0) (pv 1) (nomark _)))))) pss_nil)
      (pss_cons (ps_if (pt_val (pe_callB (isiK K) (by rfl) (fr_isinstance T) (by decide +kernel) (pa_cons (pv 1) (pa_cons (pe_bltn (v := .ty "str") (by rfl) (fr_str T) (by decide +kernel) rfl) pa_nil)))) (pss_one (ps_ret (pe_and (pe_callB (isiK K) (by rfl) (fr_isinstance T) (by decide +kernel) (pa_cons (pv 0) (pa_cons (pe_bltn (v := .ty "str") (by rfl) (fr_str T) (by decide +kernel) rfl) pa_nil))) (pe_one (pe_cmpR op_eq (pv 0) (pv 1) (nomark _)))))) pss_nil)
      (pss_one (ps_ret (pe_and (pe_cmp (pc_isN (pv 0))) (pe_one (pe_cmp (pc_isN (pv 1))))))))))), ?_⟩
  have skip2 : ∀ {tz : TS} {D : Ends} {H1 : Hp} {tu : TS}, isB "list" (tyN e) = false → isB "tuple" (tyN e) = false → Ex H H1 → (∀ H2, Ex H H2 → tz D [some v, some u, none] H2) →
      tSeq (tIfS (tB (tCB (rIsiT K) (tCons (tVar 1) (tCons (tTup (tCons (tC (.ty "list")) (tCons (tC (.ty "tuple")) tNil))) tNil)))) tu tNext) tz D [some v, some u, none] H1 := fun {tz D H1 tu} h1 h2 e1 k =>
    q_when (b := false) (et_B (ev_is (ev_isiD2 (ev_var rfl) (dp_ex e1 he) (by rfl) (by rfl)) (by rw [h1, h2]; rfl))) (fun h => nomatch h) fun _ H2 e2 => k H2 (e1.trans e2)
  have skip1 : ∀ {tz : TS} {D : Ends} {H1 : Hp} {tu : TS} {c : String}, isB c (tyN e) = false → askd c = true → Ex H H1 → (∀ H2, Ex H H2 → tz D [some v, some u, none] H2) →
      tSeq (tIfS (tB (tCB (rIsi K) (tCons (tVar 1) (tCons (tC (.ty c)) tNil)))) tu tNext) tz D [some v, some u, none] H1 := fun {tz D H1 tu c} h1 h2 e1 k =>
    q_when (b := false) (et_B (ev_is (ev_isiD (ev_var rfl) (dp_ex e1 he) h2) (by rw [h1]))) (fun h => nomatch h) fun _ H2 e2 => k H2 (e1.trans e2)
  have take1 : ∀ {tz : TS} {D : Ends} {H1 : Hp} {tu : TS} {c : String}, isB c (tyN e) = true → askd c = true → Ex H H1 → (∀ H2, Ex H H2 → tu { D with nx := tz D } [some v, some u, none] H2) →
      tSeq (tIfS (tB (tCB (rIsi K) (tCons (tVar 1) (tCons (tC (.ty c)) tNil)))) tu tNext) tz D [some v, some u, none] H1 := fun {tz D H1 tu c} h1 h2 e1 k =>
    q_when (b := true) (et_B (ev_is (ev_isiD (ev_var rfl) (dp_ex e1 he) h2) (by rw [h1]))) (fun _ H2 e2 => k H2 (e1.trans e2)) (fun h => nomatch h)
  by_cases hsq : ∃ (b : Bool) (es : List PyData), e = seqD b es
  · obtain ⟨b, es, rfl⟩ := hsq
    obtain ⟨a, us, rfl, hs, hu'⟩ := dp_seq he
    obtain ⟨m, rfl, hlen, hmm⟩ := dn_seq hm
    refine q_when (b := true) (et_B (ev_is (ev_isiD2 (ev_var rfl) he (by rfl) (by rfl)) (by cases b <;> simp [seqD, tyN, isB_tab]))) (fun _ H1 e1 => ?_) (fun h => nomatch h)
    refine q_when (et_or (et_not (et_B (ev_isiD2 (ev_var rfl) (dp_ex e1 hd) (by rfl) (by rfl)))) fun _ => et_test (ev_op (ev_isiD (ev_var rfl) (dp_ex e1 hd) (by rfl)) (ev_isiD (ev_var rfl) (dp_ex e1 he) (by rfl)) (rv_ne rfl))) (fun hb H2 e2 => ?_) (fun hb H2 e2 => ?_)
    · refine s_ret ev_c fun H3 e3 => hQ false ?_ H3 (e1.trans (e2.trans e3))
      refine ⟨(fun z => nomatch z), fun z => ?_⟩
      subst z
      cases b <;> simp [seqD, tyN, isB_tab] at hb
    have hd1 : ∃ ds, d = seqD b ds := by
      cases b <;> cases hd <;> simp [seqD, tyN, isB_tab] at hb ⊢
    obtain ⟨ds, rfl⟩ := hd1
    obtain ⟨a2, vs, rfl, hs2, hv'⟩ := dp_seq hd
    obtain ⟨m', hm', hlen2, hmm2⟩ := dn_seq hn
    obtain rfl : m = m' := by omega
    have E2 := e1.trans e2
    have lu := dpa_len hu'
    have lv := dpa_len hv'
    refine q_when (et_test (ev_op (ev_cb (ea_cons (ev_var rfl) ea_nil) (rc_lenB (hs2.ex E2))) (ev_cb (ea_cons (ev_var rfl) ea_nil) (rc_lenB (hs.ex E2))) (rv_ne rfl))) (fun hz H3 e3 => ?_) (fun hz H3 e3 => ?_)
    · refine s_ret ev_c fun H4 e4 => hQ false ?_ H4 (E2.trans (e3.trans e4))
      refine ⟨(fun z => nomatch z), fun z => ?_⟩
      rw [seqD_inj] at z
      subst z
      rw [lu, lv] at hz
      simp at hz
    have ll : ds.length = es.length := by
      rw [lu, lv] at hz
      simp at hz
      omega
    classical
    have E3 := E2.trans e3
    have hs3 := hs.ex E3
    have hs23 := hs2.ex E3
    refine s_ret (ev_op (ev_lenN' (el_lcR1 (n := (us.length : Int)) (fun i => !decide (ds[i]? = es[i]?)) (fun i => .int (i : Int)) (ea_cons (ev_cb (ea_cons (ev_var rfl) ea_nil) (rc_lenB hs3)) ea_nil) (by omega) (fun _ => rfl) (fun i H4 e4 hi => ?_) (fun i H4 e4 hi _ => ev_var rfl))) ev_c (rv_eq rfl)) fun H5 e5 => hQ _ ?_ H5 (E3.trans e5)
    · have hi1 : i < es.length := by omega
      have hi2 : i < ds.length := by omega
      obtain ⟨x1, hx1, hx2⟩ := dpa_at hu' hi1
      obtain ⟨y1, hy1, hy2⟩ := dpa_at hv' hi2
      refine et_not (et_B (ev_call (ea_cons (ev_op (ev_var rfl) (ev_var rfl) (rv_ixB (hs23.ex e4) (atI_nat hy1))) (ea_cons (ev_op (ev_var rfl) (ev_var rfl) (rv_ixB (hs3.ex e4) (atI_nat hx1))) ea_nil)) ?_))
      intro H6 e6 Q' q' E'
      have E6 := (E3.trans e4).trans e6
      refine ⟨y1, x1, ds[i], es[i], rfl, dp_ex E6 hy2, dp_ex E6 hx2, hmm2 _ (List.getElem_mem _), hmm _ (List.getElem_mem _), fun b' hb' => ?_⟩
      have eb : b' = decide (ds[i]? = es[i]?) := by
        rw [List.getElem?_eq_getElem hi1, List.getElem?_eq_getElem hi2, Bool.eq_iff_iff, hb', decide_eq_true_iff]
        simp
      rw [eb]
      exact q'
    · rw [seqD_inj, decide_eq_true_iff]
      have e1' : (V.int (((given (us.length : Int).toNat (fun i => !decide (ds[i]? = es[i]?)) (fun i => .int (i : Int))).length : Nat) : Int) = V.int 0) ↔ (given (us.length : Int).toNat (fun i => !decide (ds[i]? = es[i]?)) (fun i => .int (i : Int))).length = 0 := by
        constructor
        · intro h
          injection h with h
          omega
        · intro h
          rw [h]
          rfl
      rw [e1', given_none]
      constructor
      · intro h
        refine List.ext_getElem? fun i => ?_
        by_cases hi : i < es.length
        · have := h i (by omega)
          simpa using this
        · rw [List.getElem?_eq_none (by omega), List.getElem?_eq_none (by omega)]
      · intro h i hi
        rw [h]
        simp
  cases e with
  | none =>
    cases he with
    | non =>
    refine skip2 (by simp [tyN, isB_tab]) (by simp [tyN, isB_tab]) (Ex.refl H) fun H1 e1 => ?_
    refine skip1 (by simp [tyN, isB_tab]) (by rfl) e1 fun H2 e2 => ?_
    refine skip1 (by simp [tyN, isB_tab]) (by rfl) e2 fun H3 e3 => ?_
    refine skip1 (by simp [tyN, isB_tab]) (by rfl) e3 fun H4 e4 => ?_
    refine s_ret (ev_andV (ev_isN (ev_var rfl)) fun _ => ev_isN (ev_var rfl)) fun H5 e5 => ?_
    refine hQ _ ?_ H5 (e4.trans e5)
    cases hd <;> simp
  | bool b =>
    cases he with
    | bl =>
    refine skip2 (by simp [tyN, isB_tab]) (by simp [tyN, isB_tab]) (Ex.refl H) fun H1 e1 => ?_
    refine take1 (by simp [tyN, isB_tab]) (by rfl) e1 fun H2 e2 => ?_
    refine s_ret (ev_andV (ev_isiD (ev_var rfl) (dp_ex e2 hd) (by rfl)) fun hc => ev_op (ev_var rfl) (ev_var rfl) (rv_eq (by cases hd <;> first | rfl | (simp [tyN, isB_tab] at hc)))) fun H5 e5 => hQ _ ?_ H5 (e2.trans e5)
    cases hd <;> simp [tyN, isB_tab]
  | int b =>
    cases he with
    | int =>
    refine skip2 (by simp [tyN, isB_tab]) (by simp [tyN, isB_tab]) (Ex.refl H) fun H1 e1 => ?_
    refine skip1 (by simp [tyN, isB_tab]) (by rfl) e1 fun H2 e2 => ?_
    refine take1 (by simp [tyN, isB_tab]) (by rfl) e2 fun H3 e3 => ?_
    refine s_ret (ev_andV (ev_call (ea_cons (ev_var rfl) ea_nil) (sv_whole (dp_ex e3 hd))) fun hc => ev_op (ev_var rfl) (ev_var rfl) (rv_eq (by cases hd <;> first | rfl | (simp [isInt, tyN, isB_tab] at hc)))) fun H5 e5 => hQ _ ?_ H5 (e3.trans e5)
    cases hd <;> simp [isInt, tyN, isB_tab]
  | str b =>
    cases he with
    | str =>
    refine skip2 (by simp [tyN, isB_tab]) (by simp [tyN, isB_tab]) (Ex.refl H) fun H1 e1 => ?_
    refine skip1 (by simp [tyN, isB_tab]) (by rfl) e1 fun H2 e2 => ?_
    refine skip1 (by simp [tyN, isB_tab]) (by rfl) e2 fun H3 e3 => ?_
    refine take1 (by simp [tyN, isB_tab]) (by rfl) e3 fun H4 e4 => ?_
    refine s_ret (ev_andV (ev_isiD (ev_var rfl) (dp_ex e4 hd) (by rfl)) fun hc => ev_op (ev_var rfl) (ev_var rfl) (rv_eq (by cases hd <;> first | rfl | (simp [tyN, isB_tab] at hc)))) fun H5 e5 => hQ _ ?_ H5 (e4.trans e5)
    cases hd <;> simp [tyN, isB_tab]
  | list es => exact absurd ⟨true, es, rfl⟩ hsq
  | tuple es => exact absurd ⟨false, es, rfl⟩ hsq
  | dict es => cases he
theorem fn_l_same (T : TX K mg) {base : Heap} : ∀ n : Nat, ∃ fd, FunD K "_law_same" "_law_same" (defArgs s_l_same) (defBody s_l_same) (defScope s_l_same) [] [] (He.ga K "_law_same") fd ∧ FnOk P w K mg base CX0 (n + 2) (He.ga K "_law_same") fd ["_law_told", "_law_due"] (spSame K n) := fun n => by
  obtain ⟨fd, F⟩ := fd_l_same T
  have b : Binds K fd ["_law_told", "_law_due"] [] := F.bindsN fun _ _ _ _ _ _ us hl => match us, hl with | [_, _], _ => rfl
  refine ⟨fd, F, ?_⟩
  induction n with
  | zero =>
    refine My.FunD.ok0 F sc_l_same (fun vs H Q E h => ?_) (fun cdv A outer s0 H vs Q E hr h => ?_)
    · obtain ⟨_, _, _, _, rfl, _⟩ := h
      rfl
    obtain ⟨v, u, d, e, rfl, hd, he, hn, hm, hQ⟩ := h
    exact body_same T hr hd he hn hm hQ (DefOk.of F (gl_l_same T) b ⟨fun _ _ _ _ h => h.elim, fun _ _ _ _ _ _ _ _ _ _ _ _ _ h => h.elim⟩)
  | succ n ih =>
    refine My.FunD.ok0 F sc_l_same (fun vs H Q E h => ?_) (fun cdv A outer s0 H vs Q E hr h => ?_)
    · obtain ⟨_, _, _, _, rfl, _⟩ := h
      rfl
    obtain ⟨v, u, d, e, rfl, hd, he, hn, hm, hQ⟩ := h
    exact body_same T hr hd he hn hm hQ (DefOk.of F (gl_l_same T) b ih)
theorem ok_l_same (T : TX K mg) {base : Heap} (n : Nat) : DefOk P w K mg base (n + 2) "_law_same" ["_law_told", "_law_due"] [] (spSame K n) := by
  obtain ⟨fd, F, h⟩ := fn_l_same (P := P) (w := w) T (base := base) n
  exact DefOk.of F (gl_l_same T) (F.bindsN fun _ _ _ _ _ _ us hl => match us, hl with | [_, _], _ => rfl) h
theorem sv_same {K : PySem.W.Frag} {H : Hp} {v u : V} {d e : PyData} {n : Nat} {b : Bool} (hd : Dp K H v d) (he : Dp K H u e) (hn : Dn n d) (hm : Dn n e) (hb : b = true ↔ d = e) : SpV (spSame K n) [v, u] H (.bl b) := fun H1 x Q q E =>
  ⟨v, u, d, e, rfl, dp_ex x hd, dp_ex x he, hn, hm, fun b' h' => by
    have : b' = b := by rw [Bool.eq_iff_iff, h', hb]
    rw [this]
    exact q⟩
end

section
variable {P : Program} {w : World} {K : PySem.W.Frag} {mg : Str → Option Value} {base : Heap}
/-! ### BadRange -/
def okRange : List V → Prop := fun ws => ∃ i j : Int, ws = [.int i, .int j] ∧ small i ∧ small j
def fsRange : List V → List (Str × V)
  | [s, e] => [("end", e), ("start", s)]
  | _ => []
theorem range_text {i j : Int} (hi : small i) (hj : small j) : ∃ out : Str, ∀ {t1 t2 : TE} {σ : L2.St} {H : Hp}, Ev t1 σ H (.int i) → Ev t2 σ H (.int j) →
    Ev (fun σ H Q => tJs [tC (V.str (Str.ofString "range ")), tFmt t1, tC (V.str (Str.ofString " to ")), tFmt t2, tC (V.str (Str.ofString " is not allowed"))] Str.empty σ H fun out H1 => Q (V.str out) H1) σ H (.str out) := by
  refine ⟨((((Str.empty ++ Str.ofString "range ") ++ Str.ofString (toString i)) ++ Str.ofString " to ") ++ Str.ofString (toString j)) ++ Str.ofString " is not allowed", fun {t1 t2 σ H} h1 h2 => ?_⟩
  have l1 := small_len hi
  have l2 := small_len hj
  have c1 : (Str.ofString "range ").length = 6 := by decide +kernel
  have c2 : (Str.ofString " to ").length = 4 := by decide +kernel
  have c3 : (Str.ofString " is not allowed").length = 15 := by decide +kernel
  have c0 : Str.empty.length = 0 := rfl
  refine ev_joined (ej_cons ev_c (ej_cons (fmt_int h1 hi) (ej_cons ev_c (ej_cons (fmt_int h2 hj) (ej_cons ev_c ej_nil ?_) ?_) ?_) ?_) ?_) <;> (simp only [str_len_app]; exact sz_of (by omega))
theorem sc_BadRange___init__ : FnScope ["self", "start", "end"] ["self", "start", "end"] (defScope s_BadRange___init__) := ⟨rfl, rfl, rfl, by decide +kernel, rfl, by decide +kernel, by decide +kernel⟩
theorem fn_BadRange___init__ (T : TX K mg) : ∃ fd, FunD K "__init__" "BadRange.__init__" (defArgs s_BadRange___init__) (defBody s_BadRange___init__) (defScope s_BadRange___init__) [] [] (He.ma K (He.ga K "BadRange") "__init__") fd ∧ FnOk P w K mg base CX0 (1) (He.ma K (He.ga K "BadRange") "__init__") fd ["self", "start", "end"] (spXinit K (He.ga K "BadRange") okRange fsRange) := by
  obtain ⟨fd, F⟩ := fd_BadRange___init__ T
  refine ⟨fd, F, My.FunD.ok0 F sc_BadRange___init__ (fun vs H Q E h => ?_) (fun cdv A outer s0 H vs Q E hr h => ?_)⟩
  · obtain ⟨a, _, rfl, ⟨i, j, rfl, hi, hj⟩, ha, hQ⟩ := h
    rfl
  obtain ⟨a, _, rfl, ⟨i, j, rfl, hi, hj⟩, ha, hQ⟩ := h
  have hu := hu_of hr
  refine ⟨_, (pss_cons (ps_expr (pe_baseinit K (gl_AccessError T) (base_AccessError T).1 (base_AccessError T).2.1 (base_AccessError T).2.2 (pa_cons (pv 0) (pa_cons (pe_joined (PJ.cons pe_str (PJ.cons (pe_fmt (pv 1)) (PJ.cons pe_str (PJ.cons (pe_fmt (pv 2)) (PJ.cons pe_str PJ.nil)))))) pa_nil))))
      (pss_cons (ps_ost (pv 0) (pv 1))
      (pss_one (ps_ost (pv 0) (pv 2))))), ?_⟩
  have E := (oex_BadRange T).1
  obtain ⟨out, hout⟩ := range_text hi hj
  refine q_drop (v := .non) (fun H1 e1 Q' q' => ea_cons (ev_var rfl) (ea_cons (hout (ev_var rfl) (ev_var rfl)) ea_nil) H1 e1 _ fun H2 e2 => ⟨a, _, _, rfl, by simp, E, e2 _ _ (e1 _ _ ha), q' H2 e2⟩) fun H1 e1 => ?_
  refine ost_first (ev_var rfl) (ev_var rfl) E (na_BadRange_start T) (e1 _ _ ha) fun dx H2 e2 n ne => ?_
  have E2 := e1.trans e2
  refine ost_last (dx := dx) (ev_var rfl) (ev_var rfl) E (na_BadRange_end T) upd_same (by rw [upd_ne ne]; exact upd_same) (by simp) fun H3 e3 => ?_
  refine hQ dx _ (fresh_back E2 n) ne ?_ upd_same fun b o hb ho => ?_
  · rw [upd_ne ne.symm]
    exact e3 _ _ upd_same
  · have hbd : b ≠ dx := ne_of_none (E2 _ _ ho) n
    rw [upd_ne hbd]
    refine e3 _ _ ?_
    rw [upd_ne hb, upd_ne hbd]
    exact E2 _ _ ho
theorem xmk_BadRange (T : TX K mg) : XMkOk P w K mg base (1) "BadRange" (He.ga K "BadRange") ["self", "start", "end"] (spXinit K (He.ga K "BadRange") okRange fsRange) := by
  obtain ⟨fd, F, h⟩ := fn_BadRange___init__ (P := P) (w := w) (base := base) T
  exact ⟨_, fd, gl_BadRange T, (oex_BadRange T).1, (oex_BadRange T).2.1, (oex_BadRange T).2.2, (F.bindsN fun _ _ _ _ _ _ us hl => match us, hl with | [_, _, _], _ => rfl), h⟩
/-- check_range: done, or a BadRange -/
def goodRange (s e l : Int) : Prop := 0 ≤ s ∧ s < e ∧ e ≤ l
instance (s e l : Int) : Decidable (goodRange s e l) := by unfold goodRange; infer_instance
def spCheck (K : PySem.W.Frag) : Sp := fun vs H Q E => ∃ (s e l : Int), vs = [.int s, .int e, .int l] ∧ small s ∧ small e ∧ (goodRange s e l → RetV .non H Q) ∧ (¬ goodRange s e l → RaiseR (He.ga K "BadRange") [("end", .int e), ("start", .int s)] H E)
theorem sc_check_range : FnScope ["start", "end", "limit"] ["start", "end", "limit"] (defScope s_check_range) := ⟨rfl, rfl, rfl, by decide +kernel, rfl, by decide +kernel, by decide +kernel⟩
theorem fn_check_range (T : TX K mg) : ∃ fd, FunD K "check_range" "check_range" (defArgs s_check_range) (defBody s_check_range) (defScope s_check_range) [] [] (He.ga K "check_range") fd ∧ FnOk P w K mg base (L2.CX P w) (3) (He.ga K "check_range") fd ["start", "end", "limit"] (spCheck K) := by
  obtain ⟨fd, F⟩ := fd_check_range T
  refine ⟨fd, F, L2.FunD.ok F sc_check_range (fun vs H Q E h => ?_) (fun cdv A outer s0 H vs Q E hr h => ?_)⟩
  · obtain ⟨s, e, l, rfl, hs, he, h1, h2⟩ := h
    rfl
  obtain ⟨s, e, l, rfl, hs, he, h1, h2⟩ := h
  have hu := hu_of hr
  refine ⟨_, (pss_one (ps_if (pt_not (pt_chain3 op_le op_lt op_le pe_int (pv 0) (pv 1) (pv 2))) (pss_one (ps_raiseX (xmk_BadRange (P := P) (w := w) (base := base) T) hr rfl (takes_of rfl rfl rfl rfl) (pa_cons (pv 0) (pa_cons (pv 1) pa_nil)))) pss_nil)), ?_⟩
  refine s_when (et_not (et_chain3 ev_c (ev_var rfl) (ev_var rfl) (ev_var rfl))) (fun hb H1 e1 => ?_) (fun hb H1 e1 => ?_)
  · have ng : ¬ goodRange s e l := fun g => by
      unfold goodRange at g
      have : (decide ((0 : Int) ≤ s) && (decide (s < e) && decide (e ≤ l))) = true := by simp [g.1, g.2.1, g.2.2]
      rw [this] at hb
      cases hb
    exact raise_ask (ea_cons (ev_var rfl) (ea_cons (ev_var rfl) ea_nil)) ⟨s, e, rfl, hs, he⟩ (by simp) fun H2 e2 => (h2 ng).go (e1.trans e2)
  · have g : goodRange s e l := by
      have h3 : (decide ((0 : Int) ≤ s) && (decide (s < e) && decide (e ≤ l))) = true := by
        have := hb
        simpa using this
      simp only [Bool.and_eq_true, decide_eq_true_eq] at h3
      exact h3
    exact h1 g H1 e1
theorem ok_check_range (T : TX K mg) : DefOkX P w K mg base (3) "check_range" ["start", "end", "limit"] (spCheck K) := by
  obtain ⟨fd, F, h⟩ := fn_check_range (P := P) (w := w) (base := base) T
  exact DefOkX.of F (gl_check_range T) (F.bindsN fun _ _ _ _ _ _ us hl => match us, hl with | [_, _, _], _ => rfl) h
end

section
/-! ### the plain law of spans and digits -/
def prodL : List Int → Int
  | [] => 1
  | w :: r => w * prodL r
def spansL : List Int → List Int
  | [] => []
  | _ :: r => prodL r :: spansL r
def digs : List Int → Int → List Int
  | [], _ => []
  | w :: r, pg => pg / prodL r % w :: digs r pg
def dotL : List Int → List Int → Int
  | a :: r, b :: s => a * b + dotL r s
  | _, _ => 0
def Pos1 (ws : List Int) : Prop := ∀ w ∈ ws, 0 < w
theorem prodL_app : ∀ (a b : List Int), prodL (a ++ b) = prodL a * prodL b
  | [], b => by simp [prodL]
  | w :: a, b => by
    show w * prodL (a ++ b) = w * prodL a * prodL b
    rw [prodL_app a b, Int.mul_assoc]
theorem prodL_one (w : Int) : prodL [w] = w := by simp [prodL]
theorem prodL_pos : ∀ {ws : List Int}, Pos1 ws → 0 < prodL ws
  | [], _ => by simp [prodL]
  | w :: r, h => Int.mul_pos (h w List.mem_cons_self) (prodL_pos fun x hx => h x (List.mem_cons_of_mem _ hx))
theorem prodL_le {b : Int} (hb : 0 ≤ b) : ∀ {ws : List Int}, (∀ w ∈ ws, 0 < w ∧ w ≤ b) → prodL ws ≤ b ^ ws.length
  | [], _ => by simp [prodL]
  | w :: r, h => by
    have h1 := prodL_le hb (ws := r) fun x hx => h x (List.mem_cons_of_mem _ hx)
    have h2 := prodL_pos (ws := r) fun x hx => (h x (List.mem_cons_of_mem _ hx)).1
    have h3 := h w List.mem_cons_self
    show w * prodL r ≤ b ^ (r.length + 1)
    rw [Int.pow_succ, Int.mul_comm (b ^ r.length) b]
    exact Int.mul_le_mul h3.2 h1 (by omega) hb
theorem spans_len : ∀ ws : List Int, (spansL ws).length = ws.length
  | [] => rfl
  | _ :: r => congrArg Nat.succ (spans_len r)
theorem digs_len : ∀ (ws : List Int) (pg : Int), (digs ws pg).length = ws.length
  | [], _ => rfl
  | _ :: r, pg => congrArg Nat.succ (digs_len r pg)
theorem spans_at : ∀ {ws : List Int} {i : Nat}, i < ws.length → (spansL ws)[i]? = some (prodL (ws.drop (i + 1)))
  | [], _, h => by simp at h
  | _ :: r, 0, _ => rfl
  | _ :: r, i + 1, h => by
    show (spansL r)[i]? = _
    rw [spans_at (Nat.lt_of_succ_lt_succ h)]
    rfl
theorem digs_at : ∀ {ws : List Int} {pg : Int} {i : Nat} (h : i < ws.length), (digs ws pg)[i]? = some (pg / prodL (ws.drop (i + 1)) % ws[i])
  | [], _, _, h => by simp at h
  | _ :: r, _, 0, _ => rfl
  | _ :: r, pg, i + 1, h => by
    show (digs r pg)[i]? = _
    rw [digs_at (Nat.lt_of_succ_lt_succ h)]
    rfl
theorem prod_at {ws : List Int} {i : Nat} (h : i < ws.length) : prodL (ws.drop i) = ws[i] * prodL (ws.drop (i + 1)) := by
  rw [List.drop_eq_getElem_cons h]
  rfl
theorem prod_take {ws : List Int} {i : Nat} (h : i < ws.length) : prodL (ws.take (i + 1)) = prodL (ws.take i) * ws[i] := by
  rw [List.take_succ_eq_append_getElem h, prodL_app, prodL_one]
theorem dot_digs : ∀ {ws : List Int}, Pos1 ws → ∀ pg : Int, dotL (digs ws pg) (spansL ws) = pg % prodL ws
  | [], _, pg => by simp [digs, dotL, prodL]
  | w :: r, h, pg => by
    have hr : Pos1 r := fun x hx => h x (List.mem_cons_of_mem _ hx)
    have hp := prodL_pos hr
    have hw := h w List.mem_cons_self
    show pg / prodL r % w * prodL r + dotL (digs r pg) (spansL r) = pg % (w * prodL r)
    rw [dot_digs hr pg, Int.emod_def pg (w * prodL r), Int.emod_def pg (prodL r), Int.emod_def (pg / prodL r) w, Int.mul_comm w (prodL r), ← Int.ediv_ediv_of_nonneg (by omega), Int.sub_mul]
    have e1 : prodL r * w * (pg / prodL r / w) = w * (pg / prodL r / w) * prodL r := by
      rw [Int.mul_comm (prodL r) w, Int.mul_assoc, Int.mul_comm (prodL r), ← Int.mul_assoc]
    have e2 : prodL r * (pg / prodL r) = pg / prodL r * prodL r := Int.mul_comm _ _
    rw [e1, e2]
    omega
theorem dot_page {ws : List Int} (h : Pos1 ws) {pg : Int} (h0 : 0 ≤ pg) (h1 : pg < prodL ws) : dotL (digs ws pg) (spansL ws) = pg := by
  rw [dot_digs h, Int.emod_eq_of_lt h0 h1]
theorem dot_sum : ∀ (ns ss : List Int), (List.zipWith (fun a b => a * b) ns ss).sum = dotL ns ss
  | [], _ => by simp [dotL]
  | _ :: _, [] => by simp [dotL]
  | a :: r, b :: s => by
    show ((a * b) :: List.zipWith (fun a b => a * b) r s).sum = a * b + dotL r s
    rw [List.sum_cons, dot_sum r s]
structure FanOk (ws : List Int) : Prop where
  pos : Pos1 ws
  len : 1 ≤ ws.length ∧ ws.length ≤ 6
  top : prodL ws ≤ 4096
  two : ∀ w ∈ ws, 2 ≤ w ∧ w ≤ 8
end

section
/-! ### the plain law of covers -/
def sz (ws : List Int) (k : Nat) : Int := prodL (ws.drop (k + 1))
theorem sz_pos {ws : List Int} (h : Pos1 ws) (k : Nat) : 0 < sz ws k := prodL_pos fun x hx => h x (List.mem_of_mem_drop hx)
theorem sz_last {ws : List Int} (h : 1 ≤ ws.length) : sz ws (ws.length - 1) = 1 := by
  unfold sz
  rw [List.drop_of_length_le (by omega)]
  rfl
theorem sz_succ {ws : List Int} {k : Nat} (h : k + 1 < ws.length) : sz ws k = ws[k + 1] * sz ws (k + 1) := prod_at h
theorem sz_chain {ws : List Int} (ho : FanOk ws) {j : Nat} : ∀ {d : Nat}, j + d + 1 < ws.length → sz ws (j + d + 1) ∣ sz ws j ∧ sz ws (j + d + 1) < sz ws j
  | 0, h => by
    have e := sz_succ (ws := ws) (k := j) h
    have hw := ho.two _ (List.getElem_mem h)
    have hp := sz_pos ho.pos (j + 1)
    refine ⟨⟨ws[j + 1], by rw [e, Int.mul_comm]⟩, ?_⟩
    rw [e]
    have : 2 * sz ws (j + 1) ≤ ws[j + 1] * sz ws (j + 1) := Int.mul_le_mul_of_nonneg_right hw.1 (by omega)
    show sz ws (j + 1) < _
    omega
  | d + 1, h => by
    obtain ⟨h1, h2⟩ := sz_chain ho (j := j) (d := d) (by omega)
    obtain ⟨h3, h4⟩ := sz_chain ho (j := j + d + 1) (d := 0) h
    exact ⟨Int.dvd_trans h3 h1, Int.lt_trans h4 h2⟩
theorem sz_lt {ws : List Int} (ho : FanOk ws) {j k : Nat} (h : j < k) (hk : k < ws.length) : sz ws k ∣ sz ws j ∧ sz ws k < sz ws j := by
  have := sz_chain ho (j := j) (d := k - j - 1) (by omega)
  rwa [show j + (k - j - 1) + 1 = k by omega] at this
theorem sz_inj {ws : List Int} (ho : FanOk ws) {j k : Nat} (hj : j < ws.length) (hk : k < ws.length) (h : sz ws j = sz ws k) : j = k := by
  rcases Nat.lt_trichotomy j k with h1 | h1 | h1
  · have := (sz_lt ho h1 hk).2
    omega
  · exact h1
  · have := (sz_lt ho h1 hj).2
    omega
theorem sz_dvd {ws : List Int} (ho : FanOk ws) {j k : Nat} (hj : j < ws.length) (hk : k < ws.length) (h : sz ws k ≤ sz ws j) : sz ws k ∣ sz ws j := by
  rcases Nat.lt_trichotomy j k with h1 | h1 | h1
  · exact (sz_lt ho h1 hk).1
  · rw [h1]
    exact Int.dvd_refl _
  · have := (sz_lt ho h1 hj).2
    omega
def Fits (ws : List Int) (p e : Int) (k : Nat) : Prop := sz ws k ∣ p ∧ p + sz ws k ≤ e
instance (ws : List Int) (p e : Int) (k : Nat) : Decidable (Fits ws p e k) := by unfold Fits; infer_instance
def bestK (ws : List Int) (p e : Int) : Nat := ((List.range ws.length).find? fun k => decide (Fits ws p e k)).getD 0
theorem best_spec {ws : List Int} (ho : FanOk ws) {p e : Int} (h : p < e) : bestK ws p e < ws.length ∧ Fits ws p e (bestK ws p e) ∧ ∀ j < bestK ws p e, ¬ Fits ws p e j := by
  unfold bestK
  cases hf : (List.range ws.length).find? fun k => decide (Fits ws p e k) with
  | none =>
    exfalso
    have h1 := ho.len.1
    have := List.find?_eq_none.mp hf (ws.length - 1) (List.mem_range.mpr (by omega))
    apply this
    rw [decide_eq_true_iff]
    unfold Fits
    rw [sz_last h1]
    exact ⟨Int.one_dvd p, by omega⟩
  | some k =>
    obtain ⟨h1, h2, h3⟩ := List.find?_range_eq_some.mp hf
    exact ⟨List.mem_range.mp h2, of_decide_eq_true h1, fun j hj hF => by
      have := h3 j hj
      simp [hF] at this⟩
theorem best_is {ws : List Int} (ho : FanOk ws) {p e : Int} (h : p < e) {k : Nat} (hf : Fits ws p e k) (hm : ∀ j < k, ¬ Fits ws p e j) : k = bestK ws p e := by
  obtain ⟨h1, h2, h3⟩ := best_spec ho h
  rcases Nat.lt_trichotomy k (bestK ws p e) with h4 | h4 | h4
  · exact absurd hf (h3 k h4)
  · exact h4
  · exact absurd h2 (hm _ h4)
/-- where the i-th block begins -/
def pos (ws : List Int) (e a : Int) : Nat → Int
  | 0 => a
  | i + 1 => pos ws e a i + sz ws (bestK ws (pos ws e a i) e)
theorem pos_up {ws : List Int} (ho : FanOk ws) (e a : Int) (i : Nat) : pos ws e a i < pos ws e a (i + 1) := by
  have := sz_pos ho.pos (bestK ws (pos ws e a i) e)
  show _ < pos ws e a i + _
  omega
theorem pos_top {ws : List Int} (ho : FanOk ws) {e a : Int} {i : Nat} (h : pos ws e a i < e) : pos ws e a (i + 1) ≤ e := (best_spec ho h).2.1.2
theorem pos_mono {ws : List Int} (ho : FanOk ws) (e a : Int) {i : Nat} : ∀ d : Nat, pos ws e a i + d ≤ pos ws e a (i + d)
  | 0 => by simp
  | d + 1 => by
    have h1 := pos_mono ho e a (i := i) d
    have h2 := pos_up ho e a (i + d)
    show _ ≤ pos ws e a (i + d + 1)
    omega
theorem pos_low {ws : List Int} (ho : FanOk ws) (e a : Int) (i : Nat) : a + i ≤ pos ws e a i := by
  have := pos_mono ho e a (i := 0) i
  rw [Nat.zero_add] at this
  exact this
/-- no aligned block of the range lies across a place -/
theorem pos_inv {ws : List Int} (ho : FanOk ws) {e a : Int} : ∀ {i : Nat}, (∀ j < i, pos ws e a j < e) → ∀ k < ws.length, ∀ o, sz ws k ∣ o → a ≤ o → o < pos ws e a i → o + sz ws k ≤ e → o + sz ws k ≤ pos ws e a i
  | 0, _, _, _, o, _, h1, h2, _ => by
    have : pos ws e a 0 = a := rfl
    omega
  | i + 1, hb, k, hk, o, hd, h1, h2, h3 => by
    have ih := pos_inv ho (i := i) (fun j hj => hb j (by omega)) k hk o hd h1
    have hp := hb i (by omega)
    obtain ⟨g1, g2, g3⟩ := best_spec ho hp
    have e1 : pos ws e a (i + 1) = pos ws e a i + sz ws (bestK ws (pos ws e a i) e) := rfl
    have hs := sz_pos ho.pos k
    have hs2 := sz_pos ho.pos (bestK ws (pos ws e a i) e)
    by_cases c1 : o < pos ws e a i
    · have := ih c1 h3
      omega
    by_cases c2 : sz ws k ≤ sz ws (bestK ws (pos ws e a i) e)
    · have d1 := sz_dvd ho g1 hk c2
      have d2 : sz ws k ∣ pos ws e a (i + 1) := e1 ▸ Int.dvd_add (Int.dvd_trans d1 g2.1) d1
      obtain ⟨u, hu⟩ := hd
      obtain ⟨v, hv⟩ := d2
      have huv : u < v := by
        rw [hu, hv] at h2
        exact Int.lt_of_mul_lt_mul_left h2 (by omega)
      have : sz ws k * (u + 1) ≤ sz ws k * v := Int.mul_le_mul_of_nonneg_left (by omega) (by omega)
      rw [Int.mul_add, Int.mul_one] at this
      rw [hv, hu]
      exact this
    · have d1 := sz_dvd ho hk g1 (by omega)
      by_cases c3 : o = pos ws e a i
      · exfalso
        have hlt : k < bestK ws (pos ws e a i) e := by
          rcases Nat.lt_trichotomy k (bestK ws (pos ws e a i) e) with h4 | h4 | h4
          · exact h4
          · rw [h4] at c2
            omega
          · have := (sz_lt ho h4 hk).2
            omega
        exact g3 k hlt ⟨c3 ▸ hd, by omega⟩
      · exfalso
        obtain ⟨u, hu⟩ := Int.dvd_sub (Int.dvd_trans d1 hd) g2.1
        have u1 : 0 < u := by
          have : 0 < sz ws (bestK ws (pos ws e a i) e) * u := by omega
          exact Int.pos_of_mul_pos_right this (by omega)
        have : sz ws (bestK ws (pos ws e a i) e) * 1 ≤ sz ws (bestK ws (pos ws e a i) e) * u := Int.mul_le_mul_of_nonneg_left (by omega) (by omega)
        omega
structure EndsAt (ws : List Int) (e a : Int) (m : Nat) : Prop where
  before : ∀ j < m, pos ws e a j < e
  at_ : pos ws e a m = e
theorem EndsAt.unique {ws : List Int} (ho : FanOk ws) {e a : Int} {m n : Nat} (h : EndsAt ws e a m) (g : EndsAt ws e a n) : m = n := by
  rcases Nat.lt_trichotomy m n with h1 | h1 | h1
  · have := g.before m h1
    have := h.at_
    omega
  · exact h1
  · have := h.before n h1
    have := g.at_
    omega
def blocksN (ws : List Int) (e a : Int) (m : Nat) : List (Int × Int) := (List.range m).map fun i => (pos ws e a i, pos ws e a (i + 1))
/-- round a place of the cover no greater block fits -/
theorem no_outer {ws : List Int} (ho : FanOk ws) {e a : Int} {i : Nat} (h : ∀ j ≤ i, pos ws e a j < e) {j : Nat} (hj : j < ws.length) (hs : sz ws (bestK ws (pos ws e a i) e) < sz ws j) (h0 : 0 ≤ pos ws e a i)
    (h1 : a ≤ pos ws e a i / sz ws j * sz ws j) (h2 : pos ws e a i / sz ws j * sz ws j + sz ws j ≤ e) : False := by
  have hp := sz_pos ho.pos j
  obtain ⟨g1, g2, g3⟩ := best_spec ho (h i (Nat.le_refl _))
  have e1 := Int.mul_ediv_add_emod (pos ws e a i) (sz ws j)
  have m0 := Int.emod_nonneg (pos ws e a i) (show sz ws j ≠ 0 by omega)
  have m1 := Int.emod_lt_of_pos (pos ws e a i) hp
  rw [Int.mul_comm] at e1
  by_cases c : pos ws e a i / sz ws j * sz ws j < pos ws e a i
  · have := pos_inv ho (fun k hk => h k (by omega)) j hj _ ⟨_, Int.mul_comm _ _⟩ h1 c h2
    omega
  · have hlt : j < bestK ws (pos ws e a i) e := by
      rcases Nat.lt_trichotomy j (bestK ws (pos ws e a i) e) with h4 | h4 | h4
      · exact h4
      · rw [h4] at hs
        omega
      · have := (sz_lt ho h4 hj).2
        omega
    refine g3 j hlt ⟨⟨pos ws e a i / sz ws j, ?_⟩, by omega⟩
    rw [Int.mul_comm]
    omega
/-! ### the least number of blocks -/
/-- a table of least numbers, from a on -/
structure Need (ws : List Int) (a : Int) (nd : List Int) : Prop where
  zero : nd.getD 0 0 = 0
  some_ : ∀ j, 0 < j → j < nd.length → ∃ k, k < ws.length ∧ sz ws k ∣ a + j ∧ sz ws k ≤ j ∧ nd.getD j 0 = 1 + nd.getD (j - (sz ws k).toNat) 0
  all : ∀ j, 0 < j → j < nd.length → ∀ k, k < ws.length → sz ws k ∣ a + j → sz ws k ≤ j → nd.getD j 0 ≤ 1 + nd.getD (j - (sz ws k).toNat) 0
theorem need_ge {ws : List Int} (ho : FanOk ws) {e a : Int} {nd : List Int} (N : Need ws a nd) (hl : a + nd.length ≤ e + 1) {m : Nat} (E : EndsAt ws e a m) : ∀ i, i < m → ∀ j, j < nd.length → pos ws e a i < a + j → (i : Int) + 1 ≤ nd.getD j 0
  | 0, hi, j, hj, h => by
    have h0 : pos ws e a 0 = a := rfl
    obtain ⟨k, hk, hd, hs, he⟩ := N.some_ j (by omega) hj
    have hp := sz_pos ho.pos k
    have : ∀ n, ∀ j, j ≤ n → j < nd.length → 0 ≤ nd.getD j 0 := by
      intro n
      induction n with
      | zero =>
        intro j h1 _
        rw [show j = 0 by omega, N.zero]
        exact Int.le_refl _
      | succ n ih =>
        intro j h1 h2
        by_cases hz : j = 0
        · rw [hz, N.zero]
          exact Int.le_refl _
        · obtain ⟨k, hk, hd, hs, he⟩ := N.some_ j (by omega) h2
          have hp := sz_pos ho.pos k
          have := ih (j - (sz ws k).toNat) (by omega) (by omega)
          omega
    have := this j (j - (sz ws k).toNat) (by omega) (by omega)
    omega
  | i + 1, hi, j, hj, h => by
    have hlow := pos_low ho e a (i + 1)
    obtain ⟨k, hk, hd, hs, he⟩ := N.some_ j (by omega) hj
    have hp := sz_pos ho.pos k
    have key : pos ws e a i < a + ((j - (sz ws k).toNat : Nat) : Int) := by
      apply Int.not_le.mp
      intro c
      have up := pos_up ho e a i
      have hx : a + ((j - (sz ws k).toNat : Nat) : Int) = a + j - sz ws k := by omega
      have d2 : sz ws k ∣ a + j - sz ws k := Int.dvd_sub hd (Int.dvd_refl _)
      have := pos_inv ho (i := i + 1) (fun l hl => E.before l (by omega)) k hk (a + j - sz ws k) d2 (by omega) (by omega) (by omega)
      omega
    have := need_ge ho N hl E i (by omega) (j - (sz ws k).toNat) (by omega) key
    omega
theorem need_le {ws : List Int} (ho : FanOk ws) {e a : Int} {nd : List Int} (N : Need ws a nd) {m : Nat} (E : EndsAt ws e a m) (hl : nd.length = (e - a).toNat + 1) : ∀ i, i ≤ m → nd.getD (pos ws e a i - a).toNat 0 ≤ i
  | 0, _ => by
    have h0 : pos ws e a 0 = a := rfl
    rw [h0, show (a - a).toNat = 0 by omega, N.zero]
    exact Int.le_refl _
  | i + 1, hi => by
    have hb := E.before i (by omega)
    obtain ⟨g1, g2, g3⟩ := best_spec ho hb
    have e1 : pos ws e a (i + 1) = pos ws e a i + sz ws (bestK ws (pos ws e a i) e) := rfl
    have ht := pos_top ho hb
    have hlow := pos_low ho e a i
    have hp := sz_pos ho.pos (bestK ws (pos ws e a i) e)
    have hdv : sz ws (bestK ws (pos ws e a i) e) ∣ a + ((pos ws e a (i + 1) - a).toNat : Nat) := by
      rw [show a + (((pos ws e a (i + 1) - a).toNat : Nat) : Int) = pos ws e a (i + 1) by omega, e1]
      exact Int.dvd_add g2.1 (Int.dvd_refl _)
    have h1 := N.all (pos ws e a (i + 1) - a).toNat (by omega) (by omega) _ g1 hdv (by omega)
    rw [show (pos ws e a (i + 1) - a).toNat - (sz ws (bestK ws (pos ws e a i) e)).toNat = (pos ws e a i - a).toNat by omega] at h1
    have := need_le ho N E hl i (by omega)
    omega
theorem need_is {ws : List Int} (ho : FanOk ws) {e a : Int} {nd : List Int} (N : Need ws a nd) {m : Nat} (E : EndsAt ws e a m) (hl : nd.length = (e - a).toNat + 1) (hae : a < e) : nd.getD (e - a).toNat 0 = m := by
  have h1 := need_le ho N E hl m (Nat.le_refl _)
  rw [E.at_] at h1
  have hm : 0 < m := by
    apply Nat.pos_of_ne_zero
    intro z
    have := E.at_
    rw [z] at this
    have h0 : pos ws e a 0 = a := rfl
    omega
  have h2 := need_ge ho N (by omega) E (m - 1) (by omega) (e - a).toNat (by omega) (by have := E.before (m - 1) (by omega); omega)
  omega
end

section
variable {K : PySem.W.Frag} {H H' : Hp}
/-! ### lists of pairs of ints -/
def pr2 (p : Int × Int) : PyData := .tuple [.int p.1, .int p.2]
def PairsAt (K : PySem.W.Frag) (H : Hp) : List V → List (Int × Int) → Prop
  | [], [] => True
  | v :: vs, p :: ps => (∃ a, v = .ref a ∧ SqT K H a [.int p.1, .int p.2]) ∧ PairsAt K H vs ps
  | _, _ => False
theorem PairsAt.ex (e : Ex H H') : ∀ {vs : List V} {ps : List (Int × Int)}, PairsAt K H vs ps → PairsAt K H' vs ps
  | [], [], h => h
  | _ :: _, _ :: _, ⟨⟨a, h1, h2⟩, t⟩ => ⟨⟨a, h1, ex_t e h2⟩, PairsAt.ex e t⟩
theorem PairsAt.keep {p : Addr} {o : HO} {ys : List V} (hp : H p = some (.lst ys)) : ∀ {vs : List V} {ps : List (Int × Int)}, PairsAt K H vs ps → PairsAt K (upd H p o) vs ps
  | [], [], h => h
  | _ :: _, _ :: _, ⟨⟨a, h1, h2⟩, t⟩ => ⟨⟨a, h1, sqt_keep hp (by simp) (by simp) h2⟩, PairsAt.keep hp t⟩
theorem PairsAt.app : ∀ {vs us : List V} {ps qs : List (Int × Int)}, PairsAt K H vs ps → PairsAt K H us qs → PairsAt K H (vs ++ us) (ps ++ qs)
  | [], _, [], _, _, h => h
  | _ :: _, _, _ :: _, _, ⟨h, t⟩, g => ⟨h, PairsAt.app t g⟩
theorem PairsAt.len : ∀ {vs : List V} {ps : List (Int × Int)}, PairsAt K H vs ps → vs.length = ps.length
  | [], [], _ => rfl
  | _ :: _, _ :: _, ⟨_, t⟩ => congrArg Nat.succ (PairsAt.len t)
theorem PairsAt.at_ : ∀ {vs : List V} {ps : List (Int × Int)} {i : Nat} {v : V}, PairsAt K H vs ps → vs[i]? = some v → ∃ (h : i < ps.length) (a : Addr), v = .ref a ∧ SqT K H a [.int ps[i].1, .int ps[i].2]
  | _ :: _, _ :: _, 0, _, ⟨⟨a, h1, h2⟩, _⟩, e => ⟨by simp, a, by rw [← h1]; exact (Option.some.inj e).symm, h2⟩
  | _ :: _, _ :: _, i + 1, v, ⟨_, t⟩, e => by
    obtain ⟨h, a, h1, h2⟩ := PairsAt.at_ (i := i) t e
    exact ⟨by simp; omega, a, h1, h2⟩
theorem PairsAt.dp : ∀ {vs : List V} {ps : List (Int × Int)}, PairsAt K H vs ps → DpAll K H vs (ps.map pr2)
  | [], [], _ => .nil
  | _ :: _, _ :: _, ⟨⟨_, h1, h2⟩, t⟩ => by
    subst h1
    exact .cons (.tup h2 (.cons (.int _) (.cons (.int _) .nil))) (PairsAt.dp t)
theorem dp_pair {v : V} {a b : Int} (h : Dp K H v (.tuple [.int a, .int b])) : ∃ t, v = .ref t ∧ SqT K H t [.int a, .int b] := by
  obtain ⟨t, xs, rfl, h1, h2⟩ := dp_tup h
  cases h2 with
  | cons x1 y1 =>
    cases y1 with
    | cons x2 y2 =>
      cases y2
      obtain rfl := dp_int x1
      obtain rfl := dp_int x2
      exact ⟨t, rfl, h1⟩
theorem dp_of2 {t : Addr} {a b : Int} (h : SqT K H t [.int a, .int b]) : Dp K H (.ref t) (.tuple [.int a, .int b]) := .tup h (.cons (.int _) (.cons (.int _) .nil))
theorem dn_prs {ps : List (Int × Int)} (h : ps.length ≤ 40000) : Dn 2 (.list (ps.map pr2)) := by
  simp only [Dn, List.length_map]
  refine ⟨h, fun d hd => ?_⟩
  obtain ⟨x, _, rfl⟩ := List.mem_map.mp hd
  simp [pr2, Dn]
theorem pair_sh {a b : Int} : SeqAt.shaped (.tuple [.int a, .int b]) = true := by rfl
theorem pair_eqv {a b c d : Int} : PyData.eqv (.tuple [.int a, .int b]) (.tuple [.int c, .int d]) = (decide (a = c) && decide (b = d)) := by
  rw [Bool.eq_iff_iff]
  simp [PyData.eqv, PyData.eqvAll]
end

section
variable {P : Program} {w : World} {K : PySem.W.Frag} {mg : Str → Option Value} {base : Heap}
/-! ### Shape -/
theorem nWL : ("widths" : Str) ≠ "levels" := by decide +kernel
theorem nWP : ("widths" : Str) ≠ "page_count" := by decide +kernel
theorem nWS : ("widths" : Str) ≠ "spans" := by decide +kernel
theorem nLP : ("levels" : Str) ≠ "page_count" := by decide +kernel
theorem nLS : ("levels" : Str) ≠ "spans" := by decide +kernel
theorem nPS : ("page_count" : Str) ≠ "spans" := by decide +kernel
def shF (t1 t2 : Addr) (ws : List Int) : List (Str × V) := [("widths", .ref t1), ("levels", .int ws.length), ("page_count", .int (prodL ws)), ("spans", .ref t2)]
def IsShape (K : PySem.W.Frag) (H : Hp) (a : Addr) (ws : List Int) : Prop := ∃ dx t1 t2, H a = some (.ins (He.ga K "Shape") dx (shF t1 t2 ws)) ∧ SqT K H t1 (ws.map V.int) ∧ SqT K H t2 ((spansL ws).map V.int)
theorem IsShape.ex {H H' : Hp} {a : Addr} {ws : List Int} (h : IsShape K H a ws) (e : Ex H H') : IsShape K H' a ws := by
  obtain ⟨dx, t1, t2, h1, h2, h3⟩ := h
  exact ⟨dx, t1, t2, e _ _ h1, ex_t e h2, ex_t e h3⟩
theorem shL1 {t1 t2 : Addr} {ws : List Int} : (shF t1 t2 ws).lookup ("widths" : Str) = some (.ref t1) := lk_hit
theorem shL2 {t1 t2 : Addr} {ws : List Int} : (shF t1 t2 ws).lookup ("levels" : Str) = some (.int ws.length) := by
  unfold shF
  rw [lk_miss nWL.symm, lk_hit]
theorem shL3 {t1 t2 : Addr} {ws : List Int} : (shF t1 t2 ws).lookup ("page_count" : Str) = some (.int (prodL ws)) := by
  unfold shF
  rw [lk_miss nWP.symm, lk_miss nLP.symm, lk_hit]
theorem shL4 {t1 t2 : Addr} {ws : List Int} : (shF t1 t2 ws).lookup ("spans" : Str) = some (.ref t2) := by
  unfold shF
  rw [lk_miss nWS.symm, lk_miss nLS.symm, lk_miss nPS.symm, lk_hit]
theorem sh_no {t1 t2 : Addr} {ws : List Int} {m : Str} (h1 : m ≠ "widths") (h2 : m ≠ "levels") (h3 : m ≠ "page_count") (h4 : m ≠ "spans") : (shF t1 t2 ws).lookup m = none := by
  unfold shF
  rw [lk_miss h1, lk_miss h2, lk_miss h3, lk_miss h4]
  rfl
def spShape (K : PySem.W.Frag) : Sp := fun vs H Q _ => ∃ (x l dx : Addr) (ws : List Int), vs = [.ref x, .ref l] ∧ H x = some (.ins (He.ga K "Shape") dx []) ∧ (SqL K H l (ws.map V.int) ∨ SqT K H l (ws.map V.int)) ∧ FanOk ws ∧
  ∀ H2, ExO [x] H H2 → IsShape K H2 x ws → Q .non H2
theorem exo_none {L : List Addr} {H H1 : Hp} {p : Addr} (e : ExO L H H1) (hp : H1 p = none) (hn : p ∉ L) : H p = none := by
  cases h : H p with
  | none => rfl
  | some o =>
    rw [e p o hn h] at hp
    cases hp
theorem sc_Shape___init__ : FnScope ["self", "widths", "spans", "width"] ["self", "widths"] (defScope s_Shape___init__) := ⟨rfl, rfl, rfl, by decide +kernel, rfl, by decide +kernel, by decide +kernel⟩
theorem fn_Shape___init__ (T : TX K mg) : ∃ fd, FunD K "__init__" "Shape.__init__" (defArgs s_Shape___init__) (defBody s_Shape___init__) (defScope s_Shape___init__) [] [] (He.ma K (He.ga K "Shape") "__init__") fd ∧ FnOk P w K mg base CX0 (1) (He.ma K (He.ga K "Shape") "__init__") fd ["self", "widths"] (spShape K) := by
  obtain ⟨fd, F⟩ := fd_Shape___init__ T
  refine ⟨fd, F, My.FunD.ok0 F sc_Shape___init__ (fun vs H Q E h => ?_) (fun cdv A outer s0 H vs Q E hr h => ?_)⟩
  · obtain ⟨x, l, dx, ws, rfl, hx, hl, hok, hQ⟩ := h
    rfl
  obtain ⟨x, l, dx, ws, rfl, hx, hl, hok, hQ⟩ := h
  have hu := hu_of hr
  refine ⟨_, (pss_cons (ps_fld (pv 0) (pe_callTy (tupQ K) (by rfl) (fr_tuple T) (by decide +kernel) (pa_cons (pv 1) pa_nil)) rfl)
      (pss_cons (ps_fld (pv 0) (pe_callB (lenQ K) (by rfl) (fr_len T) PySem.boot_len (pa_cons (pe_fldK K (pv 0) rfl) pa_nil)) rfl)
      (pss_cons (ps_fld (pv 0) pe_int rfl)
      (pss_cons (ps_set (i := 2) sc_Shape___init__.nd rfl (Or.inl rfl) (pe_lst pa_nil))
      (pss_cut (ps_for PassesOwn.never rfl (RT.pi_revA (by rfl) (fr_reversed T) (pe_fldK K (pv 0) rfl)) (pg_name (i := 3) sc_Shape___init__.nd rfl (Or.inl rfl)) (pss_cons (ps_expr (pe_bm PySem.F.plainAttrs_list PySem.F.slot_list_append PySem.F.type_list_append mt_append (pv 2) (pa_cons (pe_fldK K (pv 0) rfl) pa_nil)))
      (pss_one (ps_fld (pv 0) (pe_op op_mul (pe_fldK K (pv 0) rfl) (pv 3)) rfl))))
      (pss_cons (ps_expr (pe_bm0 PySem.F.plainAttrs_list PySem.F.slot_list_reverse PySem.F.type_list_reverse mt_reverse (pv 2)))
      (pss_one (ps_fld (pv 0) (pe_callTy (tupQ K) (by rfl) (fr_tuple T) (by decide +kernel) (pa_cons (pv 2) pa_nil)) rfl)))))))), ?_⟩
  have c := cls_Shape T
  have hsz := hok.len.2
  refine qp_fld (evp_tup (ev_var rfl) hl) (ev_var rfl) (fun v H1 H2 e p => ?_) hx c (na_Shape_widths T) (by simp) fun y H1 e1 py => ?_
  · obtain ⟨p, rfl, hp⟩ := p
    exact ⟨p, rfl, ex_t e hp⟩
  obtain ⟨t1, rfl, ht1⟩ := py
  have s1 := sqt_keep (o := .ins (He.ga K "Shape") dx (putF "widths" (.ref t1) [])) (e1 _ _ hx) (by simp) (by simp) ht1
  have E1 : ExO [x] H (upd H1 x (.ins (He.ga K "Shape") dx (putF "widths" (.ref t1) []))) := (ExO.of e1).upd (by simp)
  have h1 : (upd H1 x (.ins (He.ga K "Shape") dx (putF "widths" (.ref t1) []))) x = some (.ins (He.ga K "Shape") dx [("widths", .ref t1)]) := upd_same
  generalize upd H1 x (.ins (He.ga K "Shape") dx (putF "widths" (.ref t1) [])) = Ha at s1 E1 h1 ⊢
  refine q_fld (y := .int ws.length) (ev_is (ev_cb (ea_cons (ev_fld (ev_var rfl) h1 c (na_Shape_widths T) lk_hit) ea_nil) (rc_lenT s1)) (by rw [List.length_map])) (ev_var rfl) h1 c (na_Shape_levels T) (by simp) fun H2 e2 => ?_
  rw [put_miss nWL]
  have s2 := sqt_keep (o := .ins (He.ga K "Shape") dx (("widths", .ref t1) :: putF "levels" (.int ws.length) [])) (e2 _ _ h1) (by simp) (by simp) (ex_t e2 s1)
  have E2 : ExO [x] H (upd H2 x (.ins (He.ga K "Shape") dx (("widths", .ref t1) :: putF "levels" (.int ws.length) []))) := (E1.trans (ExO.of e2)).upd (by simp)
  have h2 : (upd H2 x (.ins (He.ga K "Shape") dx (("widths", .ref t1) :: putF "levels" (.int ws.length) []))) x = some (.ins (He.ga K "Shape") dx [("widths", .ref t1), ("levels", .int ws.length)]) := upd_same
  generalize upd H2 x (.ins (He.ga K "Shape") dx (("widths", .ref t1) :: putF "levels" (.int ws.length) [])) = Hb at s2 E2 h2 ⊢
  refine q_fld ev_c (ev_var rfl) h2 c (na_Shape_page_count T) (by simp) fun H3 e3 => ?_
  rw [put_miss nWP, put_miss nLP]
  have s3 := sqt_keep (o := .ins (He.ga K "Shape") dx (("widths", .ref t1) :: ("levels", .int ws.length) :: putF "page_count" (.int 1) [])) (e3 _ _ h2) (by simp) (by simp) (ex_t e3 s2)
  have E3 : ExO [x] H (upd H3 x (.ins (He.ga K "Shape") dx (("widths", .ref t1) :: ("levels", .int ws.length) :: putF "page_count" (.int 1) []))) := (E2.trans (ExO.of e3)).upd (by simp)
  have h3 : (upd H3 x (.ins (He.ga K "Shape") dx (("widths", .ref t1) :: ("levels", .int ws.length) :: putF "page_count" (.int 1) []))) x = some (.ins (He.ga K "Shape") dx [("widths", .ref t1), ("levels", .int ws.length), ("page_count", .int 1)]) := upd_same
  generalize upd H3 x (.ins (He.ga K "Shape") dx (("widths", .ref t1) :: ("levels", .int ws.length) :: putF "page_count" (.int 1) [])) = Hc at s3 E3 h3 ⊢
  refine q_asgL (el_lst ea_nil (by simp)) fun p H4 hp e4 h4 => ?_
  have npx : p ≠ x := fun z => by
    rw [z, h3] at hp
    cases hp
  have hlen : (ws.map V.int).length = ws.length := List.length_map _
  refine q_forRevT (xs := ws.map V.int) (ev_fld (ev_var rfl) (e4 _ _ h3) c (na_Shape_widths T) lk_hit) (ex_t e4 s3)
    (fun i σ' H' => ExO [x, p] Hc H' ∧ ∃ o, σ' = [some (.ref x), some (.ref l), some (.ref p), o] ∧ H' x = some (.ins (He.ga K "Shape") dx [("widths", .ref t1), ("levels", .int ws.length), ("page_count", .int (prodL (ws.drop (ws.length - i))))]) ∧
      H' p = some (.lst ((List.range i).map fun j => V.int (prodL (ws.drop (ws.length - j))))) ∧ SqT K H' t1 (ws.map V.int))
    (fun σ' H' => ExO [x, p] Hc H' ∧ ∃ o, σ' = [some (.ref x), some (.ref l), some (.ref p), o] ∧ H' x = some (.ins (He.ga K "Shape") dx [("widths", .ref t1), ("levels", .int ws.length), ("page_count", .int (prodL ws))]) ∧
      H' p = some (.lst ((List.range ws.length).map fun j => V.int (prodL (ws.drop (ws.length - j))))) ∧ SqT K H' t1 (ws.map V.int)) ?_ ?_ ?_ ?_ ?_
  · intro H5 e5
    refine ⟨(ExO.of e4).trans (ExO.of e5), none, rfl, ?_, e5 _ _ h4, ex_t (e4.trans e5) s3⟩
    rw [Nat.sub_zero, List.drop_length]
    exact (e4.trans e5) _ _ h3
  · exact fun i σ' H' ⟨_, _, _, _, _, s⟩ => s
  · rintro i y σ' H' hi hy ⟨E5, o, rfl, hx5, hp5, s5⟩
    rw [hlen] at hi hy
    rw [List.getElem?_map] at hy
    have hk : ws.length - 1 - i < ws.length := by omega
    rw [List.getElem?_eq_getElem hk] at hy
    obtain rfl : V.int ws[ws.length - 1 - i] = y := Option.some.inj hy
    have hw := hok.two _ (List.getElem_mem hk)
    have hpage := prod_at hk
    rw [show ws.length - 1 - i + 1 = ws.length - i by omega] at hpage
    refine q_app hp5 (ev_var rfl) (ev_fld (ev_var rfl) hx5 c (na_Shape_page_count T) (by rw [lk_miss nWP.symm, lk_miss nLP.symm, lk_hit])) (by simp; omega) fun H6 e6 => ?_
    have nxp : x ≠ p := npx.symm
    have hx6 : (upd H6 p (.lst ((List.range i).map (fun j => V.int (prodL (ws.drop (ws.length - j)))) ++ [V.int (prodL (ws.drop (ws.length - i)))]))) x = some (.ins (He.ga K "Shape") dx [("widths", .ref t1), ("levels", .int ws.length), ("page_count", .int (prodL (ws.drop (ws.length - i))))]) := by
      rw [upd_ne nxp]
      exact e6 _ _ hx5
    have s6 := sqt_keep (o := .lst ((List.range i).map (fun j => V.int (prodL (ws.drop (ws.length - j)))) ++ [V.int (prodL (ws.drop (ws.length - i)))])) (e6 _ _ hp5) (by simp) (by simp) (ex_t e6 s5)
    have E6 : ExO [x, p] Hc (upd H6 p (.lst ((List.range i).map (fun j => V.int (prodL (ws.drop (ws.length - j)))) ++ [V.int (prodL (ws.drop (ws.length - i)))]))) := (E5.trans (ExO.of e6)).upd (by simp)
    have p6 : (upd H6 p (.lst ((List.range i).map (fun j => V.int (prodL (ws.drop (ws.length - j)))) ++ [V.int (prodL (ws.drop (ws.length - i)))]))) p = some (.lst ((List.range (i + 1)).map fun j => V.int (prodL (ws.drop (ws.length - j))))) := by
      rw [upd_same, List.range_succ, List.map_append]
      rfl
    generalize upd H6 p (.lst ((List.range i).map (fun j => V.int (prodL (ws.drop (ws.length - j)))) ++ [V.int (prodL (ws.drop (ws.length - i)))])) = Hd at hx6 s6 E6 p6 ⊢
    refine s_fld (ev_op (ev_fld (ev_var rfl) hx6 c (na_Shape_page_count T) (by rw [lk_miss nWP.symm, lk_miss nLP.symm, lk_hit])) (ev_var rfl) (rv_I (by unfold CMul; omega))) (ev_var rfl) hx6 c (na_Shape_page_count T) (by simp) fun H7 e7 => ?_
    rw [put_miss nWP, put_miss nLP, put_hit]
    refine ⟨(E6.trans (ExO.of e7)).upd (by simp), _, rfl, ?_, ?_, sqt_keep (e7 _ _ hx6) (by simp) (by simp) (ex_t e7 s6)⟩
    · rw [upd_same, show ws.length - (i + 1) = ws.length - 1 - i by omega, hpage, Int.mul_comm]
    · rw [upd_ne npx]
      exact e7 _ _ p6
  · rintro σ' H' ⟨E5, o, rfl, hx5, hp5, s5⟩
    rw [hlen] at hx5 hp5
    rw [Nat.sub_self, List.drop_zero] at hx5
    exact ⟨E5, o, rfl, hx5, hp5, s5⟩
  · rintro σ' H' ⟨E5, o, rfl, hx5, hp5, s5⟩
    have hspans : ((List.range ws.length).map fun j => V.int (prodL (ws.drop (ws.length - j)))).reverse = (spansL ws).map V.int := by
      refine List.ext_getElem? fun k => ?_
      by_cases hk : k < ws.length
      · rw [List.getElem?_reverse (by simpa using hk), List.getElem?_map, List.getElem?_map, spans_at hk]
        rw [List.length_map, List.length_range, List.getElem?_range (by omega)]
        show some (V.int (prodL (ws.drop (ws.length - (ws.length - 1 - k))))) = some (V.int (prodL (ws.drop (k + 1))))
        rw [show ws.length - (ws.length - 1 - k) = k + 1 by omega]
      · rw [List.getElem?_eq_none (by simp; omega), List.getElem?_eq_none (by rw [List.length_map, spans_len]; omega)]
    refine ⟨_, rfl, Or.inl ⟨rfl, _, sq_of hp5⟩, p, _, rfl, rfl, hp5, ?_⟩
    rw [hspans]
    have hx6 : (upd H' p (.lst ((spansL ws).map V.int))) x = some (.ins (He.ga K "Shape") dx [("widths", .ref t1), ("levels", .int ws.length), ("page_count", .int (prodL ws))]) := by
      rw [upd_ne npx.symm]
      exact hx5
    have s6 := sqt_keep (o := .lst ((spansL ws).map V.int)) hp5 (by simp) (by simp) s5
    have E6 : ExO [x, p] Hc (upd H' p (.lst ((spansL ws).map V.int))) := E5.upd (by simp)
    have p6 : (upd H' p (.lst ((spansL ws).map V.int))) p = some (.lst ((spansL ws).map V.int)) := upd_same
    generalize upd H' p (.lst ((spansL ws).map V.int)) = Hd at hx6 s6 E6 p6 ⊢
    refine su_fld (eu_tupL (ev_var rfl) (sq_of p6)) (ev_var rfl) hx6 c (na_Shape_spans T) (by simp) fun t2 H7 n7 e7 h7 => ?_
    rw [put_miss nWS, put_miss nLS, put_miss nPS]
    have h0p : H p = none := exo_none E3 hp (by simpa using npx)
    refine hQ _ (fun b o hb ho => ?_) ⟨dx, t1, t2, upd_same, sqt_keep (e7 _ _ hx6) (by simp) (by simp) (ex_t e7 s6), sqt_keep (e7 _ _ hx6) (by simp) (by simp) (st_of h7)⟩
    have hbx : b ≠ x := by simpa using hb
    have hbp : b ≠ p := ne_of_none ho h0p
    rw [upd_ne hbx]
    exact e7 _ _ (E6 b o (by simp [hbx, hbp]) (E3 b o hb ho))
theorem mk_Shape (T : TX K mg) : MkOk P w K mg base (1) "Shape" (He.ga K "Shape") ["self", "widths"] [] (spShape K) := by
  obtain ⟨fd, F, h⟩ := fn_Shape___init__ (P := P) (w := w) (base := base) T
  exact ⟨_, fd, [], gl_Shape T, mkr_Shape T, (F.bindsN fun _ _ _ _ _ _ us hl => match us, hl with | [_, _], _ => rfl), .nil, h⟩
end

section
variable {P : Program} {w : World} {K : PySem.W.Frag} {mg : Str → Option Value} {base : Heap}
theorem shape_no : ∀ m ∈ (["span", "path", "page_at", "block_at"] : List Str), ∀ {t1 t2 : Addr} {ws : List Int}, (shF t1 t2 ws).lookup m = none := by
  have hd : ∀ m ∈ (["span", "path", "page_at", "block_at"] : List Str), m ≠ "widths" ∧ m ≠ "levels" ∧ m ≠ "page_count" ∧ m ≠ "spans" := by decide +kernel
  intro m hm t1 t2 ws
  obtain ⟨h1, h2, h3, h4⟩ := hd m hm
  exact sh_no h1 h2 h3 h4
theorem sp_at {ws : List Int} {k : Nat} (h : k < ws.length) : ((spansL ws).map V.int)[k]? = some (.int (prodL (ws.drop (k + 1)))) := by
  rw [List.getElem?_map, spans_at h]
  rfl
theorem sp_atI {ws : List Int} {k : Nat} (h : k < ws.length) : atI ((spansL ws).map V.int) (k : Int) = some (.int (prodL (ws.drop (k + 1)))) := by
  show (ixN _ (k : Int)).bind _ = _
  rw [ixN_nat (by rw [List.length_map, spans_len]; exact h)]
  exact sp_at h
theorem drop_pos {ws : List Int} (h : Pos1 ws) (k : Nat) : Pos1 (ws.drop k) := fun x hx => h x (List.mem_of_mem_drop hx)
theorem take_pos {ws : List Int} (h : Pos1 ws) (k : Nat) : Pos1 (ws.take k) := fun x hx => h x (List.mem_of_mem_take hx)
theorem prod_split (ws : List Int) (k : Nat) : prodL ws = prodL (ws.take k) * prodL (ws.drop k) := by
  rw [← prodL_app, List.take_append_drop]
theorem drop_le {ws : List Int} (h : FanOk ws) (k : Nat) : 0 < prodL (ws.drop k) ∧ prodL (ws.drop k) ≤ 4096 := by
  have h1 := prodL_pos (drop_pos h.pos k)
  have h2 := prodL_pos (take_pos h.pos k)
  refine ⟨h1, Int.le_trans ?_ h.top⟩
  rw [prod_split ws k]
  have : 1 * prodL (ws.drop k) ≤ prodL (ws.take k) * prodL (ws.drop k) := Int.mul_le_mul_of_nonneg_right (by omega) (by omega)
  omega
theorem prod_one {ws : List Int} (h : FanOk ws) : 0 < prodL ws := prodL_pos h.pos
end

section
variable {P : Program} {w : World} {K : PySem.W.Frag} {mg : Str → Option Value} {base : Heap}
def lowOf (ws : List Int) (k : Nat) (pg : Int) : Int := pg / prodL (ws.drop (k + 1)) * prodL (ws.drop (k + 1))
def spBlockAt (K : PySem.W.Frag) : Sp := fun vs H Q E => ∃ (x : Addr) (k : Nat) (pg : Int) (ws : List Int), vs = [.ref x, .int (k : Int), .int pg] ∧ IsShape K H x ws ∧ FanOk ws ∧ k < ws.length ∧ small pg ∧ small (pg + 1) ∧
  (goodRange pg (pg + 1) (prodL ws) → RetD K (.tuple [.int (lowOf ws k pg), .int (lowOf ws k pg + prodL (ws.drop (k + 1)))]) H Q) ∧ (¬ goodRange pg (pg + 1) (prodL ws) → RaiseR (He.ga K "BadRange") [("end", .int (pg + 1)), ("start", .int pg)] H E)
theorem sc_Shape_block_at : FnScope ["self", "level", "page", "span", "start"] ["self", "level", "page"] (defScope s_Shape_block_at) := ⟨rfl, rfl, rfl, by decide +kernel, rfl, by decide +kernel, by decide +kernel⟩
theorem fn_Shape_block_at (T : TX K mg) : ∃ fd, FunD K "block_at" "Shape.block_at" (defArgs s_Shape_block_at) (defBody s_Shape_block_at) (defScope s_Shape_block_at) [] [] (He.ma K (He.ga K "Shape") "block_at") fd ∧ FnOk P w K mg base (L2.CX P w) (4) (He.ma K (He.ga K "Shape") "block_at") fd ["self", "level", "page"] (spBlockAt K) := by
  obtain ⟨fd, F⟩ := fd_Shape_block_at T
  refine ⟨fd, F, L2.FunD.ok F sc_Shape_block_at (fun vs H Q E h => ?_) (fun cdv A outer s0 H vs Q E hr h => ?_)⟩
  · obtain ⟨x, k, pg, ws, rfl, ⟨dx, t1, t2, hx, h1, h2⟩, ho, hk, hs1, hs2, hQ, hE⟩ := h
    rfl
  obtain ⟨x, k, pg, ws, rfl, ⟨dx, t1, t2, hx, h1, h2⟩, ho, hk, hs1, hs2, hQ, hE⟩ := h
  have hu := hu_of hr
  refine ⟨_, (pss_cons (ps_expr (pe_callNX (ok_check_range (P := P) (w := w) (base := base) T) hr (takes_of rfl rfl rfl rfl) (pa_cons (pv 2) (pa_cons (pe_op op_add (pv 2) pe_int) (pa_cons (pe_fldK K (pv 0) rfl) pa_nil)))))
      (pss_cons (ps_set (i := 3) sc_Shape_block_at.nd rfl (Or.inl rfl) (pe_ix (ixT K) (pe_fldK K (pv 0) rfl) (pv 1) (fun _ _ => rfl)))
      (pss_cons (ps_set (i := 4) sc_Shape_block_at.nd rfl (Or.inl rfl) (pe_op op_mul (pe_op op_fdiv (pv 2) (pv 3)) (pv 3)))
      (pss_one (ps_ret (pe_tup (pa_cons (pv 4) (pa_cons (pe_op op_add (pv 4) (pv 3)) pa_nil)))))))), ?_⟩
  refine cs_ask (ea_cons (ev_var rfl) (ea_cons (ev_op (ev_var rfl) ev_c rv_I0) (ea_cons (ev_fld (ev_var rfl) hx (cls_Shape T) (na_Shape_page_count T) shL3) ea_nil))) fun H1 e1 => ?_
  refine ⟨_, _, _, rfl, hs1, hs2, fun hg H2 e2 => ?_, fun hg => (hE hg).go e1⟩
  have E2 := e1.trans e2
  have hd := drop_le ho (k + 1)
  refine q_asg (ev_op (ev_fld (ev_var rfl) (E2 _ _ hx) (cls_Shape T) (na_Shape_spans T) shL4) (ev_var rfl) (rv_ixT (ex_t E2 h2) (sp_atI hk))) fun H3 e3 => ?_
  refine q_asg (ev_op (ev_op (ev_var rfl) (ev_var rfl) (rv_I (by unfold CDiv; omega))) (ev_var rfl) (rv_I (by unfold CMul; omega))) fun H4 e4 => ?_
  exact sd_ret (evd_tup (evds_cons (evd_i (ev_var rfl)) (evds_cons (evd_i (ev_op (ev_var rfl) (ev_var rfl) rv_I0)) evds_nil)) (by simp)) ((hQ hg).go ((E2.trans e3).trans e4))
theorem ok_Shape_block_at (T : TX K mg) : MethOk P w K mg base (L2.CX P w) (4) (He.ga K "Shape") "block_at" ["self", "level", "page"] [] (spBlockAt K) := by
  obtain ⟨fd, F, h⟩ := fn_Shape_block_at (P := P) (w := w) (base := base) T
  exact MethOk.of F (cls_Shape T) (meth_Shape_block_at T) (F.bindsN fun _ _ _ _ _ _ us hl => match us, hl with | [_, _, _], _ => rfl) h
theorem svd_block {H : Hp} {x : Addr} {k : Nat} {pg : Int} {ws : List Int} (h : IsShape K H x ws) (ho : FanOk ws) (hk : k < ws.length) (h1 : small pg) (h2 : small (pg + 1)) (hg : goodRange pg (pg + 1) (prodL ws)) :
    SpVD K (spBlockAt K) [.ref x, .int (k : Int), .int pg] H (.tuple [.int (lowOf ws k pg), .int (lowOf ws k pg + prodL (ws.drop (k + 1)))]) := fun H1 e Q q E => ⟨x, k, pg, ws, rfl, h.ex e, ho, hk, h1, h2, fun _ => q, fun z => absurd hg z⟩
theorem dn_pair {a b : Int} : Dn 1 (.tuple [.int a, .int b]) := by simp [Dn]
end

section
variable {P : Program} {w : World} {K : PySem.W.Frag} {mg : Str → Option Value} {base : Heap}
theorem svd_blk {H : Hp} {x : Addr} {k : Nat} {pg : Int} {ws : List Int} (h : IsShape K H x ws) (ho : FanOk ws) (hk : k < ws.length) (h0 : 0 ≤ pg) (h1 : pg < prodL ws) :
    SpVD K (spBlockAt K) [.ref x, .int (k : Int), .int pg] H (.tuple [.int (pg / sz ws k * sz ws k), .int (pg / sz ws k * sz ws k + sz ws k)]) :=
  svd_block h ho hk (small_of (by omega) (by have := ho.top; omega)) (small_of (by omega) (by have := ho.top; omega)) (by unfold goodRange; omega)
theorem low_le {p s : Int} (hs : 0 < s) : p / s * s ≤ p ∧ p < p / s * s + s := by
  have e1 := Int.mul_ediv_add_emod p s
  have m0 := Int.emod_nonneg p (show s ≠ 0 by omega)
  have m1 := Int.emod_lt_of_pos p hs
  rw [Int.mul_comm] at e1
  omega
theorem low_eq {p s : Int} : p / s * s = p ↔ s ∣ p := by
  constructor
  · intro h
    exact ⟨p / s, by rw [Int.mul_comm]; exact h.symm⟩
  · intro h
    exact Int.ediv_mul_cancel h
/-! ### level_of -/
def spLevel (K : PySem.W.Frag) : Sp := fun vs H Q _ => ∃ (x : Addr) (p : Int) (k : Nat) (ws : List Int), vs = [.ref x, .int p, .int (p + sz ws k)] ∧ IsShape K H x ws ∧ FanOk ws ∧ 0 ≤ p ∧ p < prodL ws ∧ k < ws.length ∧ sz ws k ∣ p ∧ RetV (.int (k : Int)) H Q
theorem sv_level {H : Hp} {x : Addr} {p : Int} {k : Nat} {ws : List Int} (h : IsShape K H x ws) (ho : FanOk ws) (h0 : 0 ≤ p) (h1 : p < prodL ws) (hk : k < ws.length) (hd : sz ws k ∣ p) : SpV (spLevel K) [.ref x, .int p, .int (p + sz ws k)] H (.int (k : Int)) := fun H1 e Q q E =>
  ⟨x, p, k, ws, rfl, h.ex e, ho, h0, h1, hk, hd, q⟩
theorem sc_level_of : FnScope ["shape", "start", "end", "level"] ["shape", "start", "end"] (defScope s_level_of) := ⟨rfl, rfl, rfl, by decide +kernel, rfl, by decide +kernel, by decide +kernel⟩
theorem fn_level_of (T : TX K mg) : ∃ fd, FunD K "level_of" "level_of" (defArgs s_level_of) (defBody s_level_of) (defScope s_level_of) [] [] (He.ga K "level_of") fd ∧ FnOk P w K mg base CX0 (5) (He.ga K "level_of") fd ["shape", "start", "end"] (spLevel K) := by
  obtain ⟨fd, F⟩ := fd_level_of T
  refine ⟨fd, F, My.FunD.ok0 F sc_level_of (fun vs H Q E h => ?_) (fun cdv A outer s0 H vs Q E hr h => ?_)⟩
  · obtain ⟨x, p, k, ws, rfl, hS, ho, h0, h1, hk, hd, hQ⟩ := h
    rfl
  obtain ⟨x, p, k, ws, rfl, hS, ho, h0, h1, hk, hd, hQ⟩ := h
  have hu := hu_of hr
  refine ⟨_, (pss_cut (ps_for PassesOwn.never rfl (pi_range1 rfl (fr_range T) (pa_cons (pe_fldK K (pv 0) rfl) pa_nil)) (pg_name (i := 3) sc_level_of.nd rfl (Or.inl rfl)) (pss_one (ps_if (pt_cmpR (eqD K hr.units) (pe_methNX (ok_Shape_block_at (P := P) (w := w) (base := base) T) (pv 0) hr takes0 (pa_cons (pv 3) (pa_cons (pv 1) pa_nil))) (pe_tup (pa_cons (pv 1) (pa_cons (pv 2) pa_nil))) (nomark _)) (pss_one (ps_ret (pv 3))) pss_nil)))
      (pss_one (ps_ret pe_non))), ?_⟩
  have hlen := ho.len
  obtain ⟨dx, t1, t2, hx, -, -⟩ := id hS
  refine q_forR1' (n := (ws.length : Int)) (ea_cons (ev_fld (ev_var rfl) hx (cls_Shape T) (na_Shape_levels T) shL2) ea_nil) (by omega)
    (fun i σ' H' => Ex H H' ∧ i ≤ k ∧ ∃ o, σ' = [some (.ref x), some (.int p), some (.int (p + sz ws k)), o])
    (fun σ' H' => False) ?_ ?_ ?_ ?_
  · exact fun H1 e1 => ⟨e1, Nat.zero_le _, _, rfl⟩
  · rintro i σ' H' hi ⟨E, hik, o, rfl⟩
    have hi' : i < ws.length := by omega
    refine s_when (et_test (ev_eqD (evd_methS (ev_var rfl) (E _ _ hx) (shape_no _ (by simp)) (ea_cons (ev_var rfl) (ea_cons (ev_var rfl) ea_nil)) (svd_blk (hS.ex E) ho hi' h0 h1)) (evd_tup (evds_cons (evd_i (ev_var rfl)) (evds_cons (evd_i (ev_var rfl)) evds_nil)) (by simp)) pair_sh pair_sh)) (fun hb H2 e2 => ?_) (fun hb H2 e2 => ?_)
    · rw [pair_eqv, Bool.and_eq_true, decide_eq_true_eq, decide_eq_true_eq] at hb
      have : i = k := sz_inj ho hi' hk (by omega)
      subst this
      exact s_ret (ev_var rfl) fun H3 e3 => hQ H3 ((E.trans e2).trans e3)
    · refine ⟨E.trans e2, ?_, _, rfl⟩
      rcases Nat.lt_or_ge i k with h | h
      · exact h
      · exfalso
        have : i = k := by omega
        subst this
        rw [pair_eqv, low_eq.mpr hd] at hb
        simp at hb
  · rintro σ' H' ⟨E, h, _⟩
    omega
  · exact fun _ _ h => h.elim
theorem ok_level_of (T : TX K mg) : DefOk P w K mg base (5) "level_of" ["shape", "start", "end"] [] (spLevel K) := by
  obtain ⟨fd, F, h⟩ := fn_level_of (P := P) (w := w) (base := base) T
  exact DefOk.of F (gl_level_of T) (F.bindsN fun _ _ _ _ _ _ us hl => match us, hl with | [_, _, _], _ => rfl) h
/-! ### largest_block -/
def spLB (K : PySem.W.Frag) : Sp := fun vs H Q _ => ∃ (x : Addr) (p e : Int) (ws : List Int), vs = [.ref x, .int p, .int e] ∧ IsShape K H x ws ∧ FanOk ws ∧ 0 ≤ p ∧ p < e ∧ e ≤ prodL ws ∧ RetD K (.tuple [.int p, .int (p + sz ws (bestK ws p e))]) H Q
theorem svd_lb {H : Hp} {x : Addr} {p e : Int} {ws : List Int} (h : IsShape K H x ws) (ho : FanOk ws) (h0 : 0 ≤ p) (h1 : p < e) (h2 : e ≤ prodL ws) : SpVD K (spLB K) [.ref x, .int p, .int e] H (.tuple [.int p, .int (p + sz ws (bestK ws p e))]) := fun H1 e1 Q q E =>
  ⟨x, p, e, ws, rfl, h.ex e1, ho, h0, h1, h2, q⟩
theorem sc_largest_block : FnScope ["shape", "page", "end", "level", "block"] ["shape", "page", "end"] (defScope s_largest_block) := ⟨rfl, rfl, rfl, by decide +kernel, rfl, by decide +kernel, by decide +kernel⟩
theorem fn_largest_block (T : TX K mg) : ∃ fd, FunD K "largest_block" "largest_block" (defArgs s_largest_block) (defBody s_largest_block) (defScope s_largest_block) [] [] (He.ga K "largest_block") fd ∧ FnOk P w K mg base CX0 (5) (He.ga K "largest_block") fd ["shape", "page", "end"] (spLB K) := by
  obtain ⟨fd, F⟩ := fd_largest_block T
  refine ⟨fd, F, My.FunD.ok0 F sc_largest_block (fun vs H Q E h => ?_) (fun cdv A outer s0 H vs Q E hr h => ?_)⟩
  · obtain ⟨x, p, e, ws, rfl, hS, ho, h0, h1, h2, hQ⟩ := h
    rfl
  obtain ⟨x, p, e, ws, rfl, hS, ho, h0, h1, h2, hQ⟩ := h
  have hu := hu_of hr
  refine ⟨_, (pss_cons (ps_set (i := 3) sc_largest_block.nd rfl (Or.inl rfl) pe_int)
      (pss_cons (ps_set (i := 4) sc_largest_block.nd rfl (Or.inl rfl) (pe_methNX (ok_Shape_block_at (P := P) (w := w) (base := base) T) (pv 0) hr takes0 (pa_cons (pv 3) (pa_cons (pv 1) pa_nil))))
      (pss_cut (ps_while PassesOwn.never (PW.pt (pw_or (pt_cmpR op_lt (pe_ix (ixT K) (pv 4) pe_int (fun _ _ => rfl)) (pv 1) (nomark _)) (pw_or1 (pt_cmpR op_gt (pe_ix (ixT K) (pv 4) pe_int (fun _ _ => rfl)) (pv 2) (nomark _))))) (pss_cons (ps_set (i := 3) sc_largest_block.nd rfl (Or.inl rfl) (pe_op op_add (pv 3) pe_int))
      (pss_one (ps_set (i := 4) sc_largest_block.nd rfl (Or.inl rfl) (pe_methNX (ok_Shape_block_at (P := P) (w := w) (base := base) T) (pv 0) hr takes0 (pa_cons (pv 3) (pa_cons (pv 1) pa_nil)))))))
      (pss_one (ps_ret (pv 4)))))), ?_⟩
  have hlen := ho.len
  obtain ⟨dx, t1, t2, hx, -, -⟩ := id hS
  obtain ⟨b1, b2, b3⟩ := best_spec ho h1
  refine q_asg ev_c fun H1 e1 => ?_
  refine qd_asg (evd_methS (ev_var rfl) (e1 _ _ hx) (shape_no _ (by simp)) (ea_cons (ev_var rfl) (ea_cons (ev_var rfl) ea_nil)) (svd_blk (k := 0) (hS.ex e1) ho hlen.1 h0 (by omega))) fun v H2 e2 hv => ?_
  refine q_cut (M := fun σ' H' => Ex H H' ∧ ∃ v o, σ' = [some (.ref x), some (.int p), some (.int e), o, some v] ∧ Dp K H' v (.tuple [.int p, .int (p + sz ws (bestK ws p e))]))
    (s_while (fun m σ' H' => Ex H H' ∧ ∃ (j : Nat) (v : V), m = bestK ws p e - j ∧ j ≤ bestK ws p e ∧ σ' = [some (.ref x), some (.int p), some (.int e), some (.int (j : Int)), some v] ∧ Dp K H' v (.tuple [.int (p / sz ws j * sz ws j), .int (p / sz ws j * sz ws j + sz ws j)])) (bestK ws p e)
      ⟨e1.trans e2, 0, v, rfl, Nat.zero_le _, rfl, hv⟩ ?_) ?_
  · rintro m σ' H' ⟨E, j, v, rfl, hj, rfl, hv⟩
    have hp := sz_pos ho.pos j
    have hlow := low_le (p := p) hp
    refine ⟨_, et_or (et_test (ev_op (evd_ixT (evd_var rfl hv) ev_c rfl).toI (ev_var rfl) rv_I0)) fun _ => et_test (ev_op (evd_ixT (evd_var rfl hv) ev_c rfl).toI (ev_var rfl) rv_I0), fun hb H3 e3 => ?_, fun hb H3 e3 => ?_⟩
    · have hjb : j < bestK ws p e := by
        rcases Nat.lt_or_ge j (bestK ws p e) with h | h
        · exact h
        · exfalso
          have : j = bestK ws p e := by omega
          rw [← this] at b2
          have hl := low_eq.mpr b2.1
          rcases Bool.or_eq_true_iff.mp hb with g | g
          · have := of_decide_eq_true g
            omega
          · have := of_decide_eq_true g
            have := b2.2
            omega
      refine ⟨fun σ' H' => Ex H H' ∧ ∃ (v : V), σ' = [some (.ref x), some (.int p), some (.int e), some (.int ((j + 1 : Nat) : Int)), some v] ∧ Dp K H' v (.tuple [.int (p / sz ws (j + 1) * sz ws (j + 1)), .int (p / sz ws (j + 1) * sz ws (j + 1) + sz ws (j + 1))]), ?_, ?_⟩
      · rintro σ2 H4 ⟨E4, v, rfl, hv⟩
        exact ⟨bestK ws p e - (j + 1), by omega, E4, j + 1, v, rfl, hjb, rfl, hv⟩
      · have E3 := E.trans e3
        refine q_asg (ev_op (ev_var rfl) ev_c rv_I0) fun H4 e4 => ?_
        have E4 := E3.trans e4
        exact sd_asg (evd_methS (ev_var rfl) (E4 _ _ hx) (shape_no _ (by simp)) (ea_cons (ev_var rfl) (ea_cons (ev_var rfl) ea_nil)) (svd_blk (k := j + 1) (hS.ex E4) ho (by omega) h0 (by omega))) fun v H5 e5 hv5 => ⟨E4.trans e5, v, rfl, hv5⟩
    · have hb2 := Bool.or_eq_false_iff.mp hb
      have g1 : ¬ p / sz ws j * sz ws j < p := of_decide_eq_false hb2.1
      have g2 := of_decide_eq_false hb2.2
      have hl : p / sz ws j * sz ws j = p := by omega
      have hjb : j = bestK ws p e := by
        rcases Nat.lt_or_ge j (bestK ws p e) with h | h
        · exact absurd ⟨low_eq.mp hl, by omega⟩ (b3 j h)
        · omega
      subst hjb
      rw [hl] at hv
      exact ⟨E.trans e3, v, _, rfl, dp_ex e3 hv⟩
  · rintro σ' H' ⟨E, v, o, rfl, hv⟩
    exact sd_ret (evd_var rfl hv) (hQ.go E)
theorem ok_largest_block (T : TX K mg) : DefOk P w K mg base (5) "largest_block" ["shape", "page", "end"] [] (spLB K) := by
  obtain ⟨fd, F, h⟩ := fn_largest_block (P := P) (w := w) (base := base) T
  exact DefOk.of F (gl_largest_block T) (F.bindsN fun _ _ _ _ _ _ us hl => match us, hl with | [_, _, _], _ => rfl) h
end

section
variable {P : Program} {w : World} {K : PySem.W.Frag} {mg : Str → Option Value} {base : Heap}
theorem pairs_one {H : Hp} {t : Addr} {a b : Int} (h : SqT K H t [.int a, .int b]) : PairsAt K H [.ref t] [(a, b)] := And.intro ⟨t, rfl, h⟩ trivial
/-! ### is_cover -/
def spIC (K : PySem.W.Frag) : Sp := fun vs H Q _ => ∃ (x b : Addr) (a e : Int) (m : Nat) (ys : List V) (ws : List Int), vs = [.ref x, .ref b, .int a, .int e] ∧ IsShape K H x ws ∧ FanOk ws ∧ 0 ≤ a ∧ e ≤ prodL ws ∧ EndsAt ws e a m ∧ SqL K H b ys ∧ PairsAt K H ys (blocksN ws e a m) ∧ RetV (.bl true) H Q
theorem sv_ic {H : Hp} {x b : Addr} {a e : Int} {m : Nat} {ys : List V} {ws : List Int} (h : IsShape K H x ws) (ho : FanOk ws) (h0 : 0 ≤ a) (h1 : e ≤ prodL ws) (hE : EndsAt ws e a m) (hb : SqL K H b ys) (hp : PairsAt K H ys (blocksN ws e a m)) : SpV (spIC K) [.ref x, .ref b, .int a, .int e] H (.bl true) := fun H1 e1 Q q E =>
  ⟨x, b, a, e, m, ys, ws, rfl, h.ex e1, ho, h0, h1, hE, ex_l e1 hb, hp.ex e1, q⟩
theorem blocks_len {ws : List Int} {e a : Int} {m : Nat} : (blocksN ws e a m).length = m := by simp [blocksN]
theorem blocks_at {ws : List Int} {e a : Int} {m i : Nat} (h : i < (blocksN ws e a m).length) : (blocksN ws e a m)[i] = (pos ws e a i, pos ws e a (i + 1)) := by simp [blocksN]
theorem blocks_up {ws : List Int} {e a : Int} {m : Nat} : blocksN ws e a (m + 1) = blocksN ws e a m ++ [(pos ws e a m, pos ws e a (m + 1))] := by simp [blocksN, List.range_succ]
theorem sc_is_cover : FnScope ["shape", "blocks", "start", "end", "page", "first", "last", "level", "outer"] ["shape", "blocks", "start", "end"] (defScope s_is_cover) := ⟨rfl, rfl, rfl, by decide +kernel, rfl, by decide +kernel, by decide +kernel⟩
theorem fn_is_cover (T : TX K mg) : ∃ fd, FunD K "is_cover" "is_cover" (defArgs s_is_cover) (defBody s_is_cover) (defScope s_is_cover) [] [] (He.ga K "is_cover") fd ∧ FnOk P w K mg base CX0 (6) (He.ga K "is_cover") fd ["shape", "blocks", "start", "end"] (spIC K) := by
  obtain ⟨fd, F⟩ := fd_is_cover T
  refine ⟨fd, F, My.FunD.ok0 F sc_is_cover (fun vs H Q E h => ?_) (fun cdv A outer s0 H vs Q E hr h => ?_)⟩
  · obtain ⟨x, b, a, e, m, ys, ws, rfl, hS, ho, h0, h1, hE, hb, hp, hQ⟩ := h
    rfl
  obtain ⟨x, b, a, e, m, ys, ws, rfl, hS, ho, h0, h1, hE, hb, hp, hQ⟩ := h
  have hu := hu_of hr
  refine ⟨_, (pss_cons (ps_set (i := 4) sc_is_cover.nd rfl (Or.inl rfl) (pv 2))
      (pss_cut (ps_for PassesOwn.never rfl (pi_list (pv 1)) (pg_tupK (n := 2) K rfl (pgs_cons (pg_name (i := 5) sc_is_cover.nd rfl (Or.inl rfl)) (pgs_cons (pg_name (i := 6) sc_is_cover.nd rfl (Or.inl rfl)) pgs_nil))) (pss_cons (ps_if (PW.pt (pw_or (pt_cmpR op_ne (pv 5) (pv 4) (nomark _)) (pw_or1 (pt_not (pt_chain op_lt op_le (pv 5) (pv 6) (pv 3)))))) (pss_one (ps_ret pe_bl)) pss_nil)
      (pss_cons (ps_set (i := 7) sc_is_cover.nd rfl (Or.inl rfl) (pe_callN (ok_level_of (P := P) (w := w) (base := base) T) hr (pa_cons (pv 0) (pa_cons (pv 5) (pa_cons (pv 6) pa_nil)))))
      (pss_cons (ps_if (pt_cmp (pc_isN (pv 7))) (pss_one (ps_ret pe_bl)) pss_nil)
      (pss_cut (ps_if (pt_cmpR op_gt (pv 7) pe_int (nomark _)) (pss_cons (ps_set (i := 8) sc_is_cover.nd rfl (Or.inl rfl) (pe_methNX (ok_Shape_block_at (P := P) (w := w) (base := base) T) (pv 0) hr takes0 (pa_cons (pe_op op_sub (pv 7) pe_int) (pa_cons (pv 5) pa_nil))))
      (pss_one (ps_if (PW.pt (pw_and (pt_cmpR op_le (pv 2) (pe_ix (ixT K) (pv 8) pe_int (fun _ _ => rfl)) (nomark _)) (pw_and1 (pt_cmpR op_le (pe_ix (ixT K) (pv 8) pe_int (fun _ _ => rfl)) (pv 3) (nomark _))))) (pss_one (ps_ret pe_bl)) pss_nil))) pss_nil)
      (pss_one (ps_set (i := 4) sc_is_cover.nd rfl (Or.inl rfl) (pv 6))))))))
      (pss_one (ps_ret (pe_cmpR op_eq (pv 4) (pv 3) (nomark _)))))), ?_⟩
  have hlen := ho.len
  have hyl := hp.len
  rw [blocks_len] at hyl
  obtain ⟨dx, t1, t2, hx, -, -⟩ := id hS
  refine q_asg (ev_var rfl) fun H1 e1 => ?_
  refine q_forL' (xs := ys) (ev_var rfl) (ex_l e1 hb)
    (fun i σ' H' => Ex H H' ∧ ∃ o5 o6 o7 o8, σ' = [some (.ref x), some (.ref b), some (.int a), some (.int e), some (.int (pos ws e a i)), o5, o6, o7, o8])
    (fun σ' H' => Ex H H' ∧ ∃ o5 o6 o7 o8, σ' = [some (.ref x), some (.ref b), some (.int a), some (.int e), some (.int e), o5, o6, o7, o8]) ?_ ?_ ?_ ?_ ?_
  · exact fun H2 e2 => ⟨e1.trans e2, _, _, _, _, rfl⟩
  · exact fun i σ' H' _ ⟨E, _⟩ => ex_l E hb
  · rintro i y σ' H' hy ⟨E, o5, o6, o7, o8, rfl⟩
    obtain ⟨hi, t, rfl, ht⟩ := (hp.ex E).at_ hy
    rw [blocks_at hi] at ht
    rw [blocks_len] at hi
    have hbe := hE.before i hi
    have hup := pos_up ho e a i
    have htop := pos_top ho hbe
    have hlow := pos_low ho e a i
    obtain ⟨b1, b2, b3⟩ := best_spec ho hbe
    have epos : pos ws e a (i + 1) = pos ws e a i + sz ws (bestK ws (pos ws e a i) e) := rfl
    refine ⟨t, _, rfl, ht, rfl, _, _, rfl, _, _, rfl, rfl, ?_⟩
    refine q_whenF (et_is (et_or (et_test (ev_op (ev_var rfl) (ev_var rfl) (rv_ne rfl))) fun _ => et_not (et_test (ev_chain (ev_var rfl) (ev_var rfl) (ev_var rfl)))) (by simp [hup, htop])) fun H2 e2 => ?_
    have E2 := E.trans e2
    refine q_asg (v := .int (bestK ws (pos ws e a i) e : Nat)) (ev_call (ea_cons (ev_var rfl) (ea_cons (ev_var rfl) (ea_cons (ev_var rfl) ea_nil))) (sv_level (hS.ex E2) ho (by omega) (by omega) b1 b2.1)) fun H3 e3 => ?_
    have E3 := E2.trans e3
    refine q_whenF (et_is (et_B (ev_isN (ev_var rfl))) (by simp)) fun H4 e4 => ?_
    have E4 := E3.trans e4
    refine q_cut (M := fun σ' H' => Ex H H' ∧ ∃ o8, σ' = [some (.ref x), some (.ref b), some (.int a), some (.int e), some (.int (pos ws e a i)), some (.int (pos ws e a i)), some (.int (pos ws e a (i + 1))), some (.int (bestK ws (pos ws e a i) e : Nat)), o8])
      (s_when (et_test (ev_op (ev_var rfl) ev_c rv_I0)) (fun hc H5 e5 => ?_) (fun hc H5 e5 => ⟨E4.trans e5, _, rfl⟩)) ?_
    · have hk0 : (0 : Int) < (bestK ws (pos ws e a i) e : Nat) := of_decide_eq_true hc
      obtain ⟨k', hk'⟩ : ∃ k', bestK ws (pos ws e a i) e = k' + 1 := ⟨bestK ws (pos ws e a i) e - 1, by omega⟩
      have E5 := E4.trans e5
      have harg : (V.int (((bestK ws (pos ws e a i) e : Nat) : Int) - 1)) = V.int (k' : Int) := by
        rw [hk']
        congr 1
        omega
      refine qd_asg (evd_methS (ev_var rfl) (E5 _ _ hx) (shape_no _ (by simp)) (ea_cons (ev_is (ev_op (ev_var rfl) ev_c rv_I0) harg) (ea_cons (ev_var rfl) ea_nil)) (svd_blk (k := k') (hS.ex E5) ho (by omega) (by omega) (by omega))) fun v H6 e6 hv => ?_
      have hlt := (sz_lt ho (j := k') (k := bestK ws (pos ws e a i) e) (by omega) b1).2
      refine s_whenF (et_is (et_and (et_test (ev_op (ev_var rfl) (evd_ixT (evd_var rfl hv) ev_c rfl).toI rv_I0)) fun _ => et_test (ev_op (evd_ixT (evd_var rfl hv) ev_c rfl).toI (ev_var rfl) rv_I0)) ?_) fun H7 e7 => ⟨(E5.trans e6).trans e7, _, rfl⟩
      rw [Bool.eq_false_iff]
      intro z
      obtain ⟨z1, z2⟩ := Bool.and_eq_true_iff.mp z
      exact no_outer ho (fun j hj => hE.before j (by omega)) (by omega) hlt (by omega) (of_decide_eq_true z1) (of_decide_eq_true z2)
    · rintro σ' H' ⟨E5, o8, rfl⟩
      exact s_asg (ev_var rfl) fun H6 e6 => ⟨E5.trans e6, _, _, _, _, rfl⟩
  · rintro σ' H' ⟨E, o5, o6, o7, o8, rfl⟩
    rw [hyl, hE.at_]
    exact ⟨E, _, _, _, _, rfl⟩
  · rintro σ' H' ⟨E, o5, o6, o7, o8, rfl⟩
    exact s_ret (ev_is (ev_op (ev_var rfl) (ev_var rfl) (rv_eq rfl)) (by simp)) fun H2 e2 => hQ H2 (E.trans e2)
theorem ok_is_cover (T : TX K mg) : DefOk P w K mg base (6) "is_cover" ["shape", "blocks", "start", "end"] [] (spIC K) := by
  obtain ⟨fd, F, h⟩ := fn_is_cover (P := P) (w := w) (base := base) T
  exact DefOk.of F (gl_is_cover T) (F.bindsN fun _ _ _ _ _ _ us hl => match us, hl with | [_, _, _, _], _ => rfl) h
/-! ### cover -/
def spCover (K : PySem.W.Frag) : Sp := fun vs H Q E => ∃ (x : Addr) (a e : Int) (ws : List Int), vs = [.ref x, .int a, .int e] ∧ IsShape K H x ws ∧ FanOk ws ∧ small a ∧ small e ∧
  (goodRange a e (prodL ws) → ∀ p ys m H2, H p = none → Ex H H2 → H2 p = some (.lst ys) → PairsAt K H2 ys (blocksN ws e a m) → EndsAt ws e a m → Q (.ref p) H2) ∧ (¬ goodRange a e (prodL ws) → RaiseR (He.ga K "BadRange") [("end", .int e), ("start", .int a)] H E)
theorem sc_cover : FnScope ["shape", "start", "end", "blocks", "page", "block"] ["shape", "start", "end"] (defScope s_cover) := ⟨rfl, rfl, rfl, by decide +kernel, rfl, by decide +kernel, by decide +kernel⟩
theorem fn_cover (T : TX K mg) : ∃ fd, FunD K "cover" "cover" (defArgs s_cover) (defBody s_cover) (defScope s_cover) [] [] (He.ga K "cover") fd ∧ FnOk P w K mg base (L2.CX P w) (7) (He.ga K "cover") fd ["shape", "start", "end"] (spCover K) := by
  obtain ⟨fd, F⟩ := fd_cover T
  refine ⟨fd, F, L2.FunD.ok F sc_cover (fun vs H Q E h => ?_) (fun cdv A outer s0 H vs Q E hr h => ?_)⟩
  · obtain ⟨x, a, e, ws, rfl, hS, ho, hs1, hs2, hQ, hE⟩ := h
    rfl
  obtain ⟨x, a, e, ws, rfl, hS, ho, hs1, hs2, hQ, hE⟩ := h
  have hu := hu_of hr
  refine ⟨_, (pss_cons (ps_expr (pe_callNX (ok_check_range (P := P) (w := w) (base := base) T) hr (takes_of rfl rfl rfl rfl) (pa_cons (pv 1) (pa_cons (pv 2) (pa_cons (pe_fldK K (pv 0) rfl) pa_nil)))))
      (pss_cons (ps_set (i := 3) sc_cover.nd rfl (Or.inl rfl) (pe_lst pa_nil))
      (pss_cons (ps_set (i := 4) sc_cover.nd rfl (Or.inl rfl) (pv 1))
      (pss_cut (ps_while (passes_of rfl) (pt_cmpR op_lt (pv 4) (pv 2) (nomark _)) (pss_cons (ps_set (i := 5) sc_cover.nd rfl (Or.inl rfl) (pe_callN (ok_largest_block (P := P) (w := w) (base := base) T) hr (pa_cons (pv 0) (pa_cons (pv 4) (pa_cons (pv 2) pa_nil)))))
      (pss_cons (ps_expr (pe_bm PySem.F.plainAttrs_list PySem.F.slot_list_append PySem.F.type_list_append mt_append (pv 3) (pa_cons (pv 5) pa_nil)))
      (pss_one (ps_set (i := 4) sc_cover.nd rfl (Or.inl rfl) (pe_ix (ixT K) (pv 5) pe_int (fun _ _ => rfl)))))))
      (pss_cons (ps_assert (pt_val (pe_callN (ok_is_cover (P := P) (w := w) (base := base) T) hr (pa_cons (pv 0) (pa_cons (pv 3) (pa_cons (pv 1) (pa_cons (pv 2) pa_nil)))))))
      (pss_one (ps_ret (pv 3)))))))), ?_⟩
  obtain ⟨dx, t1, t2, hx, -, -⟩ := id hS
  refine cs_ask (ea_cons (ev_var rfl) (ea_cons (ev_var rfl) (ea_cons (ev_fld (ev_var rfl) hx (cls_Shape T) (na_Shape_page_count T) shL3) ea_nil))) fun H1 e1 => ?_
  refine ⟨_, _, _, rfl, hs1, hs2, fun hg H2 e2 => ?_, fun hg => (hE hg).go e1⟩
  have E2 := e1.trans e2
  obtain ⟨g0, g1, g2⟩ := id hg
  refine q_asgL (el_lst ea_nil (by simp)) fun p H3 hp e3 h3 => ?_
  have E3 := E2.trans e3
  have hp0 := fresh_back E2 hp
  refine q_asg (ev_var rfl) fun H4 e4 => ?_
  have E4 := E3.trans e4
  refine q_cut (M := fun σ' H' => Ex H H' ∧ ∃ (ys : List V) (m : Nat) (o : Option V), σ' = [some (.ref x), some (.int a), some (.int e), some (.ref p), some (.int e), o] ∧ H' p = some (.lst ys) ∧ PairsAt K H' ys (blocksN ws e a m) ∧ EndsAt ws e a m)
    (s_while (fun n σ' H' => Ex H H' ∧ ∃ (ys : List V) (m : Nat) (o : Option V), n = (e - pos ws e a m).toNat ∧ σ' = [some (.ref x), some (.int a), some (.int e), some (.ref p), some (.int (pos ws e a m)), o] ∧ H' p = some (.lst ys) ∧ PairsAt K H' ys (blocksN ws e a m) ∧ (∀ j < m, pos ws e a j < e) ∧ pos ws e a m ≤ e) (e - a).toNat
      ⟨E4, [], 0, _, rfl, rfl, e4 _ _ h3, trivial, by omega, by show a ≤ e; omega⟩ ?_) ?_
  · rintro n σ' H' ⟨E, ys, m, o, rfl, rfl, hl, hps, hbe, hle⟩
    refine ⟨_, et_test (ev_op (ev_var rfl) (ev_var rfl) rv_I0), fun hb H5 e5 => ?_, fun hb H5 e5 => ?_⟩
    · have hlt : pos ws e a m < e := of_decide_eq_true hb
      have hlow := pos_low ho e a m
      have hup := pos_up ho e a m
      have htop := pos_top ho hlt
      have hyl := hps.len
      rw [blocks_len] at hyl
      have htt := ho.top
      have E5 := E.trans e5
      refine ⟨fun σ' H' => Ex H H' ∧ ∃ (ys : List V) (o : Option V), σ' = [some (.ref x), some (.int a), some (.int e), some (.ref p), some (.int (pos ws e a (m + 1))), o] ∧ H' p = some (.lst ys) ∧ PairsAt K H' ys (blocksN ws e a (m + 1)), ?_, ?_⟩
      · rintro σ2 H6 ⟨E6, ys, o, rfl, hl, hps⟩
        refine ⟨(e - pos ws e a (m + 1)).toNat, by omega, E6, ys, m + 1, o, rfl, rfl, hl, hps, fun j hj => ?_, htop⟩
        rcases Nat.lt_or_ge j m with h | h
        · exact hbe j h
        · rw [show j = m by omega]
          exact hlt
      · refine qd_asg (d := .tuple [.int (pos ws e a m), .int (pos ws e a (m + 1))]) (evd_callV (ea_cons (ev_var rfl) (ea_cons (ev_var rfl) (ea_cons (ev_var rfl) ea_nil))) (svd_lb (hS.ex E5) ho (by omega) hlt (by omega))) fun v H6 e6 hv => ?_
        obtain ⟨t, rfl, ht⟩ := dp_pair hv
        refine q_app ((e5.trans e6) _ _ hl) (ev_var rfl) (ev_var rfl) (by omega) fun H7 e7 => ?_
        have hl7 := (e5.trans (e6.trans e7)) _ _ hl
        have ht7 : SqT K (upd H7 p (.lst (ys ++ [.ref t]))) t [.int (pos ws e a m), .int (pos ws e a (m + 1))] := sqt_keep hl7 (by simp) (by simp) (ex_t e7 ht)
        refine s_asg (evd_ixT (evd_var rfl (dp_of2 ht7)) ev_c rfl).toI fun H8 e8 => ⟨((E5.trans (e6.trans e7)).mut hp0).trans e8, ys ++ [.ref t], _, rfl, e8 _ _ upd_same, ?_⟩
        rw [blocks_up]
        exact (((hps.ex (e5.trans (e6.trans e7))).keep hl7).app (pairs_one ht7)).ex e8
    · have hge : ¬ pos ws e a m < e := of_decide_eq_false hb
      have hee : pos ws e a m = e := by omega
      rw [hee]
      exact ⟨E.trans e5, ys, m, o, rfl, e5 _ _ hl, hps.ex e5, ⟨hbe, hee⟩⟩
  · rintro σ' H' ⟨E, ys, m, o, rfl, hl, hps, hEn⟩
    refine et_B (ev_call (ea_cons (ev_var rfl) (ea_cons (ev_var rfl) (ea_cons (ev_var rfl) (ea_cons (ev_var rfl) ea_nil)))) (sv_ic (hS.ex E) ho g0 g2 hEn (sq_of hl) hps)) H' (Ex.refl H') _ fun H5 e5 => ⟨rfl, ?_⟩
    exact s_ret (ev_var rfl) fun H6 e6 => hQ hg p ys m H6 hp0 ((E.trans e5).trans e6) ((e5.trans e6) _ _ hl) (hps.ex (e5.trans e6)) hEn
theorem ok_cover (T : TX K mg) : DefOkX P w K mg base (7) "cover" ["shape", "start", "end"] (spCover K) := by
  obtain ⟨fd, F, h⟩ := fn_cover (P := P) (w := w) (base := base) T
  exact DefOkX.of F (gl_cover T) (F.bindsN fun _ _ _ _ _ _ us hl => match us, hl with | [_, _, _], _ => rfl) h
end

section
variable {P : Program} {w : World} {K : PySem.W.Frag} {mg : Str → Option Value} {base : Heap}
theorem numok {a k sz : Int} (h1 : 0 ≤ a) (h2 : a ≤ 1000) (h3 : 0 ≤ k) (h4 : k ≤ 1000) (h5 : 0 < sz) (h6 : sz ≤ 1000) : NumOk a k sz := by unfold NumOk; omega
theorem cut_from {xs : List Int} {k : Nat} (h : k ≤ xs.length) : cutV (xs.map V.int) (some (k : Int)) none = (xs.drop k).map V.int := by
  unfold cutV
  rw [HT.sIx_nat, HT.sIx_none, List.length_map, Nat.min_eq_left h, List.take_of_length_le (by simp), List.map_drop]
def spFanSp (K : PySem.W.Frag) : Sp := fun vs H Q _ => ∃ (a : Addr) (ws : List Int), vs = [.ref a] ∧ SqL K H a (ws.map V.int) ∧ FanOk ws ∧ RetL ((spansL ws).map V.int) H Q
theorem sl_spans {H : Hp} {a : Addr} {ws : List Int} (h : SqL K H a (ws.map V.int)) (ho : FanOk ws) : SpL (spFanSp K) [.ref a] H ((spansL ws).map V.int) := fun H1 e Q q E => ⟨a, ws, rfl, ex_l e h, ho, q⟩
theorem spans_take {ws : List Int} {i : Nat} (h : i < ws.length) : (spansL ws).take (i + 1) = (spansL ws).take i ++ [prodL (ws.drop (i + 1))] := by
  have h2 : i < (spansL ws).length := by rw [spans_len]; exact h
  rw [List.take_succ_eq_append_getElem h2]
  have := spans_at h
  rw [List.getElem?_eq_getElem h2] at this
  rw [Option.some.inj this]
theorem sc_l_fan_spans : FnScope ["_law_fan_here", "_law_spans", "_law_level", "_law_span", "_law_one"] ["_law_fan_here"] (defScope s_l_fan_spans) := ⟨rfl, rfl, rfl, by decide +kernel, rfl, by decide +kernel, by decide +kernel⟩
theorem fn_l_fan_spans (T : TX K mg) : ∃ fd, FunD K "_law_fan_spans" "_law_fan_spans" (defArgs s_l_fan_spans) (defBody s_l_fan_spans) (defScope s_l_fan_spans) [] [] (He.ga K "_law_fan_spans") fd ∧ FnOk P w K mg base CX0 (1) (He.ga K "_law_fan_spans") fd ["_law_fan_here"] (spFanSp K) := by
  obtain ⟨fd, F⟩ := fd_l_fan_spans T
  refine ⟨fd, F, My.FunD.ok0 F sc_l_fan_spans (fun vs H Q E h => ?_) (fun cdv A outer s0 H vs Q E hr h => ?_)⟩
  · obtain ⟨a, ws, rfl, hS, ho, hQ⟩ := h
    rfl
  obtain ⟨a, ws, rfl, hS, ho, hQ⟩ := h
  have hu := hu_of hr
  refine ⟨_, (pss_cons (ps_set (i := 1) sc_l_fan_spans.nd rfl (Or.inl rfl) (pe_lst pa_nil))
      (pss_cut (ps_for PassesOwn.never rfl (pi_range1 rfl (fr_range T) (pa_cons (pe_callB (lenQ K) (by rfl) (fr_len T) PySem.boot_len (pa_cons (pv 0) pa_nil)) pa_nil)) (pg_name (i := 2) sc_l_fan_spans.nd rfl (Or.inl rfl)) (pss_cons (ps_set (i := 3) sc_l_fan_spans.nd rfl (Or.inl rfl) pe_int)
      (pss_cut (ps_for PassesOwn.never rfl (pi_list (pe_slice (slL K) (pv 0) (po_some (pe_op op_add (pv 2) pe_int)) po_none)) (pg_name (i := 4) sc_l_fan_spans.nd rfl (Or.inl rfl)) (pss_one (ps_set (i := 3) sc_l_fan_spans.nd rfl (Or.inl rfl) (pe_op op_mul (pv 3) (pv 4)))))
      (pss_one (ps_expr (pe_bm PySem.F.plainAttrs_list PySem.F.slot_list_append PySem.F.type_list_append mt_append (pv 1) (pa_cons (pv 3) pa_nil)))))))
      (pss_one (ps_ret (pv 1))))), ?_⟩
  have hlen := ho.len
  refine q_asgL (el_lst ea_nil (by simp)) fun p H1 hp e1 h1 => ?_
  refine q_forR1' (n := (ws.length : Int)) (ea_cons (ev_is (ev_cb (ea_cons (ev_var rfl) ea_nil) (rc_lenL (ex_l e1 hS))) (by rw [List.length_map])) ea_nil) (by omega)
    (fun i σ' H' => Ex H H' ∧ H' p = some (.lst (((spansL ws).take i).map V.int)) ∧ ∃ o1 o2 o3, σ' = [some (.ref a), some (.ref p), o1, o2, o3])
    (fun σ' H' => Ex H H' ∧ H' p = some (.lst ((spansL ws).map V.int)) ∧ ∃ o1 o2 o3, σ' = [some (.ref a), some (.ref p), o1, o2, o3]) ?_ ?_ ?_ ?_
  · exact fun H2 e2 => ⟨e1.trans e2, e2 _ _ h1, _, _, _, rfl⟩
  · rintro i σ' H' hi ⟨E2, h2, o1, o2, o3, rfl⟩
    have hi' : i < ws.length := by omega
    refine q_asg ev_c fun H3 e3 => ?_
    have E3 := E2.trans e3
    have hcut : cutV (ws.map V.int) (some ((i : Int) + 1)) none = (ws.drop (i + 1)).map V.int := cut_from (k := i + 1) (by omega)
    refine q_forNL' (xs := (ws.drop (i + 1)).map V.int) (hcut ▸ el_sl (ev_var rfl) (eo_some (ev_op (ev_var rfl) ev_c rv_I0)) eo_none (ex_l E3 hS))
      (fun q j σ' H' => Ex H H' ∧ H' p = some (.lst (((spansL ws).take i).map V.int)) ∧ H' q = some (.lst ((ws.drop (i + 1)).map V.int)) ∧ ∃ o, σ' = [some (.ref a), some (.ref p), some (.int (i : Int)), some (.int (prodL ((ws.drop (i + 1)).take j))), o])
      (fun σ' H' => Ex H H' ∧ H' p = some (.lst (((spansL ws).take i).map V.int)) ∧ ∃ o, σ' = [some (.ref a), some (.ref p), some (.int (i : Int)), some (.int (prodL (ws.drop (i + 1)))), o]) ?_ ?_ ?_ ?_ ?_
    · exact fun q H4 hq e4 h4 => ⟨E3.trans e4, (e3.trans e4) _ _ h2, h4, _, rfl⟩
    · exact fun q j σ' H' _ ⟨_, _, h, _⟩ => sq_of h
    · rintro q j x σ' H' hx ⟨E4, h4, h5, o, rfl⟩
      rw [List.getElem?_map] at hx
      obtain ⟨x', hx', rfl⟩ := Option.map_eq_some_iff.mp hx
      obtain ⟨hj, rfl⟩ := List.getElem?_eq_some_iff.mp hx'
      have hw := ho.two _ (List.mem_of_mem_drop (List.getElem_mem hj))
      refine s_asg (ev_op (ev_var rfl) (ev_var rfl) (rv_I (by unfold CMul; omega))) fun H5 e5 => ⟨E4.trans e5, e5 _ _ h4, e5 _ _ h5, some (.int (ws.drop (i + 1))[j]), ?_⟩
      rw [prod_take hj]
      rfl
    · rintro q σ' H' ⟨E4, h4, h5, o, rfl⟩
      rw [List.length_map, List.take_length] 
      exact ⟨E4, h4, o, rfl⟩
    · rintro σ' H' ⟨E4, h4, o, rfl⟩
      refine s_app h4 (ev_var rfl) (ev_var rfl) (by simp; omega) fun H5 e5 => ⟨(E4.trans e5).mut hp, ?_, _, _, _, rfl⟩
      rw [upd_same, spans_take hi', List.map_append]
      rfl
  · rintro σ' H' ⟨E2, h2, o1, o2, o3, rfl⟩
    rw [show ((ws.length : Int)).toNat = ws.length by omega, List.take_of_length_le (by rw [spans_len]; omega)] at h2
    exact ⟨E2, h2, o1, o2, o3, rfl⟩
  · rintro σ' H' ⟨E2, h2, o1, o2, o3, rfl⟩
    exact s_ret (ev_var rfl) fun H3 e3 => hQ p H3 hp (E2.trans e3) (e3 _ _ h2)
theorem ok_l_fan_spans (T : TX K mg) : DefOk P w K mg base (1) "_law_fan_spans" ["_law_fan_here"] [] (spFanSp K) := by
  obtain ⟨fd, F, h⟩ := fn_l_fan_spans (P := P) (w := w) (base := base) T
  exact DefOk.of F (gl_l_fan_spans T) (F.bindsN fun _ _ _ _ _ _ us hl => match us, hl with | [_], _ => rfl) h
end
section
variable {P : Program} {w : World} {K : PySem.W.Frag} {mg : Str → Option Value} {base : Heap}
def spFan (K : PySem.W.Frag) : Sp := fun vs H Q _ => ∃ (s : Addr) (ns : List Int) (a m : Int), vs = [.ref s, .int a, .int m] ∧ SqL K H s (ns.map V.int) ∧ ns.length ≤ 63 ∧ 0 ≤ a ∧ a ≤ 1000 ∧ 8 ≤ m ∧ m ≤ 4096 ∧ ∀ ws : List Int, FanOk ws → RetL (ws.map V.int) H Q
/-- a fan that grows -/
structure FanUp (i : Nat) (ws : List Int) : Prop where
  len : ws.length ≤ i ∧ (0 < i → 1 ≤ ws.length)
  top : prodL ws ≤ 4096
  two : ∀ w ∈ ws, 2 ≤ w ∧ w ≤ 8
theorem FanUp.pos {i : Nat} {ws : List Int} (h : FanUp i ws) : Pos1 ws := fun x hx => by
  have := h.two x hx
  omega
theorem FanUp.ok {i : Nat} {ws : List Int} (h : FanUp i ws) (h0 : 0 < i) (h6 : i ≤ 6) : FanOk ws := ⟨h.pos, ⟨h.len.2 h0, by have := h.len.1; omega⟩, h.top, h.two⟩
theorem FanUp.same {i : Nat} {ws : List Int} (h : FanUp i ws) (h1 : 1 ≤ ws.length) : FanUp (i + 1) ws := ⟨⟨by have := h.len.1; omega, fun _ => h1⟩, h.top, h.two⟩
theorem FanUp.more {i : Nat} {ws : List Int} {w : Int} (h : FanUp i ws) (h1 : 2 ≤ w ∧ w ≤ 8) (ht : prodL ws * w ≤ 4096) : FanUp (i + 1) (ws ++ [w]) := by
  refine ⟨⟨by have := h.len.1; simp; omega, fun _ => by simp⟩, by rw [prodL_app, prodL_one]; exact ht, fun x hx => ?_⟩
  rcases List.mem_append.mp hx with hx | hx
  · exact h.two x hx
  · obtain rfl : x = w := by simpa using hx
    exact h1
theorem FanUp.first {i : Nat} {ws : List Int} (h : FanUp i ws) {w : Int} (h1 : 2 ≤ w ∧ w ≤ 8) {m : Int} (hm : 8 ≤ m) (ht : ¬ prodL ws * w ≤ m) : 1 ≤ ws.length := by
  cases ws with
  | nil =>
    exfalso
    apply ht
    simp only [prodL]
    omega
  | cons _ _ => simp
theorem sc_l_fan : FnScope ["_law_script", "_law_at", "_law_most", "_law_fan_here", "_law_total", "_law_k", "_law_width"] ["_law_script", "_law_at", "_law_most"] (defScope s_l_fan) := ⟨rfl, rfl, rfl, by decide +kernel, rfl, by decide +kernel, by decide +kernel⟩
theorem fn_l_fan (T : TX K mg) : ∃ fd, FunD K "_law_fan" "_law_fan" (defArgs s_l_fan) (defBody s_l_fan) (defScope s_l_fan) [] [] (He.ga K "_law_fan") fd ∧ FnOk P w K mg base CX0 (2) (He.ga K "_law_fan") fd ["_law_script", "_law_at", "_law_most"] (spFan K) := by
  obtain ⟨fd, F⟩ := fd_l_fan T
  refine ⟨fd, F, My.FunD.ok0 F sc_l_fan (fun vs H Q E h => ?_) (fun cdv A outer s0 H vs Q E hr h => ?_)⟩
  · obtain ⟨s, ns, a, m, rfl, hS, hl, ha0, ha1, hm0, hm1, hQ⟩ := h
    rfl
  obtain ⟨s, ns, a, m, rfl, hS, hl, ha0, ha1, hm0, hm1, hQ⟩ := h
  have hu := hu_of hr
  refine ⟨_, (pss_cons (ps_set (i := 3) sc_l_fan.nd rfl (Or.inl rfl) (pe_lst pa_nil))
      (pss_cons (ps_set (i := 4) sc_l_fan.nd rfl (Or.inl rfl) pe_int)
      (pss_cut (ps_for PassesOwn.never rfl (pi_range1 rfl (fr_range T) (pa_cons (pe_op op_add pe_int (pe_callN (ok_l_number (P := P) (w := w) (base := base) T) hr (pa_cons (pv 0) (pa_cons (pv 1) (pa_cons pe_int (pa_cons pe_int pa_nil)))))) pa_nil)) (pg_name (i := 5) sc_l_fan.nd rfl (Or.inl rfl)) (pss_cons (ps_set (i := 6) sc_l_fan.nd rfl (Or.inl rfl) (pe_op op_add pe_int (pe_callN (ok_l_number (P := P) (w := w) (base := base) T) hr (pa_cons (pv 0) (pa_cons (pv 1) (pa_cons (pv 5) (pa_cons pe_int pa_nil)))))))
      (pss_one (ps_if (pt_cmpR op_le (pe_op op_mul (pv 4) (pv 6)) (pv 2) (nomark _)) (pss_cons (ps_expr (pe_bm PySem.F.plainAttrs_list PySem.F.slot_list_append PySem.F.type_list_append mt_append (pv 3) (pa_cons (pv 6) pa_nil)))
      (pss_one (ps_set (i := 4) sc_l_fan.nd rfl (Or.inl rfl) (pe_op op_mul (pv 4) (pv 6))))) pss_nil))))
      (pss_one (ps_ret (pv 3)))))), ?_⟩
  have nb := lawNum_nn ns a 6 4 (by decide)
  have nl := lawNum_lt ns a 6 4 (by decide)
  refine q_asgL (el_lst ea_nil (by simp)) fun p H1 hp e1 h1 => ?_
  refine q_asg ev_c fun H2 e2 => ?_
  have E2 := e1.trans e2
  refine q_forR1' (n := 1 + lawNum ns a 6 4) (ea_cons (ev_op ev_c (ev_call (ea_cons (ev_var rfl) (ea_cons (ev_var rfl) (ea_cons ev_c (ea_cons ev_c ea_nil)))) (sv_num (ex_l E2 hS) hl (numok ha0 ha1 (by omega) (by omega) (by omega) (by omega)))) rv_I0) ea_nil) (by omega)
    (fun i σ' H' => Ex H H' ∧ ∃ (ws : List Int) (o1 o2 : Option V), FanUp i ws ∧ H' p = some (.lst (ws.map V.int)) ∧ σ' = [some (.ref s), some (.int a), some (.int m), some (.ref p), some (.int (prodL ws)), o1, o2])
    (fun σ' H' => Ex H H' ∧ ∃ (ws : List Int) (o1 o2 : Option V), FanOk ws ∧ H' p = some (.lst (ws.map V.int)) ∧ σ' = [some (.ref s), some (.int a), some (.int m), some (.ref p), some (.int (prodL ws)), o1, o2]) ?_ ?_ ?_ ?_
  · exact fun H3 e3 => ⟨E2.trans e3, [], _, _, ⟨⟨by simp, by simp⟩, by decide, by simp⟩, (e2.trans e3) _ _ h1, rfl⟩
  · rintro i σ' H' hi ⟨E3, ws, o1, o2, hf, h3, rfl⟩
    have nk := lawNum_nn ns a (i : Int) 7 (by decide)
    have nkl := lawNum_lt ns a (i : Int) 7 (by decide)
    have hw : 2 ≤ 2 + lawNum ns a (i : Int) 7 ∧ 2 + lawNum ns a (i : Int) 7 ≤ 8 := by omega
    refine q_asg (ev_op ev_c (ev_call (ea_cons (ev_var rfl) (ea_cons (ev_var rfl) (ea_cons (ev_var rfl) (ea_cons ev_c ea_nil)))) (sv_num (ex_l E3 hS) hl (numok ha0 ha1 (by omega) (by omega) (by omega) (by omega)))) rv_I0) fun H4 e4 => ?_
    have E4 := E3.trans e4
    generalize 2 + lawNum ns a (i : Int) 7 = wd at hw ⊢
    have hp1 := prodL_pos hf.pos
    have hp2 := hf.top
    refine s_when (et_test (ev_op (ev_op (ev_var rfl) (ev_var rfl) (rv_I (by unfold CMul; omega))) (ev_var rfl) rv_I0)) (fun hb H5 e5 => ?_) (fun hb H5 e5 => ?_)
    · have hle : prodL ws * wd ≤ m := of_decide_eq_true hb
      refine q_app (e4.trans e5 _ _ h3) (ev_var rfl) (ev_var rfl) (by have := hf.len.1; simp; omega) fun H6 e6 => ?_
      refine s_asg (ev_op (ev_var rfl) (ev_var rfl) (rv_I (by unfold CMul; omega))) fun H7 e7 => ⟨(((E4.trans e5).trans e6).mut hp).trans e7, ws ++ [wd], some (.int (i : Int)), some (.int wd), hf.more hw (by omega), ?_, ?_⟩
      · rw [List.map_append]
        exact e7 _ _ upd_same
      · rw [prodL_app, prodL_one]
        rfl
    · have hle : ¬ prodL ws * wd ≤ m := of_decide_eq_false hb
      exact ⟨E4.trans e5, ws, _, _, hf.same (hf.first hw hm0 hle), (e4.trans e5) _ _ h3, rfl⟩
  · rintro σ' H' ⟨E3, ws, o1, o2, hf, h3, rfl⟩
    exact ⟨E3, ws, o1, o2, hf.ok (by omega) (by omega), h3, rfl⟩
  · rintro σ' H' ⟨E3, ws, o1, o2, hf, h3, rfl⟩
    exact s_ret (ev_var rfl) fun H4 e4 => hQ ws hf p H4 hp (E3.trans e4) (e4 _ _ h3)
theorem ok_l_fan (T : TX K mg) : DefOk P w K mg base (2) "_law_fan" ["_law_script", "_law_at", "_law_most"] [] (spFan K) := by
  obtain ⟨fd, F, h⟩ := fn_l_fan (P := P) (w := w) (base := base) T
  exact DefOk.of F (gl_l_fan T) (F.bindsN fun _ _ _ _ _ _ us hl => match us, hl with | [_, _, _], _ => rfl) h
theorem q_fan {s : Addr} {ns : List Int} {a m : Int} {σ : L2.St} {H : Hp} {t : TA} {n : Nat} {tz : TS} {D : Ends} (ht : EvA t σ H [.ref s, .int a, .int m]) (hS : SqL K H s (ns.map V.int)) (hl : ns.length ≤ 63) (ha0 : 0 ≤ a) (ha1 : a ≤ 1000) (hm0 : 8 ≤ m) (hm1 : m ≤ 4096)
    (q : ∀ (ws : List Int), FanOk ws → ∀ p H1, H p = none → Ex H H1 → H1 p = some (.lst (ws.map V.int)) → tz D (σ.set n (some (.ref p))) H1) : tSeq (tAsg (tCall (spFan K) [] E0 t) (gName n)) tz D σ H :=
  ht H (Ex.refl H) _ fun H1 e1 => ⟨s, ns, a, m, rfl, ex_l e1 hS, hl, ha0, ha1, hm0, hm1, fun ws hw p H2 hp e2 h2 => q ws hw p H2 (fresh_back e1 hp) (e1.trans e2) h2⟩
/-- a new Shape -/
theorem q_shape {te : TE} {ws : List Int} {σ : L2.St} {H : Hp} {n : Nat} {tz : TS} {D : Ends} (h : EvP te σ H fun v H1 => ∃ l, v = .ref l ∧ (SqL K H1 l (ws.map V.int) ∨ SqT K H1 l (ws.map V.int))) (ho : FanOk ws)
    (q : ∀ x H1, H x = none → Ex H H1 → IsShape K H1 x ws → tz D (σ.set n (some (.ref x))) H1) : tSeq (tAsg (tMake (He.ga K "Shape") (spShape K) [] E0 (tCons te tNil)) (gName n)) tz D σ H :=
  h H (Ex.refl H) _ fun v H1 e1 hv => by
    obtain ⟨l, rfl, hs⟩ := hv
    intro x dx nx nd ne
    have hl : SqL K (upd (upd H1 dx (.own x)) x (.ins (He.ga K "Shape") dx [])) l (ws.map V.int) ∨ SqT K (upd (upd H1 dx (.own x)) x (.ins (He.ga K "Shape") dx [])) l (ws.map V.int) := by
      have e : Ex H1 (upd (upd H1 dx (.own x)) x (.ins (He.ga K "Shape") dx [])) := (Ex.new nd).mut nx
      rcases hs with hs | hs
      · exact .inl (ex_l e hs)
      · exact .inr (ex_t e hs)
    refine ⟨x, l, dx, ws, rfl, upd_same, hl, ho, fun H2 e2 h2 => ⟨rfl, q x H2 (fresh_back e1 nx) (e1.trans fun b o hb => ?_) h2⟩⟩
    have hbx : b ≠ x := ne_of_none hb nx
    refine e2 b o (by simpa using hbx) ?_
    rw [upd_ne hbx, upd_ne (ne_of_none hb nd)]
    exact hb
theorem spd_same {d : PyData} {n : Nat} (hn : Dn n d) : SpD K (spSame K n) [d, d] (.bool true) := fun vs H1 hv Q q E => by
  cases hv with
  | cons h1 t1 =>
    cases t1 with
    | cons h2 t2 =>
      cases t2
      exact sv_same h1 h2 hn hn (b := true) (by simp) H1 (Ex.refl H1) Q (fun H2 e => q _ H2 e (.bl true)) E
theorem ints_at {ws : List Int} {k : Nat} (h : k < ws.length) : atI (ws.map V.int) (k : Int) = some (.int ws[k]) := by
  show (ixN _ (k : Int)).bind _ = _
  rw [ixN_nat (by rw [List.length_map]; exact h)]
  show (ws.map V.int)[k]? = _
  rw [List.getElem?_map, List.getElem?_eq_getElem h]
  rfl
theorem top_mul {ws : List Int} (ho : FanOk ws) : ∃ h : 0 < ws.length, prodL (ws.drop (0 + 1)) * ws[0] = prodL ws := by
  have h := ho.len.1
  refine ⟨h, ?_⟩
  have := prod_at (ws := ws) (i := 0) h
  rw [List.drop_zero] at this
  rw [this, Int.mul_comm]
/-- spans[0] * fan[0] -/
theorem ev_top {σ : L2.St} {H : Hp} {t1 t2 : TE} {p f : Addr} {ws : List Int} (ho : FanOk ws) (h1 : Ev t1 σ H (.ref p)) (h2 : Ev t2 σ H (.ref f)) (hp : SqL K H p ((spansL ws).map V.int)) (hf : SqL K H f (ws.map V.int)) :
    Ev (tOp (rI CMul fun i j => .int (i * j)) (tOp (rIxL K) t1 (tC (.int 0))) (tOp (rIxL K) t2 (tC (.int 0)))) σ H (.int (prodL ws)) := by
  obtain ⟨h0, e⟩ := top_mul ho
  have hw := ho.two _ (List.getElem_mem h0)
  have h := ev_op (ev_op h1 ev_c (rv_ixL hp (sp_atI (k := 0) h0))) (ev_op h2 ev_c (rv_ixL hf (ints_at (k := 0) h0))) (rv_I (C := CMul) (g := fun i j => V.int (i * j)) (by unfold CMul; omega))
  rw [e] at h
  exact h
end

section
variable {P : Program} {w : World} {K : PySem.W.Frag} {mg : Str → Option Value} {base : Heap}
/-! ### drawn ranges -/
def spRange (K : PySem.W.Frag) : Sp := fun vs H Q _ => ∃ (s : Addr) (ns : List Int) (a t : Int), vs = [.ref s, .int a, .int t] ∧ SqL K H s (ns.map V.int) ∧ ns.length ≤ 63 ∧ 0 ≤ a ∧ a ≤ 1000 ∧ 1 ≤ t ∧ t ≤ 4096 ∧ ∀ lo hi : Int, -10000 ≤ lo → lo ≤ 10000 → -10000 ≤ hi → hi ≤ 10000 → RetD K (.tuple [.int lo, .int hi]) H Q
theorem six_pr {i : Int} (h0 : 0 ≤ i) (h1 : i < 6) (ps : List (Int × Int)) (hl : ps.length = 6) (hp : ∀ p ∈ ps, -10000 ≤ p.1 ∧ p.1 ≤ 10000 ∧ -10000 ≤ p.2 ∧ p.2 ≤ 10000) : ∃ lo hi : Int, atI (ps.map pr2) i = some (.tuple [.int lo, .int hi]) ∧ -10000 ≤ lo ∧ lo ≤ 10000 ∧ -10000 ≤ hi ∧ hi ≤ 10000 := by
  obtain ⟨n, rfl⟩ : ∃ n : Nat, i = n := ⟨i.toNat, by omega⟩
  have hn : n < ps.length := by omega
  have := hp _ (List.getElem_mem hn)
  refine ⟨ps[n].1, ps[n].2, ?_, this⟩
  show (ixN _ (n : Int)).bind _ = _
  rw [ixN_nat (by rw [List.length_map]; exact hn)]
  show (ps.map pr2)[n]? = _
  rw [List.getElem?_map, List.getElem?_eq_getElem hn]
  rfl
theorem evd_pr {te1 te2 : TE} {σ : L2.St} {H : Hp} {a b : Int} (h1 : Ev te1 σ H (.int a)) (h2 : Ev te2 σ H (.int b)) : EvD K (tTup (tCons te1 (tCons te2 tNil))) σ H (pr2 (a, b)) := evd_tup (evds_cons (evd_i h1) (evds_cons (evd_i h2) evds_nil)) (by simp)
theorem sc_l_range : FnScope ["_law_script", "_law_at", "_law_total", "_law_low", "_law_many", "_law_high", "_law_pairs"] ["_law_script", "_law_at", "_law_total"] (defScope s_l_range) := ⟨rfl, rfl, rfl, by decide +kernel, rfl, by decide +kernel, by decide +kernel⟩
theorem fn_l_range (T : TX K mg) : ∃ fd, FunD K "_law_range" "_law_range" (defArgs s_l_range) (defBody s_l_range) (defScope s_l_range) [] [] (He.ga K "_law_range") fd ∧ FnOk P w K mg base CX0 (2) (He.ga K "_law_range") fd ["_law_script", "_law_at", "_law_total"] (spRange K) := by
  obtain ⟨fd, F⟩ := fd_l_range T
  refine ⟨fd, F, My.FunD.ok0 F sc_l_range (fun vs H Q E h => ?_) (fun cdv A outer s0 H vs Q E hr h => ?_)⟩
  · obtain ⟨s, ns, a, t, rfl, hS, hl, ha0, ha1, ht0, ht1, hQ⟩ := h
    rfl
  obtain ⟨s, ns, a, t, rfl, hS, hl, ha0, ha1, ht0, ht1, hQ⟩ := h
  have hu := hu_of hr
  refine ⟨_, (pss_cons (ps_set (i := 3) sc_l_range.nd rfl (Or.inl rfl) (pe_op op_mod (pe_callTy call_int1 (by rfl) (fr_int T) (by decide +kernel) (pa_cons (pe_op op_add (pe_callN (ok_l_number (P := P) (w := w) (base := base) T) hr (pa_cons (pv 0) (pa_cons (pv 1) (pa_cons pe_int (pa_cons pe_int pa_nil))))) (pe_op op_mul pe_int (pe_callN (ok_l_number (P := P) (w := w) (base := base) T) hr (pa_cons (pv 0) (pa_cons (pv 1) (pa_cons pe_int (pa_cons pe_int pa_nil))))))) pa_nil)) (pv 2)))
      (pss_cons (ps_set (i := 4) sc_l_range.nd rfl (Or.inl rfl) (pe_op op_mod (pe_callTy call_int1 (by rfl) (fr_int T) (by decide +kernel) (pa_cons (pe_op op_add (pe_callN (ok_l_number (P := P) (w := w) (base := base) T) hr (pa_cons (pv 0) (pa_cons (pv 1) (pa_cons pe_int (pa_cons pe_int pa_nil))))) (pe_op op_mul pe_int (pe_callN (ok_l_number (P := P) (w := w) (base := base) T) hr (pa_cons (pv 0) (pa_cons (pv 1) (pa_cons pe_int (pa_cons pe_int pa_nil))))))) pa_nil)) (pe_op op_sub (pv 2) (pv 3))))
      (pss_cons (ps_set (i := 5) sc_l_range.nd rfl (Or.inl rfl) (pe_op op_add (pe_op op_add (pv 3) pe_int) (pv 4)))
      (pss_cons (ps_if (pt_cmpR op_eq (pe_callN (ok_l_number (P := P) (w := w) (base := base) T) hr (pa_cons (pv 0) (pa_cons (pv 1) (pa_cons pe_int (pa_cons pe_int pa_nil))))) pe_int (nomark _)) (pss_cons (ps_set (i := 6) sc_l_range.nd rfl (Or.inl rfl) (pe_lst (pa_cons (pe_tup (pa_cons (pv 3) (pa_cons (pv 3) pa_nil))) (pa_cons (pe_tup (pa_cons (pv 5) (pa_cons (pv 3) pa_nil))) (pa_cons (pe_tup (pa_cons (pv 3) (pa_cons (pe_op op_add (pv 2) pe_int) pa_nil))) (pa_cons (pe_tup (pa_cons (pe_un un_neg pe_int) (pa_cons (pv 5) pa_nil))) (pa_cons (pe_tup (pa_cons (pv 2) (pa_cons (pe_op op_add (pv 2) pe_int) pa_nil))) (pa_cons (pe_tup (pa_cons (pe_un un_neg pe_int) (pa_cons (pe_un un_neg pe_int) pa_nil))) pa_nil))))))))
      (pss_one (ps_ret (pe_ix (ixL K) (pv 6) (pe_callN (ok_l_number (P := P) (w := w) (base := base) T) hr (pa_cons (pv 0) (pa_cons (pv 1) (pa_cons pe_int (pa_cons pe_int pa_nil))))) (fun _ _ => rfl))))) pss_nil)
      (pss_one (ps_ret (pe_tup (pa_cons (pv 3) (pa_cons (pv 5) pa_nil))))))))), ?_⟩
  have num : ∀ {σ : L2.St} {H1 : Hp} {k z : Int}, σ[0]? = some (some (.ref s)) → σ[1]? = some (some (.int a)) → Ex H H1 → 0 ≤ k → k ≤ 1000 → 0 < z → z ≤ 1000 → Ev (tCall (spNum K) [] E0 (tCons (tVar 0) (tCons (tVar 1) (tCons (tC (.int k)) (tCons (tC (.int z)) tNil))))) σ H1 (.int (lawNum ns a k z)) := fun r0 r1 e k0 k1 z0 z1 =>
    ev_call (ea_cons (ev_var r0) (ea_cons (ev_var r1) (ea_cons ev_c (ea_cons ev_c ea_nil)))) (sv_num (ex_l e hS) hl (numok ha0 ha1 k0 k1 z0 z1))
  have big : ∀ {σ : L2.St} {H1 : Hp} {k1 k2 : Int}, σ[0]? = some (some (.ref s)) → σ[1]? = some (some (.int a)) → Ex H H1 → 0 ≤ k1 → k1 ≤ 1000 → 0 ≤ k2 → k2 ≤ 1000 →
      Ev (tCB (fun xs H Q => (∃ i, xs = [V.int i] ∧ Q (.int i) H) ∨ ∃ k, xs = [V.bl k] ∧ Q (.int (if k then 1 else 0)) H) (tCons (tOp (rI0 fun i j => .int (i + j)) (tCall (spNum K) [] E0 (tCons (tVar 0) (tCons (tVar 1) (tCons (tC (.int k1)) (tCons (tC (.int 1000)) tNil)))))
        (tOp (rI CMul fun i j => .int (i * j)) (tC (.int 1000)) (tCall (spNum K) [] E0 (tCons (tVar 0) (tCons (tVar 1) (tCons (tC (.int k2)) (tCons (tC (.int 5)) tNil))))))) tNil)) σ H1 (.int (lawNum ns a k1 1000 + 1000 * lawNum ns a k2 5)) := fun {σ H1 k1 k2} r0 r1 e h1 h2 h3 h4 => by
    have n2 := lawNum_nn ns a k2 5 (by decide)
    have l2 := lawNum_lt ns a k2 5 (by decide)
    exact ev_cb (ea_cons (ev_op (num r0 r1 e h1 h2 (by decide) (by decide)) (ev_op ev_c (num r0 r1 e h3 h4 (by decide) (by decide)) (rv_I (by unfold CMul; omega))) rv_I0) ea_nil) rc_int
  refine q_asg (ev_op (big rfl rfl (Ex.refl H) (by decide) (by decide) (by decide) (by decide)) (ev_var rfl) (rv_I (by show 0 < t; omega))) fun H1 e1 => ?_
  have z0 := Int.emod_nonneg (lawNum ns a 10 1000 + 1000 * lawNum ns a 14 5) (show t ≠ 0 by omega)
  have z1 := Int.emod_lt_of_pos (lawNum ns a 10 1000 + 1000 * lawNum ns a 14 5) (show 0 < t by omega)
  generalize (lawNum ns a 10 1000 + 1000 * lawNum ns a 14 5) % t = lo at z0 z1 ⊢
  refine q_asg (ev_op (big rfl rfl e1 (by decide) (by decide) (by decide) (by decide)) (ev_op (ev_var rfl) (ev_var rfl) rv_I0) (rv_I (by show 0 < t - lo; omega))) fun H2 e2 => ?_
  have y0 := Int.emod_nonneg (lawNum ns a 11 1000 + 1000 * lawNum ns a 15 5) (show t - lo ≠ 0 by omega)
  have y1 := Int.emod_lt_of_pos (lawNum ns a 11 1000 + 1000 * lawNum ns a 15 5) (show 0 < t - lo by omega)
  generalize (lawNum ns a 11 1000 + 1000 * lawNum ns a 15 5) % (t - lo) = mn at y0 y1 ⊢
  refine q_asg (ev_op (ev_op (ev_var rfl) ev_c rv_I0) (ev_var rfl) rv_I0) fun H3 e3 => ?_
  have E3 := (e1.trans e2).trans e3
  have nb := lawNum_nn ns a 13 6 (by decide)
  have nl := lawNum_lt ns a 13 6 (by decide)
  refine q_when (et_test (ev_op (num rfl rfl E3 (by decide) (by decide) (by decide) (by decide)) ev_c (rv_eq rfl))) (fun hb H4 e4 => ?_) (fun hb H4 e4 => ?_)
  · have E4 := E3.trans e4
    refine qd_asg (K := K) (d := .list ([(lo, lo), (lo + 1 + mn, lo), (lo, t + 1), (-1, lo + 1 + mn), (t, t + 3), (-3, -2)].map pr2)) (evd_lst (evds_cons (evd_pr (ev_var rfl) (ev_var rfl)) (evds_cons (evd_pr (ev_var rfl) (ev_var rfl)) (evds_cons (evd_pr (ev_var rfl) (ev_op (ev_var rfl) ev_c rv_I0)) (evds_cons (evd_pr (ev_un ev_c ru_neg) (ev_var rfl))
      (evds_cons (evd_pr (ev_var rfl) (ev_op (ev_var rfl) ev_c rv_I0)) (evds_cons (evd_pr (ev_un ev_c ru_neg) (ev_un ev_c ru_neg)) evds_nil)))))) (by simp)) fun v H5 e5 hv => ?_
    obtain ⟨l, h, hat, l0, l1, h0, h1⟩ := six_pr nb nl [(lo, lo), (lo + 1 + mn, lo), (lo, t + 1), (-1, lo + 1 + mn), (t, t + 3), (-3, -2)] rfl (by simp; omega)
    have E5 := E4.trans e5
    exact sd_ret (evd_ixL (evd_var rfl hv) (num rfl rfl E5 (by decide) (by decide) (by decide) (by decide)) hat) ((hQ l h l0 l1 h0 h1).go E5)
  · exact sd_ret (evd_tup (evds_cons (evd_i (ev_var rfl)) (evds_cons (evd_i (ev_var rfl)) evds_nil)) (by simp)) ((hQ lo (lo + 1 + mn) (by omega) (by omega) (by omega) (by omega)).go (E3.trans e4))
theorem ok_l_range (T : TX K mg) : DefOk P w K mg base (2) "_law_range" ["_law_script", "_law_at", "_law_total"] [] (spRange K) := by
  obtain ⟨fd, F, h⟩ := fn_l_range (P := P) (w := w) (base := base) T
  exact DefOk.of F (gl_l_range T) (F.bindsN fun _ _ _ _ _ _ us hl => match us, hl with | [_, _, _], _ => rfl) h
/-! ### what is refused -/
def spRefused (K : PySem.W.Frag) : Sp := fun vs H Q _ => ∃ (x : Addr) (a e : Int) (ws : List Int), vs = [.ref x, .int a, .int e] ∧ IsShape K H x ws ∧ FanOk ws ∧ small a ∧ small e ∧ ¬ goodRange a e (prodL ws) ∧ RetD K (.tuple [.int a, .int e]) H Q
theorem svd_refused {H : Hp} {x : Addr} {a e : Int} {ws : List Int} (h : IsShape K H x ws) (ho : FanOk ws) (h1 : small a) (h2 : small e) (hg : ¬ goodRange a e (prodL ws)) : SpVD K (spRefused K) [.ref x, .int a, .int e] H (.tuple [.int a, .int e]) := fun H1 e1 Q q E => ⟨x, a, e, ws, rfl, h.ex e1, ho, h1, h2, hg, q⟩
theorem nSE : ("start" : Str) ≠ "end" := by decide +kernel
theorem isnt7 (T : TX K mg) : PySem.W.kitAny K (.ref (He.ga K "BadRange")) [.ref (He.ga K "Unmapped"), .ref (He.ga K "Denied"), .ref (He.ga K "BeyondFile"), .ref (He.ga K "LimitError"), .ref (He.ga K "MissingError"), .ref (He.ga K "FileError"), .ref (He.ga K "CodeError")] = some false :=
  kitAny_cons (kit_BadRange_Unmapped T) (fun _ => kitAny_cons (kit_BadRange_Denied T) (fun _ => kitAny_cons (kit_BadRange_BeyondFile T) (fun _ => kitAny_cons (kit_BadRange_LimitError T) (fun _ => kitAny_cons (kit_BadRange_MissingError T) (fun _ => kitAny_cons (kit_BadRange_FileError T)
    (fun _ => kitAny_cons (kit_BadRange_CodeError T) (fun _ => kitAny_nil) (fun z => nomatch z)) (fun z => nomatch z)) (fun z => nomatch z)) (fun z => nomatch z)) (fun z => nomatch z)) (fun z => nomatch z)) (fun z => nomatch z)
theorem sc_l_cover_refused : FnScope ["_law_shape", "_law_low", "_law_high", "e"] ["_law_shape", "_law_low", "_law_high"] (defScope s_l_cover_refused) := ⟨rfl, rfl, rfl, by decide +kernel, rfl, by decide +kernel, by decide +kernel⟩
theorem fn_l_cover_refused (T : TX K mg) : ∃ fd, FunD K "_law_cover_refused" "_law_cover_refused" (defArgs s_l_cover_refused) (defBody s_l_cover_refused) (defScope s_l_cover_refused) [] [] (He.ga K "_law_cover_refused") fd ∧ FnOk P w K mg base CX0 (8) (He.ga K "_law_cover_refused") fd ["_law_shape", "_law_low", "_law_high"] (spRefused K) := by
  obtain ⟨fd, F⟩ := fd_l_cover_refused T
  refine ⟨fd, F, My.FunD.ok0 F sc_l_cover_refused (fun vs H Q E h => ?_) (fun cdv A outer s0 H vs Q E hr h => ?_)⟩
  · obtain ⟨x, a, e, ws, rfl, hS, ho, hs1, hs2, hg, hQ⟩ := h
    rfl
  obtain ⟨x, a, e, ws, rfl, hS, ho, hs1, hs2, hg, hQ⟩ := h
  have hu := hu_of hr
  refine ⟨_, (pss_cons (ps_try_as (i := 3) (c := .ref (He.ga K "PagesError")) (Wout := fun _ _ _ _ => False) rfl rfl sc_l_cover_refused.nd rfl rfl ⟨rfl, by decide, (Or.inl (gl_PagesError T))⟩ takes0 (fun W pn xe tk po => (pss_one (ps_expr (pe_callNX (ok_cover (P := P) (w := w) (base := base) T) hr tk (pa_cons (pv 0) (pa_cons (pv 1) (pa_cons (pv 2) pa_nil))))))) (fun a oe cls d pn hz hf => (pss_cons (ps_if (PW.pt (pw_or (pt_not (pt_val (pe_callB (call_isX K (xf_BadRange T) hz hf) (by rfl) (fr_isinstance T) (by decide +kernel) (pa_cons (pv 3) (pa_cons (pe_glob rfl (gl_BadRange T) (v := .ref (He.ga K "BadRange")) rfl) pa_nil))))) (pw_or (pt_not (pt_val (pe_callB (call_isX K (xf_BadRange T) hz hf) (by rfl) (fr_isinstance T) (by decide +kernel) (pa_cons (pv 3) (pa_cons (pe_glob rfl (gl_AccessError T) (v := .ref (He.ga K "AccessError")) rfl) pa_nil))))) (pw_or1 (pt_not (pt_val (pe_callB (call_isX K (xf_BadRange T) hz hf) (by rfl) (fr_isinstance T) (by decide +kernel) (pa_cons (pv 3) (pa_cons (pe_bltn (v := .ty "ValueError") (by rfl) (fr_ValueError T) (by decide +kernel) rfl) pa_nil))))))))) (pss_one (ps_ret pe_non)) pss_nil)
      (pss_cons (ps_if (pt_val (pe_callB (call_isX K (xf_BadRange T) hz hf) (by rfl) (fr_isinstance T) (by decide +kernel) (pa_cons (pv 3) (pa_cons (pe_tup (pa_cons (pe_glob rfl (gl_Unmapped T) (v := .ref (He.ga K "Unmapped")) rfl) (pa_cons (pe_glob rfl (gl_Denied T) (v := .ref (He.ga K "Denied")) rfl) (pa_cons (pe_glob rfl (gl_BeyondFile T) (v := .ref (He.ga K "BeyondFile")) rfl) (pa_cons (pe_glob rfl (gl_LimitError T) (v := .ref (He.ga K "LimitError")) rfl) (pa_cons (pe_glob rfl (gl_MissingError T) (v := .ref (He.ga K "MissingError")) rfl) (pa_cons (pe_glob rfl (gl_FileError T) (v := .ref (He.ga K "FileError")) rfl) (pa_cons (pe_glob rfl (gl_CodeError T) (v := .ref (He.ga K "CodeError")) rfl) pa_nil)))))))) pa_nil)))) (pss_one (ps_ret pe_non)) pss_nil)
      (pss_one (ps_ret (pe_tup (pa_cons (pe_xfK K (xf_BadRange T) (na_BadRange_start T) hz hf (pv 3)) (pa_cons (pe_xfK K (xf_BadRange T) (na_BadRange_end T) hz hf (pv 3)) pa_nil)))))))))
      (pss_one (ps_ret pe_non))), ?_⟩
  refine cs_ask (ea_cons (ev_var rfl) (ea_cons (ev_var rfl) (ea_cons (ev_var rfl) ea_nil))) fun H2 e2 => ?_
  refine ⟨x, a, e, ws, rfl, hS.ex e2, ho, hs1, hs2, fun z => absurd z hg, fun _ => catch_as (exm_BadRange_PagesError T) fun d H3 nd e3 h3 ad na => ?_⟩
  have E3 := e2.trans e3
  refine q_whenF (et_is (et_or (et_not (et_B (ev_isX (ev_var rfl) ev_c h3 (.own _) (kit_BadRange_BadRange T)))) fun _ => et_or (et_not (et_B (ev_isX (ev_var rfl) ev_c h3 (.own _) (kit_BadRange_AccessError T)))) fun _ => et_not (et_B (ev_isX (ev_var rfl) ev_c h3 (.ty _) (kit_BadRange_ValueError T)))) rfl) fun H4 e4 => ?_
  have h4 := e4 _ _ h3
  refine q_whenF (et_B (ev_isXT (ev_var rfl) (ea_cons ev_c (ea_cons ev_c (ea_cons ev_c (ea_cons ev_c (ea_cons ev_c (ea_cons ev_c (ea_cons ev_c ea_nil))))))) (by simp) h4 (.cons (.own _) (.cons (.own _) (.cons (.own _) (.cons (.own _) (.cons (.own _) (.cons (.own _) (.cons (.own _) .nil))))))) (isnt7 T))) fun H5 e5 => ?_
  have h5 := e5 _ _ h4
  exact sd_ret (evd_tup (evds_cons (evd_i (ev_xf (ev_var rfl) h5 (by rw [lk_miss nSE, lk_hit]))) (evds_cons (evd_i (ev_xf (ev_var rfl) h5 lk_hit)) evds_nil)) (by simp)) (hQ.go ((E3.trans e4).trans e5))
theorem ok_l_cover_refused (T : TX K mg) : DefOk P w K mg base (8) "_law_cover_refused" ["_law_shape", "_law_low", "_law_high"] [] (spRefused K) := by
  obtain ⟨fd, F, h⟩ := fn_l_cover_refused (P := P) (w := w) (base := base) T
  exact DefOk.of F (gl_l_cover_refused T) (F.bindsN fun _ _ _ _ _ _ us hl => match us, hl with | [_, _, _], _ => rfl) h
end

section
variable {P : Program} {w : World} {K : PySem.W.Frag} {mg : Str → Option Value} {base : Heap}
theorem inV_int {i : Int} {ns : List Int} (h : i ∈ ns) : inV (.int i) (ns.map V.int) = true := by
  unfold inV
  rw [List.any_eq_true]
  exact ⟨.int i, List.mem_map.mpr ⟨i, h, rfl⟩, by simp [eqV]⟩
theorem ints_flat (ns : List Int) : (ns.map V.int).all flatV = true := by
  rw [List.all_map, List.all_eq_true]
  intro x _
  rfl
theorem spans_get {ws : List Int} {j : Nat} {y : V} (h : ((spansL ws).map V.int)[j]? = some y) : j < ws.length ∧ y = .int (sz ws j) := by
  rw [List.getElem?_map] at h
  obtain ⟨s, hs, rfl⟩ := Option.map_eq_some_iff.mp h
  have hj := (List.getElem?_eq_some_iff.mp hs).1
  rw [spans_len] at hj
  rw [spans_at hj] at hs
  exact ⟨hj, by rw [← Option.some.inj hs]; rfl⟩
theorem sz_mem {ws : List Int} {j : Nat} (h : j < ws.length) : sz ws j ∈ spansL ws := List.mem_of_getElem? (spans_at h)
/-! ### the law's own look at a cover -/
def spLIC (K : PySem.W.Frag) : Sp := fun vs H Q _ => ∃ (b f : Addr) (a e : Int) (m : Nat) (ys : List V) (ws : List Int), vs = [.ref b, .ref f, .int a, .int e] ∧ SqL K H b ys ∧ PairsAt K H ys (blocksN ws e a m) ∧ SqL K H f (ws.map V.int) ∧ FanOk ws ∧ 0 ≤ a ∧ e ≤ prodL ws ∧ EndsAt ws e a m ∧ RetV (.bl true) H Q
theorem sv_lic {H : Hp} {b f : Addr} {a e : Int} {m : Nat} {ys : List V} {ws : List Int} (hb : SqL K H b ys) (hp : PairsAt K H ys (blocksN ws e a m)) (hf : SqL K H f (ws.map V.int)) (ho : FanOk ws) (h0 : 0 ≤ a) (h1 : e ≤ prodL ws) (hE : EndsAt ws e a m) : SpV (spLIC K) [.ref b, .ref f, .int a, .int e] H (.bl true) := fun H1 e1 Q q E =>
  ⟨b, f, a, e, m, ys, ws, rfl, ex_l e1 hb, hp.ex e1, ex_l e1 hf, ho, h0, h1, hE, q⟩
theorem sc_l_is_cover : FnScope ["_law_told", "_law_fan_here", "_law_low", "_law_high", "_law_spans", "_law_at", "_law_block", "_law_size", "_law_span", "_law_outer"] ["_law_told", "_law_fan_here", "_law_low", "_law_high"] (defScope s_l_is_cover) := ⟨rfl, rfl, rfl, by decide +kernel, rfl, by decide +kernel, by decide +kernel⟩
theorem fn_l_is_cover (T : TX K mg) : ∃ fd, FunD K "_law_is_cover" "_law_is_cover" (defArgs s_l_is_cover) (defBody s_l_is_cover) (defScope s_l_is_cover) [] [] (He.ga K "_law_is_cover") fd ∧ FnOk P w K mg base CX0 (2) (He.ga K "_law_is_cover") fd ["_law_told", "_law_fan_here", "_law_low", "_law_high"] (spLIC K) := by
  obtain ⟨fd, F⟩ := fd_l_is_cover T
  refine ⟨fd, F, My.FunD.ok0 F sc_l_is_cover (fun vs H Q E h => ?_) (fun cdv A outer s0 H vs Q E hr h => ?_)⟩
  · obtain ⟨b, f, a, e, m, ys, ws, rfl, hb, hp, hf, ho, h0, h1, hE, hQ⟩ := h
    rfl
  obtain ⟨b, f, a, e, m, ys, ws, rfl, hb, hp, hf, ho, h0, h1, hE, hQ⟩ := h
  have hu := hu_of hr
  refine ⟨_, (pss_cons (ps_set (i := 4) sc_l_is_cover.nd rfl (Or.inl rfl) (pe_callN (ok_l_fan_spans (P := P) (w := w) (base := base) T) hr (pa_cons (pv 1) pa_nil)))
      (pss_cons (ps_if (pt_not (pt_val (pe_callB (isiK K) (by rfl) (fr_isinstance T) (by decide +kernel) (pa_cons (pv 0) (pa_cons (pe_bltn (v := .ty "list") (by rfl) (fr_list T) (by decide +kernel) rfl) pa_nil))))) (pss_one (ps_ret pe_bl)) pss_nil)
      (pss_cons (ps_set (i := 5) sc_l_is_cover.nd rfl (Or.inl rfl) (pv 2))
      (pss_cut (ps_for PassesOwn.never rfl (pi_list (pv 0)) (pg_name (i := 6) sc_l_is_cover.nd rfl (Or.inl rfl)) (pss_cons (ps_if (PW.pt (pw_or (pt_not (pt_val (pe_callB (isiK K) (by rfl) (fr_isinstance T) (by decide +kernel) (pa_cons (pv 6) (pa_cons (pe_bltn (v := .ty "tuple") (by rfl) (fr_tuple T) (by decide +kernel) rfl) pa_nil))))) (pw_or1 (pt_cmpR op_ne (pe_callB (lenQ K) (by rfl) (fr_len T) PySem.boot_len (pa_cons (pv 6) pa_nil)) pe_int (nomark _))))) (pss_one (ps_ret pe_bl)) pss_nil)
      (pss_cons (ps_if (PW.pt (pw_or (pt_not (pt_val (pe_callN (ok_l_is_whole (P := P) (w := w) (base := base) T) hr (pa_cons (pe_ix (ixT K) (pv 6) pe_int (fun _ _ => rfl)) pa_nil)))) (pw_or (pt_not (pt_val (pe_callN (ok_l_is_whole (P := P) (w := w) (base := base) T) hr (pa_cons (pe_ix (ixT K) (pv 6) pe_int (fun _ _ => rfl)) pa_nil)))) (pw_or (pt_cmpR op_ne (pe_ix (ixT K) (pv 6) pe_int (fun _ _ => rfl)) (pv 5) (nomark _)) (pw_or1 (pt_cmpR op_gt (pe_ix (ixT K) (pv 6) pe_int (fun _ _ => rfl)) (pv 3) (nomark _))))))) (pss_one (ps_ret pe_bl)) pss_nil)
      (pss_cons (ps_set (i := 7) sc_l_is_cover.nd rfl (Or.inl rfl) (pe_op op_sub (pe_ix (ixT K) (pv 6) pe_int (fun _ _ => rfl)) (pe_ix (ixT K) (pv 6) pe_int (fun _ _ => rfl))))
      (pss_cons (ps_if (PW.pt (pw_or (pt_cmpR (niQ K) (pv 7) (pv 4) rfl) (pw_or1 (pt_cmpR op_ne (pe_op op_mod (pe_callTy call_int1 (by rfl) (fr_int T) (by decide +kernel) (pa_cons (pv 5) pa_nil)) (pv 7)) pe_int (nomark _))))) (pss_one (ps_ret pe_bl)) pss_nil)
      (pss_cut (ps_for PassesOwn.never rfl (pi_list (pv 4)) (pg_name (i := 8) sc_l_is_cover.nd rfl (Or.inl rfl)) (pss_cons (ps_set (i := 9) sc_l_is_cover.nd rfl (Or.inl rfl) (pe_op op_mul (pe_op op_fdiv (pv 5) (pv 8)) (pv 8)))
      (pss_one (ps_if (PW.pt (pw_and (pt_cmpR op_gt (pv 8) (pv 7) (nomark _)) (pw_and (pt_cmpR op_le (pv 2) (pv 9) (nomark _)) (pw_and1 (pt_cmpR op_le (pe_op op_add (pv 9) (pv 8)) (pv 3) (nomark _)))))) (pss_one (ps_ret pe_bl)) pss_nil))))
      (pss_one (ps_set (i := 5) sc_l_is_cover.nd rfl (Or.inl rfl) (pe_ix (ixT K) (pv 6) pe_int (fun _ _ => rfl))))))))))
      (pss_one (ps_ret (pe_cmpR op_eq (pv 5) (pv 3) (nomark _)))))))), ?_⟩
  have hyl := hp.len
  rw [blocks_len] at hyl
  refine q_asgL (el_call (ea_cons (ev_var rfl) ea_nil) (sl_spans hf ho)) fun s H1 hs e1 hs1 => ?_
  refine q_whenF (et_is (et_not (et_B (ev_isiD (c := "list") (ev_var rfl) (Dp.lst (ex_l e1 hb) (hp.ex e1).dp) (by rfl)))) (by simp [tyN, isB_tab])) fun H2 e2 => ?_
  refine q_asg (ev_var rfl) fun H3 e3 => ?_
  have E3 := e2.trans e3
  refine q_forL' (xs := ys) (ev_var rfl) (ex_l (e1.trans E3) hb)
    (fun i σ' H' => Ex H1 H' ∧ ∃ o6 o7 o8 o9, σ' = [some (.ref b), some (.ref f), some (.int a), some (.int e), some (.ref s), some (.int (pos ws e a i)), o6, o7, o8, o9])
    (fun σ' H' => Ex H1 H' ∧ ∃ o6 o7 o8 o9, σ' = [some (.ref b), some (.ref f), some (.int a), some (.int e), some (.ref s), some (.int e), o6, o7, o8, o9]) ?_ ?_ ?_ ?_ ?_
  · exact fun H4 e4 => ⟨E3.trans e4, _, _, _, _, rfl⟩
  · exact fun i σ' H' _ ⟨E, _⟩ => ex_l (e1.trans E) hb
  · rintro i y σ' H' hy ⟨E, o6, o7, o8, o9, rfl⟩
    obtain ⟨hi, t, rfl, ht⟩ := (hp.ex (e1.trans E)).at_ hy
    rw [blocks_at hi] at ht
    rw [blocks_len] at hi
    have hbe := hE.before i hi
    have hup := pos_up ho e a i
    have htop := pos_top ho hbe
    have hlow := pos_low ho e a i
    obtain ⟨b1, b2, b3⟩ := best_spec ho hbe
    have epos : pos ws e a (i + 1) = pos ws e a i + sz ws (bestK ws (pos ws e a i) e) := rfl
    have hsz := sz_pos ho.pos (bestK ws (pos ws e a i) e)
    have hd := dp_of2 ht
    refine q_whenF (et_is (et_or (et_not (et_B (ev_isiD (c := "tuple") (ev_var rfl) hd (by rfl)))) fun _ => et_test (ev_op (ev_cb (ea_cons (ev_var rfl) ea_nil) (rc_lenT ht)) ev_c (rv_ne rfl))) (by simp [tyN, isB_tab])) fun H4 e4 => ?_
    have hd4 := dp_ex e4 hd
    refine q_whenF (et_is (et_or (et_not (et_B (ev_call (ea_cons (evd_ixT (evd_var rfl hd4) ev_c rfl).toI ea_nil) (sv_whole (.int _))))) fun _ => et_or (et_not (et_B (ev_call (ea_cons (evd_ixT (evd_var rfl hd4) ev_c rfl).toI ea_nil) (sv_whole (.int _))))) fun _ =>
      et_or (et_test (ev_op (evd_ixT (evd_var rfl hd4) ev_c rfl).toI (ev_var rfl) (rv_ne rfl))) fun _ => et_test (ev_op (evd_ixT (evd_var rfl hd4) ev_c rfl).toI (ev_var rfl) rv_I0)) (by simp [isInt, tyN, isB_tab]; omega)) fun H5 e5 => ?_
    have E5 := (E.trans e4).trans e5
    have hd5 := dp_ex e5 hd4
    refine q_asg (v := .int (sz ws (bestK ws (pos ws e a i) e))) (ev_is (ev_op (evd_ixT (evd_var rfl hd5) ev_c rfl).toI (evd_ixT (evd_var rfl hd5) ev_c rfl).toI rv_I0) (by rw [epos]; congr 1; omega)) fun H6 e6 => ?_
    have E6 := E5.trans e6
    refine q_whenF (et_is (et_or (et_test (ev_op (ev_var rfl) (ev_var rfl) (rv_niL (sq_of (E6 _ _ hs1)) rfl (ints_flat _)))) fun _ => et_test (ev_op (ev_op (ev_cb (ea_cons (ev_var rfl) ea_nil) rc_int) (ev_var rfl) (rv_I hsz)) ev_c (rv_ne rfl))) (by simp [inV_int (sz_mem b1), Int.emod_eq_zero_of_dvd b2.1])) fun H7 e7 => ?_
    have E7 := E6.trans e7
    refine q_forL' (xs := (spansL ws).map V.int) (ev_var rfl) (sq_of (E7 _ _ hs1))
      (fun j σ' H' => Ex H1 H' ∧ ∃ o8 o9, σ' = [some (.ref b), some (.ref f), some (.int a), some (.int e), some (.ref s), some (.int (pos ws e a i)), some (.ref t), some (.int (sz ws (bestK ws (pos ws e a i) e))), o8, o9])
      (fun σ' H' => Ex H1 H' ∧ ∃ o8 o9, σ' = [some (.ref b), some (.ref f), some (.int a), some (.int e), some (.ref s), some (.int (pos ws e a i)), some (.ref t), some (.int (sz ws (bestK ws (pos ws e a i) e))), o8, o9]) ?_ ?_ ?_ ?_ ?_
    · exact fun H8 e8 => ⟨E7.trans e8, _, _, rfl⟩
    · exact fun j σ' H' _ ⟨E8, _⟩ => sq_of (E8 _ _ hs1)
    · rintro j y σ' H' hy ⟨E8, o8, o9, rfl⟩
      obtain ⟨hj, rfl⟩ := spans_get hy
      have hp := sz_pos ho.pos j
      have htt := drop_le ho (j + 1)
      refine q_asg (ev_op (ev_op (ev_var rfl) (ev_var rfl) (rv_I (by unfold CDiv; show 0 < prodL _ ∧ prodL _ < _; omega))) (ev_var rfl) (rv_I (by unfold CMul; right; show _ < prodL _ ∧ prodL _ < _; omega))) fun H9 e9 => ?_
      refine s_whenF (et_is (et_and (et_test (ev_op (ev_var rfl) (ev_var rfl) rv_I0)) fun _ => et_and (et_test (ev_op (ev_var rfl) (ev_var rfl) rv_I0)) fun _ => et_test (ev_op (ev_op (ev_var rfl) (ev_var rfl) rv_I0) (ev_var rfl) rv_I0)) ?_) fun H10 e10 => ⟨(E8.trans e9).trans e10, _, _, rfl⟩
      rw [Bool.eq_false_iff]
      intro z
      obtain ⟨z1, z2⟩ := Bool.and_eq_true_iff.mp z
      obtain ⟨z2, z3⟩ := Bool.and_eq_true_iff.mp z2
      exact no_outer ho (fun l hl => hE.before l (by omega)) hj (of_decide_eq_true z1) (by omega) (of_decide_eq_true z2) (of_decide_eq_true z3)
    · exact fun σ' H' h => h
    · rintro σ' H' ⟨E8, o8, o9, rfl⟩
      exact s_asg (evd_ixT (evd_var rfl (dp_of2 (ex_t ((e4.trans e5).trans (e6.trans e7)) ht) |> fun z => dp_of2 (ex_t E8 ((hp.ex e1).at_ hy |> fun ⟨_, t', h1, h2⟩ => by
        obtain rfl : t = t' := by injection h1
        rw [blocks_at (by rw [blocks_len]; exact hi)] at h2
        exact h2)))) ev_c rfl).toI fun H9 e9 => ⟨E8.trans e9, _, _, _, _, rfl⟩
  · rintro σ' H' ⟨E, o6, o7, o8, o9, rfl⟩
    rw [hyl, hE.at_]
    exact ⟨E, _, _, _, _, rfl⟩
  · rintro σ' H' ⟨E, o6, o7, o8, o9, rfl⟩
    exact s_ret (ev_is (ev_op (ev_var rfl) (ev_var rfl) (rv_eq rfl)) (by simp)) fun H4 e4 => hQ H4 ((e1.trans E).trans e4)
theorem ok_l_is_cover (T : TX K mg) : DefOk P w K mg base (2) "_law_is_cover" ["_law_told", "_law_fan_here", "_law_low", "_law_high"] [] (spLIC K) := by
  obtain ⟨fd, F, h⟩ := fn_l_is_cover (P := P) (w := w) (base := base) T
  exact DefOk.of F (gl_l_is_cover T) (F.bindsN fun _ _ _ _ _ _ us hl => match us, hl with | [_, _, _, _], _ => rfl) h
end

section
variable {P : Program} {w : World} {K : PySem.W.Frag} {mg : Str → Option Value} {base : Heap}
theorem rc_minL {H : Hp} {p : Addr} {ns : List Int} {m : Int} (h : SqL K H p (ns.map V.int)) (hm : m ∈ ns) (hle : ∀ y ∈ ns, m ≤ y) : RC (rMin K) [.ref p] H (.int m) := fun H1 e Q q =>
  ⟨p, ns, rfl, ex_l e h, List.length_pos_of_mem hm, fun m' h1 h2 => by
    have : m' = m := Int.le_antisymm (h2 m hm) (hle m' h1)
    rw [this]
    exact q H1 (Ex.refl H1)⟩
theorem min_ex : ∀ {ns : List Int}, ns ≠ [] → ∃ m ∈ ns, ∀ y ∈ ns, m ≤ y
  | [], h => absurd rfl h
  | [x], _ => ⟨x, by simp, by simp⟩
  | x :: y :: r, _ => by
    obtain ⟨m, h1, h2⟩ := min_ex (ns := y :: r) (by simp)
    rcases Int.le_total x m with h | h
    · refine ⟨x, by simp, fun z hz => ?_⟩
      rcases List.mem_cons.mp hz with rfl | hz
      · exact Int.le_refl _
      · exact Int.le_trans h (h2 z hz)
    · refine ⟨m, List.mem_cons_of_mem _ h1, fun z hz => ?_⟩
      rcases List.mem_cons.mp hz with rfl | hz
      · exact h
      · exact h2 z hz
theorem ints_getD {nd : List Int} {k : Nat} (h : k < nd.length) : atI (nd.map V.int) (k : Int) = some (.int (nd.getD k 0)) := by
  rw [ints_at h]
  simp [List.getD, h]
theorem ints_last {nd : List Int} (h : 0 < nd.length) : atI (nd.map V.int) (-1) = some (.int (nd.getD (nd.length - 1) 0)) := by
  show (ixN _ (-1 : Int)).bind _ = _
  have : ixN (nd.map V.int).length (-1 : Int) = some (nd.length - 1) := by
    unfold ixN
    rw [if_neg (by decide), List.length_map, if_pos (by omega)]
    congr 1
    omega
  rw [this]
  show (nd.map V.int)[nd.length - 1]? = _
  have hn : nd.length - 1 < nd.length := by omega
  rw [List.getElem?_map, List.getElem?_eq_getElem hn]
  simp [List.getD, List.getElem?_eq_getElem hn]
theorem getD_app {nd : List Int} {v : Int} {j : Nat} (h : j < nd.length) : (nd ++ [v]).getD j 0 = nd.getD j 0 := by simp [List.getD, List.getElem?_append, h]
theorem getD_new {nd : List Int} {v : Int} : (nd ++ [v]).getD nd.length 0 = v := by simp [List.getD]
theorem Need.more {ws : List Int} {a : Int} {nd : List Int} (hpos : Pos1 ws) (N : Need ws a nd) (h0 : 0 < nd.length) {v : Int} (h1 : ∃ k, k < ws.length ∧ sz ws k ∣ a + nd.length ∧ sz ws k ≤ nd.length ∧ v = 1 + nd.getD (nd.length - (sz ws k).toNat) 0)
    (h2 : ∀ k, k < ws.length → sz ws k ∣ a + nd.length → sz ws k ≤ nd.length → v ≤ 1 + nd.getD (nd.length - (sz ws k).toNat) 0) : Need ws a (nd ++ [v]) := by
  refine ⟨by rw [getD_app h0]; exact N.zero, fun j j0 j1 => ?_, fun j j0 j1 k hk hd hs => ?_⟩
  · rw [List.length_append] at j1
    rcases Nat.lt_or_ge j nd.length with h | h
    · obtain ⟨k, hk, hd, hs, he⟩ := N.some_ j j0 h
      exact ⟨k, hk, hd, hs, by rw [getD_app h, getD_app (by omega)]; exact he⟩
    · obtain rfl : j = nd.length := by simp at j1; omega
      obtain ⟨k, hk, hd, hs, he⟩ := h1
      have := sz_pos hpos k
      exact ⟨k, hk, hd, hs, by rw [getD_new, getD_app (by omega)]; exact he⟩
  · rw [List.length_append] at j1
    have := sz_pos hpos k
    rcases Nat.lt_or_ge j nd.length with h | h
    · rw [getD_app h, getD_app (by omega)]
      exact N.all j j0 h k hk hd hs
    · obtain rfl : j = nd.length := by simp at j1; omega
      rw [getD_new, getD_app (by omega)]
      exact h2 k hk hd hs
theorem need_one (ws : List Int) (a : Int) : Need ws a [0] := ⟨rfl, fun j h0 h1 => by simp at h1; omega, fun j h0 h1 => by simp at h1; omega⟩
/-- the ways to the next place -/
def wayF (ws : List Int) (a : Int) (n : Nat) (j : Nat) : Bool := decide (V.int ((a + n) % sz ws j) = V.int 0) && decide (a + n - sz ws j ≥ a)
def wayV (ws : List Int) (nd : List Int) (j : Nat) : Int := nd.getD (nd.length - (sz ws j).toNat) 0
def waysN (ws : List Int) (a : Int) (nd : List Int) : List Int := ((List.range ws.length).filter (wayF ws a nd.length)).map (wayV ws nd)
theorem ways_given (ws : List Int) (a : Int) (nd : List Int) : given ws.length (wayF ws a nd.length) (fun j => .int (wayV ws nd j)) = (waysN ws a nd).map V.int := by
  unfold given waysN
  rw [List.map_map]
  rfl
theorem way_iff {ws : List Int} {a : Int} {n j : Nat} : wayF ws a n j = true ↔ sz ws j ∣ a + n ∧ sz ws j ≤ n := by
  unfold wayF
  rw [Bool.and_eq_true, decide_eq_true_eq, decide_eq_true_eq, Int.dvd_iff_emod_eq_zero]
  constructor
  · rintro ⟨h1, h2⟩
    injection h1 with h1
    exact ⟨h1, by omega⟩
  · rintro ⟨h1, h2⟩
    exact ⟨by rw [h1], by omega⟩
theorem ways_mem {ws : List Int} {a : Int} {nd : List Int} {v : Int} : v ∈ waysN ws a nd ↔ ∃ j, j < ws.length ∧ (sz ws j ∣ a + nd.length ∧ sz ws j ≤ nd.length) ∧ wayV ws nd j = v := by
  unfold waysN
  simp only [List.mem_map, List.mem_filter, List.mem_range, way_iff]
  constructor
  · rintro ⟨j, ⟨h1, h2⟩, h3⟩
    exact ⟨j, h1, h2, h3⟩
  · rintro ⟨j, h1, h2, h3⟩
    exact ⟨j, ⟨h1, h2⟩, h3⟩
def spLeast (K : PySem.W.Frag) : Sp := fun vs H Q _ => ∃ (f : Addr) (a e : Int) (m : Nat) (ws : List Int), vs = [.ref f, .int a, .int e] ∧ SqL K H f (ws.map V.int) ∧ FanOk ws ∧ 0 ≤ a ∧ a < e ∧ e ≤ 5000 ∧ EndsAt ws e a m ∧ RetV (.int (m : Int)) H Q
theorem sv_least {H : Hp} {f : Addr} {a e : Int} {m : Nat} {ws : List Int} (hf : SqL K H f (ws.map V.int)) (ho : FanOk ws) (h0 : 0 ≤ a) (h1 : a < e) (h2 : e ≤ 5000) (hE : EndsAt ws e a m) : SpV (spLeast K) [.ref f, .int a, .int e] H (.int (m : Int)) := fun H1 e1 Q q E => ⟨f, a, e, m, ws, rfl, ex_l e1 hf, ho, h0, h1, h2, hE, q⟩
theorem sc_l_least_count : FnScope ["_law_fan_here", "_law_low", "_law_high", "_law_spans", "_law_need", "_law_end", "_law_ways", "_law_span"] ["_law_fan_here", "_law_low", "_law_high"] (defScope s_l_least_count) := ⟨rfl, rfl, rfl, by decide +kernel, rfl, by decide +kernel, by decide +kernel⟩
theorem fn_l_least_count (T : TX K mg) : ∃ fd, FunD K "_law_least_count" "_law_least_count" (defArgs s_l_least_count) (defBody s_l_least_count) (defScope s_l_least_count) [] [] (He.ga K "_law_least_count") fd ∧ FnOk P w K mg base CX0 (2) (He.ga K "_law_least_count") fd ["_law_fan_here", "_law_low", "_law_high"] (spLeast K) := by
  obtain ⟨fd, F⟩ := fd_l_least_count T
  refine ⟨fd, F, My.FunD.ok0 F sc_l_least_count (fun vs H Q E h => ?_) (fun cdv A outer s0 H vs Q E hr h => ?_)⟩
  · obtain ⟨f, a, e, m, ws, rfl, hf, ho, h0, h1, h2, hE, hQ⟩ := h
    rfl
  obtain ⟨f, a, e, m, ws, rfl, hf, ho, h0, h1, h2, hE, hQ⟩ := h
  have hu := hu_of hr
  refine ⟨_, (pss_cons (ps_set (i := 3) sc_l_least_count.nd rfl (Or.inl rfl) (pe_callN (ok_l_fan_spans (P := P) (w := w) (base := base) T) hr (pa_cons (pv 0) pa_nil)))
      (pss_cons (ps_set (i := 4) sc_l_least_count.nd rfl (Or.inr rfl) (pe_lst (pa_cons pe_int pa_nil)))
      (pss_cut (ps_for PassesOwn.never rfl (pi_range2 rfl (fr_range T) (pa_cons (pe_op op_add (pv 1) pe_int) (pa_cons (pe_op op_add (pv 2) pe_int) pa_nil))) (pg_name (i := 5) sc_l_least_count.nd rfl (Or.inr rfl)) (pss_cons (ps_setLc (i := 6) (own := [("_law_span", 7)]) rfl sc_l_least_count.nd rfl rfl (sw_true rfl rfl rfl (by decide +kernel)) (pi_list (pv 3)) (blkOk_by (own := [("_law_span", 7)]) (N := ["_law_fan_here", "_law_low", "_law_high", "_law_spans", "_law_need", "_law_end", "_law_ways", "_law_span"]) (sc := defScope s_l_least_count) (by decide +kernel)) (fun _ _ _ _ _ => (pg_name (i := 7) sc_l_least_count.nd rfl (Or.inl rfl))) (fun _ _ _ _ _ => (pts_one (PW.pt (pw_and (pt_cmpR op_eq (pe_op op_mod (pe_callTy call_int1 (by rfl) (fr_int T) (by decide +kernel) (pa_cons (pv 5) pa_nil)) (pv 7)) pe_int (nomark _)) (pw_and1 (pt_cmpR op_ge (pe_op op_sub (pv 5) (pv 7)) (pv 1) (nomark _))))))) (fun _ _ _ _ _ => (pe_ix (ixL K) (pv 4) (pe_op op_sub (pe_op op_sub (pv 5) (pv 7)) (pv 1)) (fun _ _ => rfl))))
      (pss_one (ps_expr (pe_bm PySem.F.plainAttrs_list PySem.F.slot_list_append PySem.F.type_list_append mt_append (pv 4) (pa_cons (pe_op op_add pe_int (pe_callB (minK K rfl) (by rfl) (fr_min T) (by decide +kernel) (pa_cons (pv 6) pa_nil))) pa_nil))))))
      (pss_one (ps_ret (pe_ix (ixL K) (pv 4) (pe_un un_neg pe_int) (fun _ _ => rfl))))))), ?_⟩
  have hlen := ho.len
  refine q_asgL (el_call (ea_cons (ev_var rfl) ea_nil) (sl_spans hf ho)) fun s H1 hs e1 hs1 => ?_
  refine q_asgL (el_lst (ea_cons ev_c ea_nil) (by simp)) fun p H2 hp e2 hp2 => ?_
  have hp0 := fresh_back e1 hp
  have nps : p ≠ s := fun z => by
    rw [z, hs1] at hp
    cases hp
  refine q_forR2' (lo := a + 1) (n := e + 1) (ea_cons (ev_op (ev_var rfl) ev_c rv_I0) (ea_cons (ev_op (ev_var rfl) ev_c rv_I0) ea_nil)) (by omega)
    (fun i σ' H' => Ex H H' ∧ H' s = some (.lst ((spansL ws).map V.int)) ∧ ∃ (nd : List Int) (o5 o6 o7 : Option V), nd.length = i + 1 ∧ Need ws a nd ∧ H' p = some (.lst (nd.map V.int)) ∧ σ' = [some (.ref f), some (.int a), some (.int e), some (.ref s), some (.ref p), o5, o6, o7])
    (fun σ' H' => Ex H H' ∧ ∃ (nd : List Int) (o5 o6 o7 : Option V), nd.length = (e - a).toNat + 1 ∧ Need ws a nd ∧ H' p = some (.lst (nd.map V.int)) ∧ σ' = [some (.ref f), some (.int a), some (.int e), some (.ref s), some (.ref p), o5, o6, o7]) ?_ ?_ ?_ ?_
  · exact fun H3 e3 => ⟨(e1.trans e2).trans e3, (e2.trans e3) _ _ hs1, [0], _, _, _, rfl, need_one ws a, e3 _ _ hp2, rfl⟩
  · rintro i σ' H' hi ⟨E, hsH, nd, o5, o6, o7, hl, N, hpH, rfl⟩
    have hE1 : a + 1 + (i : Int) = a + (nd.length : Int) := by omega
    have hx : ∀ j, j < ws.length → 0 < sz ws j := fun j _ => sz_pos ho.pos j
    rw [hE1]
    refine q_asgL (xs := (waysN ws a nd).map V.int) (ways_given ws a nd ▸ (spans_len ws ▸ List.length_map (as := spansL ws) V.int ▸ el_lcL (xs := (spansL ws).map V.int) (wayF ws a nd.length) (fun j => .int (wayV ws nd j)) (ev_var rfl) (sq_of hsH) (by rw [List.length_map, spans_len]; omega) (fun _ => rfl) (fun j y H3 e3 hy => ?_) (fun j y H3 e3 hy hj => ?_))) fun q H3 hq e3 hq3 => ?_
    · obtain ⟨hj, rfl⟩ := spans_get hy
      exact et_and (et_test (ev_op (ev_op (ev_cb (ea_cons (ev_var rfl) ea_nil) rc_int) (ev_var rfl) (rv_I (hx j hj))) ev_c (rv_eq rfl))) fun _ => et_test (ev_op (ev_op (ev_var rfl) (ev_var rfl) rv_I0) (ev_var rfl) rv_I0)
    · obtain ⟨hj', rfl⟩ := spans_get hy
      obtain ⟨d1, d2⟩ := way_iff.mp hj
      have hp := hx j hj'
      refine ev_op (ev_var rfl) (ev_is (ev_op (ev_op (ev_var rfl) (ev_var rfl) rv_I0) (ev_var rfl) rv_I0) (show _ = V.int ((nd.length - (sz ws j).toNat : Nat) : Int) by congr 1; omega)) (rv_ixL (sq_of (e3 _ _ hpH)) (ints_getD (by omega)))
    · obtain ⟨mn, hm1, hm2⟩ := min_ex (ns := waysN ws a nd) (by
        intro z
        have : nd.getD (nd.length - (sz ws (ws.length - 1)).toNat) 0 ∈ waysN ws a nd := ways_mem.mpr ⟨ws.length - 1, by omega, by rw [sz_last hlen.1]; exact ⟨Int.one_dvd _, by omega⟩, rfl⟩
        rw [z] at this
        cases this)
      refine s_app (e3 _ _ hpH) (ev_var rfl) (ev_op ev_c (ev_cb (ea_cons (ev_var rfl) ea_nil) (rc_minL (sq_of hq3) hm1 hm2)) rv_I0) (by rw [List.length_map]; omega) fun H4 e4 => ?_
      refine ⟨((E.trans e3).trans e4).mut hp0, ?_, nd ++ [1 + mn], _, _, _, by simp [hl], ?_, ?_, rfl⟩
      · rw [upd_ne nps.symm]
        exact (e3.trans e4) _ _ hsH
      · obtain ⟨j, hj, ⟨d1, d2⟩, rfl⟩ := ways_mem.mp hm1
        refine N.more ho.pos (by omega) ⟨j, hj, d1, d2, rfl⟩ fun k hk k1 k2 => ?_
        have := hm2 _ (ways_mem.mpr ⟨k, hk, ⟨k1, k2⟩, rfl⟩)
        show 1 + _ ≤ 1 + wayV ws nd k
        omega
      · rw [upd_same, List.map_append]
        rfl
  · rintro σ' H' ⟨E, _, nd, o5, o6, o7, hl, N, hpH, rfl⟩
    exact ⟨E, nd, o5, o6, o7, by omega, N, hpH, rfl⟩
  · rintro σ' H' ⟨E, nd, o5, o6, o7, hl, N, hpH, rfl⟩
    have hn := need_is ho N hE hl h1
    refine s_ret (v := .int (m : Int)) (ev_op (ev_var rfl) (ev_un ev_c ru_neg) (rv_ixL (sq_of hpH) (by rw [← hn, ints_last (by omega), hl]; rfl))) fun H4 e4 => hQ H4 (E.trans e4)
theorem ok_l_least_count (T : TX K mg) : DefOk P w K mg base (2) "_law_least_count" ["_law_fan_here", "_law_low", "_law_high"] [] (spLeast K) := by
  obtain ⟨fd, F, h⟩ := fn_l_least_count (P := P) (w := w) (base := base) T
  exact DefOk.of F (gl_l_least_count T) (F.bindsN fun _ _ _ _ _ _ us hl => match us, hl with | [_, _, _], _ => rfl) h
end

section
variable {P : Program} {w : World} {K : PySem.W.Frag} {mg : Str → Option Value} {base : Heap}
theorem qu_setL {te ta tb : TE} {σ : L2.St} {H : Hp} {D : L2.Ends} {tz : TS} {l : Addr} {xs zs : List V} {j : Nat} (hl : H l = some (.lst xs)) (h : EvU te σ H zs) (ho : Ev ta σ H (.ref l)) (hi : Ev tb σ H (.int (j : Int))) (hj : j < xs.length)
    (k : ∀ p H1, Ex H H1 → H1 p = some (.tup zs) → tz D σ (upd H1 l (.lst (xs.set j (.ref p))))) : tSeq (tAsg te (gSub ta tb rSetL)) tz D σ H := h H (Ex.refl H) _ fun p H1 np e1 h1 => ho H1 e1 _ fun H2 e2 => hi H2 (e1.trans e2) _ fun H3 e3 =>
  ⟨l, xs, (j : Int), j, rfl, rfl, ((e1.trans e2).trans e3) l _ hl, ixN_nat hj, k p H3 ((e1.trans e2).trans e3) ((e2.trans e3) _ _ h1)⟩
theorem evp_Ln {te : TE} {σ : L2.St} {H : Hp} {xs : List V} {P : V → Hp → Prop} (h : EvL te σ H xs) (p : ∀ l H1, H1 l = some (.lst xs) → P (.ref l) H1) : EvP te σ H P := fun H1 e Q q => h H1 e _ fun l H2 _ e2 h2 => q _ H2 e2 (p l H2 h2)
theorem evd_cover {ES : L2.St → XK} {t : TA} {σ : L2.St} {H : Hp} {x : Addr} {a e : Int} {m : Nat} {ws : List Int} (ht : EvA t σ H [.ref x, .int a, .int e]) (hS : IsShape K H x ws) (ho : FanOk ws) (s1 : small a) (s2 : small e) (hg : goodRange a e (prodL ws)) (hE : EndsAt ws e a m) :
    EvD K (tCallS (spCover K) ES t) σ H (.list ((blocksN ws e a m).map pr2)) := fun H1 e1 Q q => cs_ask (ht.mono e1) fun H2 e2 => ⟨x, a, e, ws, rfl, hS.ex (e1.trans e2), ho, s1, s2, fun _ p ys m' H3 _ e3 h3 hps hE' => by
    obtain rfl := hE.unique ho hE'
    exact q _ H3 (e2.trans e3) (.lst (sq_of h3) hps.dp), fun z => absurd hg z⟩
def spCG (K : PySem.W.Frag) : Sp := fun vs H Q _ => ∃ (x f : Addr) (a e : Int) (ws : List Int), vs = [.ref x, .ref f, .int a, .int e] ∧ IsShape K H x ws ∧ SqL K H f (ws.map V.int) ∧ FanOk ws ∧ -10000 ≤ a ∧ a ≤ 10000 ∧ -10000 ≤ e ∧ e ≤ 10000 ∧ RetV (.bl true) H Q
theorem sv_cg {H : Hp} {x f : Addr} {a e : Int} {ws : List Int} (h : IsShape K H x ws) (hf : SqL K H f (ws.map V.int)) (ho : FanOk ws) (a0 : -10000 ≤ a) (a1 : a ≤ 10000) (b0 : -10000 ≤ e) (b1 : e ≤ 10000) : SpV (spCG K) [.ref x, .ref f, .int a, .int e] H (.bl true) := fun H1 e1 Q q E =>
  ⟨x, f, a, e, ws, rfl, h.ex e1, ex_l e1 hf, ho, a0, a1, b0, b1, q⟩
theorem sc_l_cover_good : FnScope ["_law_shape", "_law_fan_here", "_law_low", "_law_high", "_law_spans", "_law_told", "_law_kept"] ["_law_shape", "_law_fan_here", "_law_low", "_law_high"] (defScope s_l_cover_good) := ⟨rfl, rfl, rfl, by decide +kernel, rfl, by decide +kernel, by decide +kernel⟩
theorem fn_l_cover_good (T : TX K mg) : ∃ fd, FunD K "_law_cover_good" "_law_cover_good" (defArgs s_l_cover_good) (defBody s_l_cover_good) (defScope s_l_cover_good) [] [] (He.ga K "_law_cover_good") fd ∧ FnOk P w K mg base CX0 (9) (He.ga K "_law_cover_good") fd ["_law_shape", "_law_fan_here", "_law_low", "_law_high"] (spCG K) := by
  obtain ⟨fd, F⟩ := fd_l_cover_good T
  refine ⟨fd, F, My.FunD.ok0 F sc_l_cover_good (fun vs H Q E h => ?_) (fun cdv A outer s0 H vs Q E hr h => ?_)⟩
  · obtain ⟨x, f, a, e, ws, rfl, hS, hf, ho, a0, a1, b0, b1, hQ⟩ := h
    rfl
  obtain ⟨x, f, a, e, ws, rfl, hS, hf, ho, a0, a1, b0, b1, hQ⟩ := h
  have hu := hu_of hr
  refine ⟨_, (pss_cons (ps_set (i := 4) sc_l_cover_good.nd rfl (Or.inl rfl) (pe_callN (ok_l_fan_spans (P := P) (w := w) (base := base) T) hr (pa_cons (pv 1) pa_nil)))
      (pss_cons (ps_if (PW.pt (pw_or (pt_cmpR op_lt (pv 2) pe_int (nomark _)) (pw_or (pt_cmpR op_ge (pv 2) (pv 3) (nomark _)) (pw_or1 (pt_cmpR op_gt (pv 3) (pe_op op_mul (pe_ix (ixL K) (pv 4) pe_int (fun _ _ => rfl)) (pe_ix (ixL K) (pv 1) pe_int (fun _ _ => rfl))) (nomark _)))))) (pss_one (ps_ret (pe_callN (ok_l_same (P := P) (w := w) T (base := base) 2) hr (pa_cons (pe_callN (ok_l_cover_refused (P := P) (w := w) (base := base) T) hr (pa_cons (pv 0) (pa_cons (pv 2) (pa_cons (pv 3) pa_nil)))) (pa_cons (pe_tup (pa_cons (pv 2) (pa_cons (pv 3) pa_nil))) pa_nil)) (hk := by decide)))) pss_nil)
      (pss_cons (ps_set (i := 5) sc_l_cover_good.nd rfl (Or.inl rfl) (pe_callNX (ok_cover (P := P) (w := w) (base := base) T) hr takes0 (pa_cons (pv 0) (pa_cons (pv 2) (pa_cons (pv 3) pa_nil)))))
      (pss_cons (ps_if (pt_not (pt_val (pe_callN (ok_l_is_cover (P := P) (w := w) (base := base) T) hr (pa_cons (pv 5) (pa_cons (pv 1) (pa_cons (pv 2) (pa_cons (pv 3) pa_nil))))))) (pss_one (ps_ret pe_bl)) pss_nil)
      (pss_cons (ps_if (PW.pt (pw_and (pt_cmpR op_le (pe_op op_sub (pv 3) (pv 2)) pe_int (nomark _)) (pw_and1 (pt_cmpR op_ne (pe_callB (lenQ K) (by rfl) (fr_len T) PySem.boot_len (pa_cons (pv 5) pa_nil)) (pe_callN (ok_l_least_count (P := P) (w := w) (base := base) T) hr (pa_cons (pv 1) (pa_cons (pv 2) (pa_cons (pv 3) pa_nil)))) (nomark _))))) (pss_one (ps_ret pe_bl)) pss_nil)
      (pss_cons (ps_set (i := 6) sc_l_cover_good.nd rfl (Or.inl rfl) (pe_callTy (listQ K) (by rfl) (fr_list T) (by decide +kernel) (pa_cons (pv 5) pa_nil)))
      (pss_cons (ps_asg (pe_tup (pa_cons (pv 3) (pa_cons (pv 3) pa_nil))) (pg_sub (pv 5) pe_int set_list))
      (pss_cons (ps_expr (pe_bm PySem.F.plainAttrs_list PySem.F.slot_list_append PySem.F.type_list_append mt_append (pv 5) (pa_cons (pe_tup (pa_cons (pv 2) (pa_cons (pv 2) pa_nil))) pa_nil)))
      (pss_one (ps_ret (pe_callN (ok_l_same (P := P) (w := w) T (base := base) 2) hr (pa_cons (pe_callNX (ok_cover (P := P) (w := w) (base := base) T) hr takes0 (pa_cons (pv 0) (pa_cons (pv 2) (pa_cons (pv 3) pa_nil)))) (pa_cons (pv 6) pa_nil)) (hk := by decide)))))))))))), ?_⟩
  have hlen := ho.len
  have htop := ho.top
  have sm1 : small a := small_of (by omega) (by omega)
  have sm2 : small e := small_of (by omega) (by omega)
  refine q_asgL (el_call (ea_cons (ev_var rfl) ea_nil) (sl_spans hf ho)) fun s H1 hs e1 h1 => ?_
  have hS1 := hS.ex e1
  have hf1 := ex_l e1 hf
  refine q_when (et_or (et_test (ev_op (ev_var rfl) ev_c rv_I0)) fun _ => et_or (et_test (ev_op (ev_var rfl) (ev_var rfl) rv_I0)) fun _ => et_test (ev_op (ev_var rfl) (ev_top ho (ev_var rfl) (ev_var rfl) (sq_of h1) hf1) rv_I0)) (fun hb H2 e2 => ?_) (fun hb H2 e2 => ?_)
  · have hbad : ¬ goodRange a e (prodL ws) := by
      intro g
      unfold goodRange at g
      rcases Bool.or_eq_true_iff.mp hb with h | h
      · have := of_decide_eq_true h
        omega
      rcases Bool.or_eq_true_iff.mp h with h | h
      · have := of_decide_eq_true h
        omega
      · have := of_decide_eq_true h
        omega
    exact s_ret ((evd_call (evds_cons (evd_callV (ea_cons (ev_var rfl) (ea_cons (ev_var rfl) (ea_cons (ev_var rfl) ea_nil))) (svd_refused (hS1.ex e2) ho sm1 sm2 hbad)) (evds_cons (evd_tup (evds_cons (evd_i (ev_var rfl)) (evds_cons (evd_i (ev_var rfl)) evds_nil)) (by simp)) evds_nil)) (spd_same dn_pair.up)).toB) fun H3 e3 => hQ H3 ((e1.trans e2).trans e3)
  have hb1 := Bool.or_eq_false_iff.mp hb
  have hb2 := Bool.or_eq_false_iff.mp hb1.2
  have g0 : ¬ a < 0 := of_decide_eq_false hb1.1
  have g1 := of_decide_eq_false hb2.1
  have g2 := of_decide_eq_false hb2.2
  have hg : goodRange a e (prodL ws) := by
    unfold goodRange
    omega
  refine cs_ask (ea_cons (ev_var rfl) (ea_cons (ev_var rfl) (ea_cons (ev_var rfl) ea_nil))) fun H3 e3 => ?_
  refine ⟨x, a, e, ws, rfl, hS1.ex (e2.trans e3), ho, sm1, sm2, fun _ p ys m H4 np e4 h4 hps hE => ?_, fun z => absurd hg z⟩
  have E4 := (e2.trans e3).trans e4
  have hyl := hps.len
  rw [blocks_len] at hyl
  have hm : 0 < m := by
    apply Nat.pos_of_ne_zero
    intro z
    have := hE.at_
    rw [z] at this
    have h0 : pos ws e a 0 = a := rfl
    omega
  have hml : m ≤ 5000 := by
    have := pos_low ho e a m
    rw [hE.at_] at this
    omega
  refine q_whenF (et_not (a := true) (et_B (ev_call (ea_cons (ev_var rfl) (ea_cons (ev_var rfl) (ea_cons (ev_var rfl) (ea_cons (ev_var rfl) ea_nil)))) (sv_lic (sq_of h4) hps (ex_l E4 hf1) ho (by omega) (by omega) hE)))) fun H5 e5 => ?_
  have E5 := E4.trans e5
  refine q_whenF (et_is (et_and (et_test (ev_op (ev_op (ev_var rfl) (ev_var rfl) rv_I0) ev_c rv_I0)) fun _ => et_test (ev_op (ev_cb (ea_cons (ev_var rfl) ea_nil) (rc_lenL (sq_of (e5 _ _ h4)))) (ev_call (ea_cons (ev_var rfl) (ea_cons (ev_var rfl) (ea_cons (ev_var rfl) ea_nil))) (sv_least (ex_l E5 hf1) ho (by omega) (by omega) (by omega) hE)) (rv_ne rfl))) (by rw [hyl]; simp)) fun H6 e6 => ?_
  have E6 := E5.trans e6
  have h6 := (e5.trans e6) _ _ h4
  refine q_asgL (el_listQ (ev_var rfl) (sq_of h6)) fun q H7 nq e7 h7 => ?_
  have E7 := E6.trans e7
  have nqp : q ≠ p := fun z => by
    rw [z, h6] at nq
    cases nq
  have p7 := e7 _ _ h6
  have ps7 := hps.ex ((e5.trans e6).trans e7)
  have np1 : H1 p = none := fresh_back (e2.trans e3) np
  refine qu_setL (j := 0) p7 (eu_tup (ea_cons (ev_var rfl) (ea_cons (ev_var rfl) ea_nil)) (by simp)) (ev_var rfl) ev_c (by omega) fun r H8 e8 _ => ?_
  have E8 := E7.trans e8
  have E8' : Ex H1 (upd H8 p (.lst (ys.set 0 (.ref r)))) := E8.mut np1
  have p8 : (upd H8 p (.lst (ys.set 0 (.ref r)))) p = some (.lst (ys.set 0 (.ref r))) := upd_same
  have q8 : (upd H8 p (.lst (ys.set 0 (.ref r)))) q = some (.lst ys) := by
    rw [upd_ne nqp]
    exact e8 _ _ h7
  have ps8 : PairsAt K (upd H8 p (.lst (ys.set 0 (.ref r)))) ys (blocksN ws e a m) := (ps7.ex e8).keep (e8 _ _ p7)
  generalize upd H8 p (.lst (ys.set 0 (.ref r))) = Ha at E8' p8 q8 ps8 ⊢
  refine q_appU p8 (ev_var rfl) (eu_tup (ea_cons (ev_var rfl) (ea_cons (ev_var rfl) ea_nil)) (by simp)) (by rw [List.length_set]; omega) fun r2 H9 _ e9 _ => ?_
  have E9 : Ex H1 (upd H9 p (.lst (ys.set 0 (.ref r) ++ [.ref r2]))) := (E8'.trans e9).mut np1
  have q9 : (upd H9 p (.lst (ys.set 0 (.ref r) ++ [.ref r2]))) q = some (.lst ys) := by
    rw [upd_ne nqp]
    exact e9 _ _ q8
  have ps9 : PairsAt K (upd H9 p (.lst (ys.set 0 (.ref r) ++ [.ref r2]))) ys (blocksN ws e a m) := (ps8.ex e9).keep (e9 _ _ p8)
  generalize upd H9 p (.lst (ys.set 0 (.ref r) ++ [.ref r2])) = Hb at E9 q9 ps9 ⊢
  refine s_ret ((evd_call (evds_cons (evd_cover (ea_cons (ev_var rfl) (ea_cons (ev_var rfl) (ea_cons (ev_var rfl) ea_nil))) (hS1.ex E9) ho sm1 sm2 hg hE) (evds_cons (evd_var rfl (Dp.lst (sq_of q9) ps9.dp)) evds_nil)) (spd_same (dn_prs (by rw [blocks_len]; omega)))).toB) fun H10 e10 => hQ H10 ((e1.trans E9).trans e10)
theorem ok_l_cover_good (T : TX K mg) : DefOk P w K mg base (9) "_law_cover_good" ["_law_shape", "_law_fan_here", "_law_low", "_law_high"] [] (spCG K) := by
  obtain ⟨fd, F, h⟩ := fn_l_cover_good (P := P) (w := w) (base := base) T
  exact DefOk.of F (gl_l_cover_good T) (F.bindsN fun _ _ _ _ _ _ us hl => match us, hl with | [_, _, _, _], _ => rfl) h
theorem q_range {s : Addr} {ns : List Int} {a t : Int} {σ : L2.St} {H : Hp} {ta : TA} {n : Nat} {tz : TS} {D : L2.Ends} (ht : EvA ta σ H [.ref s, .int a, .int t]) (hS : SqL K H s (ns.map V.int)) (hl : ns.length ≤ 63) (ha0 : 0 ≤ a) (ha1 : a ≤ 1000) (h1 : 1 ≤ t) (h2 : t ≤ 4096)
    (q : ∀ lo hi : Int, -10000 ≤ lo → lo ≤ 10000 → -10000 ≤ hi → hi ≤ 10000 → ∀ v H1, Ex H H1 → Dp K H1 v (.tuple [.int lo, .int hi]) → tz D (σ.set n (some v)) H1) : tSeq (tAsg (tCall (spRange K) [] E0 ta) (gName n)) tz D σ H :=
  ht H (Ex.refl H) _ fun H1 e1 => ⟨s, ns, a, t, rfl, ex_l e1 hS, hl, ha0, ha1, h1, h2, fun lo hi l0 l1 h0 h1 v H2 e2 hv => q lo hi l0 l1 h0 h1 v H2 (e1.trans e2) hv⟩
theorem sc_law : FnScope ["_law_script", "_law_most", "_law_fan_here", "_law_twin", "_law_shape", "_law_other", "_law_total", "_law_at", "_law_pair"] ["_law_script"] (defScope s_law) := ⟨rfl, rfl, rfl, by decide +kernel, rfl, by decide +kernel, by decide +kernel⟩
theorem fn_law (T : TX K mg) : ∃ fd, FunD K "law" "law" (defArgs s_law) (defBody s_law) (defScope s_law) [] [] (He.ga K "law") fd ∧ FnOk P w K mg base CX0 (10) (He.ga K "law") fd ["_law_script"] (spLaw K) := by
  obtain ⟨fd, F⟩ := fd_law T
  refine ⟨fd, F, My.FunD.ok0 F sc_law (fun vs H Q E h => ?_) (fun cdv A outer s0 H vs Q E hr h => ?_)⟩
  · obtain ⟨s, ns, rfl, hS, hl, hQ⟩ := h
    rfl
  obtain ⟨s, ns, rfl, hS, hl, hQ⟩ := h
  have hu := hu_of hr
  refine ⟨_, (pss_cons (ps_set (i := 1) sc_law.nd rfl (Or.inl rfl) pe_int)
      (pss_cut (ps_if (pt_cmpR op_eq (pe_callN (ok_l_number (P := P) (w := w) (base := base) T) hr (pa_cons (pv 0) (pa_cons pe_int (pa_cons pe_int (pa_cons pe_int pa_nil))))) pe_int (nomark _)) (pss_one (ps_set (i := 1) sc_law.nd rfl (Or.inl rfl) pe_int)) pss_nil)
      (pss_cons (ps_set (i := 2) sc_law.nd rfl (Or.inl rfl) (pe_callN (ok_l_fan (P := P) (w := w) (base := base) T) hr (pa_cons (pv 0) (pa_cons pe_int (pa_cons (pv 1) pa_nil)))))
      (pss_cons (ps_set (i := 3) sc_law.nd rfl (Or.inl rfl) (pe_callN (ok_l_fan (P := P) (w := w) (base := base) T) hr (pa_cons (pv 0) (pa_cons pe_int (pa_cons (pv 1) pa_nil)))))
      (pss_cons (ps_set (i := 4) sc_law.nd rfl (Or.inl rfl) (pe_makeN (mk_Shape (P := P) (w := w) (base := base) T) hr (pa_cons (pe_callTy (listQ K) (by rfl) (fr_list T) (by decide +kernel) (pa_cons (pv 2) pa_nil)) pa_nil)))
      (pss_cons (ps_set (i := 5) sc_law.nd rfl (Or.inl rfl) (pe_makeN (mk_Shape (P := P) (w := w) (base := base) T) hr (pa_cons (pe_callTy (tupQ K) (by rfl) (fr_tuple T) (by decide +kernel) (pa_cons (pv 3) pa_nil)) pa_nil)))
      (pss_cons (ps_set (i := 6) sc_law.nd rfl (Or.inl rfl) (pe_op op_mul (pe_ix (ixL K) (pe_callN (ok_l_fan_spans (P := P) (w := w) (base := base) T) hr (pa_cons (pv 2) pa_nil)) pe_int (fun _ _ => rfl)) (pe_ix (ixL K) (pv 2) pe_int (fun _ _ => rfl))))
      (pss_cut (ps_for PassesOwn.never rfl (pi_range2 rfl (fr_range T) (pa_cons pe_int (pa_cons (pe_op op_add pe_int (pe_callN (ok_l_number (P := P) (w := w) (base := base) T) hr (pa_cons (pv 0) (pa_cons pe_int (pa_cons pe_int (pa_cons pe_int pa_nil)))))) pa_nil))) (pg_name (i := 7) sc_law.nd rfl (Or.inl rfl)) (pss_cons (ps_set (i := 8) sc_law.nd rfl (Or.inl rfl) (pe_callN (ok_l_range (P := P) (w := w) (base := base) T) hr (pa_cons (pv 0) (pa_cons (pv 7) (pa_cons (pv 6) pa_nil)))))
      (pss_cons (ps_if (pt_not (pt_val (pe_callN (ok_l_cover_good (P := P) (w := w) (base := base) T) hr (pa_cons (pv 4) (pa_cons (pv 2) (pa_cons (pe_ix (ixT K) (pv 8) pe_int (fun _ _ => rfl)) (pa_cons (pe_ix (ixT K) (pv 8) pe_int (fun _ _ => rfl)) pa_nil))))))) (pss_one (ps_ret pe_bl)) pss_nil)
      (pss_one (ps_if (pt_not (pt_val (pe_callN (ok_l_cover_good (P := P) (w := w) (base := base) T) hr (pa_cons (pv 5) (pa_cons (pv 3) (pa_cons (pe_ix (ixT K) (pv 8) pe_int (fun _ _ => rfl)) (pa_cons (pe_ix (ixT K) (pv 8) pe_int (fun _ _ => rfl)) pa_nil))))))) (pss_one (ps_ret pe_bl)) pss_nil)))))
      (pss_one (ps_ret pe_bl)))))))))), ?_⟩
  have fin : ∀ H', Q (.bl true) H' := hQ
  have n9 := lawNum_nn ns 0 9 4 (by decide)
  have l9 := lawNum_lt ns 0 9 4 (by decide)
  refine q_asg ev_c fun H1 e1 => ?_
  refine q_cut (M := fun σ' H' => Ex H H' ∧ ∃ mo : Int, 8 ≤ mo ∧ mo ≤ 4096 ∧ σ' = [some (.ref s), some (.int mo), none, none, none, none, none, none, none])
    (s_if (et_test (ev_op (ev_call (ea_cons (ev_var rfl) (ea_cons ev_c (ea_cons ev_c (ea_cons ev_c ea_nil)))) (sv_num (ex_l e1 hS) hl (numok (by omega) (by omega) (by omega) (by omega) (by omega) (by omega)))) ev_c (rv_eq rfl))) (fun hb H3 e3 => ?_) (fun hb H3 e3 => ?_)) ?_
  · exact s_asg ev_c fun H4 e4 => ⟨(e1.trans e3).trans e4, 4096, by decide, by decide, rfl⟩
  · exact ⟨e1.trans e3, 512, by decide, by decide, rfl⟩
  clear e1
  rintro σ' H1 ⟨e1, mo, hm0, hm1, rfl⟩
  refine q_fan (ea_cons (ev_var rfl) (ea_cons ev_c (ea_cons (ev_var rfl) ea_nil))) (ex_l e1 hS) hl (by omega) (by omega) hm0 hm1 fun ws ho p H2 np e2 h2 => ?_
  refine q_fan (ea_cons (ev_var rfl) (ea_cons ev_c (ea_cons (ev_var rfl) ea_nil))) (ex_l (e1.trans e2) hS) hl (by omega) (by omega) hm0 hm1 fun tw ho2 p2 H3 np2 e3 h3 => ?_
  refine q_shape (ws := ws) (evp_Ln (el_listQ (ev_var rfl) (sq_of (e3 _ _ h2))) fun l H1 h => ⟨l, rfl, .inl (sq_of h)⟩) ho fun x H5 nx e5 s5 => ?_
  refine q_shape (ws := tw) (evp_U (eu_tupL (ev_var rfl) (sq_of (e5 _ _ h3))) fun l H6 h6 => ⟨l, rfl, .inr (st_of h6)⟩) ho2 fun y H6 ny e6 s6 => ?_
  have Eb := (((e1.trans e2).trans e3).trans e5).trans e6
  have pb := ((e3.trans e5).trans e6) _ _ h2
  have qb := (e5.trans e6) _ _ h3
  have sx2 := s5.ex e6
  obtain ⟨h0, htop⟩ := top_mul ho
  have hw0 := ho.two _ (List.getElem_mem h0)
  refine q_asg (v := .int (prodL ws)) (ev_is (ev_op (ev_opL1 (el_call (ea_cons (ev_var rfl) ea_nil) (sl_spans (sq_of pb) ho)) (fun H1 _ => ev_c) (fun q H1 h _ => rv_ixL (sq_of h) (sp_atI (k := 0) h0))) (ev_op (ev_var rfl) ev_c (rv_ixL (sq_of pb) (ints_at (k := 0) h0))) (rv_I (by unfold CMul; omega))) (by rw [htop])) fun H10 e10 => ?_
  have ppos := prod_one ho
  have ptop := ho.top
  refine q_forR2' (lo := 1) (n := 2 + lawNum ns 0 9 4) (ea_cons ev_c (ea_cons (ev_op ev_c (ev_call (ea_cons (ev_var rfl) (ea_cons ev_c (ea_cons ev_c (ea_cons ev_c ea_nil)))) (sv_num (ex_l (Eb.trans e10) hS) hl (numok (by omega) (by omega) (by omega) (by omega) (by omega) (by omega)))) rv_I0) ea_nil)) (by omega)
    (fun i σ' H' => Ex H6 H' ∧ ∃ o7 o8, σ' = [some (.ref s), some (.int mo), some (.ref p), some (.ref p2), some (.ref x), some (.ref y), some (.int (prodL ws)), o7, o8])
    (fun σ' H' => True) ?_ ?_ ?_ ?_
  · exact fun H11 e11 => ⟨e10.trans e11, _, _, rfl⟩
  · rintro i σ' H' hi ⟨E11, o7, o8, rfl⟩
    refine q_range (ea_cons (ev_var rfl) (ea_cons (ev_var rfl) (ea_cons (ev_var rfl) ea_nil))) (ex_l (Eb.trans E11) hS) hl (by omega) (by omega) (by omega) ptop fun lo hi l0 l1 u0 u1 v H12 e12 hv => ?_
    have E12 := E11.trans e12
    refine q_whenF (et_not (a := true) (et_B (ev_call (ea_cons (ev_var rfl) (ea_cons (ev_var rfl) (ea_cons (evd_ixT (evd_var rfl hv) ev_c rfl).toI (ea_cons (evd_ixT (evd_var rfl hv) ev_c rfl).toI ea_nil)))) (sv_cg (sx2.ex E12) (ex_l E12 (sq_of pb)) ho l0 l1 u0 u1)))) fun H14 e14 => ?_
    have hv2 := dp_ex e14 hv
    have E14 := E12.trans e14
    exact s_whenF (et_not (a := true) (et_B (ev_call (ea_cons (ev_var rfl) (ea_cons (ev_var rfl) (ea_cons (evd_ixT (evd_var rfl hv2) ev_c rfl).toI (ea_cons (evd_ixT (evd_var rfl hv2) ev_c rfl).toI ea_nil)))) (sv_cg (s6.ex E14) (ex_l E14 (sq_of qb)) ho2 l0 l1 u0 u1)))) fun H15 e15 => ⟨E14.trans e15, _, _, rfl⟩
  · exact fun σ' H' _ => trivial
  · exact fun σ' H' _ => s_ret ev_c fun H12 e12 => fin H12
theorem ok_law (T : TX K mg) : DefOk P w K mg base (10) "law" ["_law_script"] [] (spLaw K) := by
  obtain ⟨fd, F, h⟩ := fn_law (P := P) (w := w) (base := base) T
  exact DefOk.of F (gl_law T) (F.bindsN fun _ _ _ _ _ _ us hl => match us, hl with | [_], _ => rfl) h
end

/-! ### the head -/
def loose : List PySem.Str := (["_wall", "PagesError", "AccessError", "LimitError", "MissingError", "FileError", "CodeError", "BadRange", "Unmapped", "Denied", "BeyondFile", "check_range", "Shape", "level_of", "largest_block", "is_cover", "cover", "_law_number", "_law_is_whole", "_law_same", "_law_fan_spans", "_law_fan", "_law_range", "_law_cover_refused", "_law_is_cover", "_law_least_count", "_law_cover_good"] : List PySem.Str)
abbrev R : PySem.W.OpenRow := PySem.W.OpenLaw.row PySem.Challenge.rw_lentpages_k02_cover
abbrev hk : PySem.W.Hook := My.hookE 5 fas fns fxs
def ob (s : PySem.W.SharedT) : Bool × He.AlD := My.lookE 5 fas fns fxs (HandSHeadRun.getT s)
theorem ob_eq (s : PySem.W.SharedT) : ob s = hk.obs s.abs := My.lookE_eq (HandSHeadRun.getT_eq s)
theorem run (w : World) : HandSHeadRun.RunEq R (PySem.W.view R.prog [31]) hk ob 100000 loose w := by
  intro os
  kernel_rfl
end Law
open PySem PySem.W PySem.Calls PyProof.Rows
theorem PySem.Challenge.cw_lentpages_k02_cover_holds : PySem.Challenge.rw_lentpages_k02_cover.Holds := by
  w_on; o_law
  refine HandSHeadRun.head_any (r := OpenLaw.row PySem.Challenge.rw_lentpages_k02_cover) (q := view (OpenLaw.row PySem.Challenge.rw_lentpages_k02_cover).prog [31]) (H := Law.hk) (ob := Law.ob) (M := 100000) (loose := Law.loose) (d := HandSHeadRun.topDef (OpenLaw.row PySem.Challenge.rw_lentpages_k02_cover).prog 31) (kwd := []) Law.ob_eq
    (by kernel_rfl) (fun s => by kernel_rfl) Law.run (by kernel_rfl) (by kernel_rfl) (by kernel_rfl) (by rfl) (by first | assumption | decide +kernel) (by decide +kernel) ⟨rfl, rfl, rfl, rfl, rfl, by decide +kernel⟩ ?hw ?hc
  case hw => w_witness2
  case hc =>
    refine L2.walk_ofE (l := PySem.Challenge.rw_lentpages_k02_cover) (n := 63) (k := 10) (x := "_law_script") (CX := L2.CX0) rfl (by decide) (by kernel_rfl) ⟨rfl, by decide, by decide⟩ ?F (fun _ _ _ _ z => z)
    intro w mg fa h Y G hmg0
    obtain ⟨K, KX, c⟩ := Y
    have hmg : mg ("law" : PySem.Str) = some (.ref fa) := by
      have e : (HandSHeadRun.topDef (OpenLaw.row PySem.Challenge.rw_lentpages_k02_cover).prog 31).name = ("law" : PySem.Str) := by kernel_rfl
      rw [← e]
      exact hmg0
    have T : Law.TX K mg := My.TxE.of KX G c
    have e := hmg.symm.trans (Law.gl_law T)
    cases e
    obtain ⟨fd, F, _⟩ := Law.fn_law (P := (PySem.Challenge.rw_lentpages_k02_cover).prog) (w := w) (base := h) T
    exact ⟨K, fd, My.spLaw K, KX, fun s v => L2.FunD.bindsA (ps := ["_law_script"]) F (fun _ _ _ _ _ _ us hl => match us, hl with | [_], _ => rfl) s [v] rfl, fun H a ns hl _ hS => ⟨a, ns, rfl, hS, hl, fun _ => rfl⟩, fun base _ _ => by
      obtain ⟨fd2, F2, h2⟩ := Law.fn_law (P := (PySem.Challenge.rw_lentpages_k02_cover).prog) (w := w) (base := base) T
      have ef := My.FunD.same F F2
      subst ef
      exact h2⟩
#print axioms PySem.Challenge.cw_lentpages_k02_cover_holds
