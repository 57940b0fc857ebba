import PyProof.Rows.All
import Wide.All
import OpenK.AllK
import Wide.FinOn
import PyProof.EqAt
import PyProof.EqKinds
import PyProof.TupleCall
import KE.KStateDown
import Lean
import HandS.ForMost
import HandS.Evl
import HandS.Steps
import HandS.Wide
import HandS.IsInst
import HandS.Defaults
import HandS.Flow
import HandS.HeadEnd
import HandS.HeadHook1
import HandS.HeadHook2
import HandS.Head0
import HandS.Head1
import HandS.Head2
import HandS.Exc
import HandS.ExcOwn
import HandS.ExcInit
import HandS.ExcField
import HandS.ExcIs
import HandS.FStr
import HandS.TryMany
import HandS.TryOnly
import HandS.HeadHook3
import HandS.HeadHook4
import KE.KExcIs
import OpenK.KCls
import HandS.Rev
import HandS.Zip
import HandS.DictComp
import PySem.Challenge.RW_lentpages_k22_chooser_clock
set_option Elab.async false
set_option linter.all false
set_option maxRecDepth 100000
set_option maxHeartbeats 4000000
namespace My
open PySem PySem.Spec PyProof.Rows L2 Evl
/-! ### a def by its name -/
structure DefOk (P : Program) (w : World) (K : PySem.W.Frag) (mg : Str → Option Value) (base : Heap) (k : Nat) (x : Str) (ps : List Str) (dvs : List V) (sp : Sp) : Prop where
  ex : ∃ (f : Addr) (fd : FuncData) (ds : List Value), mg x = some (.ref f) ∧ PySem.W.keepIn K (.ref f) = true ∧ Binds K fd ps ds ∧ Vals dvs ds ∧ FnOk P w K mg base CX0 k f fd ps sp
section
variable {X : Cx} {k j : Nat} {x : Str} {ps : List Str} {dvs : List V} {sp : Sp} {p pos : Pos} {e : Expr} {es : List Expr} {t : TA}
theorem pe_callN (D : DefOk X.prog X.w X.K X.mg X.base k x ps dvs sp) (hr : Room j X.A)
    (ha : PA X (e :: es) t) (hk : k ≤ j := by decide) (hg : Gl X x := by rfl) (hdb : (x == ("__debug__" : Str)) = false := by decide) (he : starEach (e :: es) X.env = (false, eval e X.env) :: starEach es X.env := by rfl) (hpl : (backTo pos (starEach es X.env)).any (·.1) = false := by rfl) :
    PE X (.Call (.Name x p) (e :: es) [] pos) (tCall sp dvs E0 t) := by
  obtain ⟨f, fd, ds, h1, h2, h3, h4, h5⟩ := D.ex
  exact pe_call h5 (hr.mono hk) hg h1 h2 h3 h4 pass0 ha hdb he hpl
theorem pe_callN0 (D : DefOk X.prog X.w X.K X.mg X.base k x ps dvs sp) (hr : Room j X.A)
    (hk : k ≤ j := by decide) (hg : Gl X x := by rfl) (hdb : (x == ("__debug__" : Str)) = false := by decide) :
    PE X (.Call (.Name x p) [] [] pos) (tCall sp dvs E0 tNil) := by
  obtain ⟨f, fd, ds, h1, h2, h3, h4, h5⟩ := D.ex
  exact pe_call0 h5 (hr.mono hk) hg h1 h2 h3 h4 pass0 hdb
end
theorem DefOk.of {P : Program} {w : World} {K : PySem.W.Frag} {mg : Str → Option Value} {base : Heap} {k : Nat} {x : Str} {ps : List Str} {sp : Sp} {st : Stmt} {fd : FuncData} {f : Addr} (F : FunD K x x (defArgs st) (defBody st) (defScope st) [] [] f fd)
    (g : mg x = some (.ref f)) (b : Binds K fd ps []) (h : FnOk P w K mg base CX0 k f fd ps sp) : DefOk P w K mg base k x ps [] sp := ⟨f, fd, [], g, F.kp, b, .nil, h⟩
theorem FunD.ok0 {P : Program} {w : World} {K : PySem.W.Frag} {mg : Str → Option Value} {base : Heap} {x qual : Str} {params : Arguments} {body : List Stmt} {scope : Scope} {dvs : List V} {kws : List (Str × V)} {f : Addr} {fd : FuncData}
    {N ps : List Str} {k : Nat} {sp : Sp} (F : FunD K x qual params body scope dvs kws f fd) (S : FnScope N ps scope) (len : ∀ vs H Q E, sp vs H Q E → vs.length = ps.length)
    (hbody : ∀ (cdv : Value) (A : Around) (outer : List Env) (s : Shared) (H : Hp) (vs : List V) (Q : VK) (E : XK), Room k (A.deeper (envOfC qual scope s.heap.objs.size f cdv)) → sp vs H Q E →
      ∃ t, PSs (cxOf CX0 P w K mg base N qual scope f cdv A outer s H E).nox body t ∧ t { nx := fun _ H' => Q .non H', rt := Q } (start N vs) H) : FnOk P w K mg base CX0 (k + 1) f fd ps sp :=
  F.ok S len fun cdv A outer s H vs Q E hr h => by
    obtain ⟨t, h1, h2⟩ := hbody cdv A outer s H vs Q E hr h
    exact ⟨t, h1.nox, h2⟩
/-! ### the facts of a top by names -/
structure Tx (fa : List He.Fa) (fn : List He.DefD) (K : PySem.W.Frag) (mg : Str → Option Value) : Prop where
  says : He.SaysD fa fn K
  glo : ∀ x, (He.Fa.glo x).ok K = true → mg x = some (.ref (He.ga K x))
  fre : ∀ x, (He.Fa.free x).ok K = true → mg x = none
theorem Tx.mk' {fa : List He.Fa} {fn : List He.DefD} {K : PySem.W.Frag} {h : Heap} {mg : Str → Option Value} (X : K.In h) (G : h.Ns mainGlobals mg) (c : He.SaysD fa fn K) : Tx fa fn K mg :=
  ⟨c, fun _ h => He.glo_ok X G h, fun _ h => He.free_ok X G h⟩
/-! ### rules with their fragment named (within a block X.K is not seen as K) -/
def rLenQ (K : PySem.W.Frag) : List V → Hp → VK → Prop := fun xs H Q => ∃ p ys, xs = [.ref p] ∧ (SqL K H p ys ∨ SqT K H p ys) ∧ Q (.int ys.length) H
def rListQ (K : PySem.W.Frag) : List V → Hp → VK → Prop := fun xs H Q => ∃ p ys, xs = [.ref p] ∧ (SqL K H p ys ∨ SqT K H p ys) ∧ ∀ l, H l = none → Q (.ref l) (upd H l (.lst ys))
def rTupQ (K : PySem.W.Frag) : List V → Hp → VK → Prop := fun xs H Q => ∃ p ys, xs = [.ref p] ∧ ((SqL K H p ys ∧ ∀ l, H l = none → Q (.ref l) (upd H l (.tup ys))) ∨ (SqT K H p ys ∧ Q (.ref p) H))
section
variable {X : Cx} {K : PySem.W.Frag}
theorem ixL (K : PySem.W.Frag) (h : X.K = K := by rfl) : IxR X (rIxL K) := h ▸ ix_list
theorem ixT (K : PySem.W.Frag) (h : X.K = K := by rfl) : IxR X (rIxT K) := h ▸ ix_tup
theorem ixQ (K : PySem.W.Frag) (h : X.K = K := by rfl) : IxR X (rIx K) := h ▸ ix_seq
theorem inQ (K : PySem.W.Frag) (h : X.K = K := by rfl) : OpR X (compareOp .In) (rIn K false) := h ▸ op_in_seq
theorem niQ (K : PySem.W.Frag) (h : X.K = K := by rfl) : OpR X (compareOp .NotIn) (rIn K true) := h ▸ op_notIn_seq
theorem eqD (K : PySem.W.Frag) (hu : X.A.units + 64 < cLine) (h : X.K = K := by rfl) : OpR X (compareOp .Eq) (rEqD K) := h ▸ op_eqD hu
theorem neD (K : PySem.W.Frag) (hu : X.A.units + 64 < cLine) (h : X.K = K := by rfl) : OpR X (compareOp .NotEq) (rNeD K) := h ▸ op_neD hu
theorem catT (K : PySem.W.Frag) (h : X.K = K := by rfl) : OpR X (binaryOp .Add) (rCatT K) := h ▸ op_catT
theorem lenQ (K : PySem.W.Frag) (h : X.K = K := by rfl) : CallR X (.builtin "len") (rLenQ K) := h ▸ call_len_seq
theorem listQ (K : PySem.W.Frag) (h : X.K = K := by rfl) : CallR X (.type "list") (rListQ K) := h ▸ call_list_of
theorem tupQ (K : PySem.W.Frag) (h : X.K = K := by rfl) : CallR X (.type "tuple") (rTupQ K) := h ▸ call_tuple_of
theorem isiK (K : PySem.W.Frag) (h : X.K = K := by rfl) : CallR X (.builtin "isinstance") (rIsi K) := h ▸ call_isi
theorem isiTK (K : PySem.W.Frag) (h : X.K = K := by rfl) : CallR X (.builtin "isinstance") (rIsiT K) := h ▸ call_isiT
theorem sumK (K : PySem.W.Frag) (hc : X.calm = true) (h : X.K = K := by rfl) : CallR X (.builtin "sum") (rSum K) := h ▸ cr_sum hc
theorem maxK (K : PySem.W.Frag) (hc : X.calm = true) (h : X.K = K := by rfl) : CallR X (.builtin "max") (rMax K) := h ▸ cr_max hc
theorem minK (K : PySem.W.Frag) (hc : X.calm = true) (h : X.K = K := by rfl) : CallR X (.builtin "min") (rMin K) := h ▸ cr_min hc
theorem slL (K : PySem.W.Frag) (h : X.K = K := by rfl) : SlR X (rSlL K) := h ▸ sl_list
theorem slT (K : PySem.W.Frag) (h : X.K = K := by rfl) : SlR X (rSlT K) := h ▸ sl_tup
theorem pe_fldK (K : PySem.W.Frag) {e : Expr} {ta : TE} {f : Str} {pos : Pos} (he : PE X e ta) (hb : attributeBase e f X.env (eval e X.env) = eval e X.env) (h : X.K = K := by rfl) : PE X (.Attribute e f pos) (tFld K ta f) := h ▸ pe_fld he hb
theorem pt_truthK (K : PySem.W.Frag) {a : Expr} {ta : TE} (ha : PE X a ta) (he : ∀ whole, isTrue a X.env whole = (do let v ← whole; standAt a.pos; holding [v] (truthy v))) (h : X.K = K := by rfl) : PT X a (tTru K ta) := h ▸ pt_truth ha he
theorem pg_tupK (K : PySem.W.Frag) {es : List Expr} {k : Nat} {t : TGs} {n : Nat} {pos : Pos} (hc : X.calm = true) (hl : PGs X es t) (hn : (assignEach es X.env).length = n := by rfl) (hst : (assignEach es X.env).findIdx? (·.1) = none := by rfl) (h : X.K = K := by rfl) : PG X (.Tuple es k pos) (gTup K n t) := by
  subst h
  exact pg_tup hc hl hn hst
end
/-! ### further values -/
section
variable {K : PySem.W.Frag} {σ : L2.St} {H H' : Hp} {ta tb te tx : TE} {t u : TT} {x y z v : V} {r : R2}
theorem rv_pow {i j : Int} (h : CPow i j) : RV (rI CPow fun i j => .int (i ^ j.toNat)) (.int i) (.int j) H (.int (i ^ j.toNat)) := rv_I h
theorem rv_str {i j : Str} (h : i.length + j.length ≤ sizeLine) : RV (fun x y H Q => ∃ i j, x = .str i ∧ y = .str j ∧ i.length + j.length ≤ sizeLine ∧ Q (.str (i ++ j)) H) (.str i) (.str j) H (.str (i ++ j)) := fun H1 _ _ q => ⟨i, j, rfl, rfl, h, q H1 (Ex.refl H1)⟩
theorem rc_abs {i : Int} : RC (fun xs H Q => ∃ i, xs = [.int i] ∧ Q (.int (if i < 0 then -i else i)) H) [.int i] H (.int (if i < 0 then -i else i)) := fun H1 _ _ q => ⟨i, rfl, q H1 (Ex.refl H1)⟩
theorem rc_int {i : Int} : RC (fun xs H Q => (∃ i, xs = [.int i] ∧ Q (.int i) H) ∨ ∃ k, xs = [.bl k] ∧ Q (.int (if k then 1 else 0)) H) [.int i] H (.int i) := fun H1 _ _ q => .inl ⟨i, rfl, q H1 (Ex.refl H1)⟩
theorem rc_intb {k : Bool} : RC (fun xs H Q => (∃ i, xs = [.int i] ∧ Q (.int i) H) ∨ ∃ k, xs = [.bl k] ∧ Q (.int (if k then 1 else 0)) H) [.bl k] H (.int (if k then 1 else 0)) := fun H1 _ _ q => .inr ⟨k, rfl, q H1 (Ex.refl H1)⟩
theorem rc_max2 {i j : Int} : RC (fun xs H Q => ∃ i j, xs = [.int i, .int j] ∧ Q (.int (if j > i then j else i)) H) [.int i, .int j] H (.int (if j > i then j else i)) := fun H1 _ _ q => ⟨i, j, rfl, q H1 (Ex.refl H1)⟩
theorem rc_min2 {i j : Int} : RC (fun xs H Q => ∃ i j, xs = [.int i, .int j] ∧ Q (.int (if j < i then j else i)) H) [.int i, .int j] H (.int (if j < i then j else i)) := fun H1 _ _ q => ⟨i, j, rfl, q H1 (Ex.refl H1)⟩
theorem rc_lenL {p : Addr} {ys : List V} (h : SqL K H p ys) : RC (rLenQ K) [.ref p] H (.int ys.length) := fun H1 e _ q => ⟨p, ys, rfl, .inl (ex_l e h), q H1 (Ex.refl H1)⟩
theorem rc_lenT {p : Addr} {ys : List V} (h : SqT K H p ys) : RC (rLenQ K) [.ref p] H (.int ys.length) := fun H1 e _ q => ⟨p, ys, rfl, .inr (ex_t e h), q H1 (Ex.refl H1)⟩
theorem rc_isi {x c : V} {t u : Value} {b : Bool} (hc : ClsV c u) (ht : ∀ H1, Ex H H1 → TyX K H1 x t) (hk : PySem.W.kitOne K t u = some b) : RC (rIsi K) [x, c] H (.bl b) := fun H1 e _ q => ⟨x, c, t, u, b, rfl, hc, ht H1 e, hk, q H1 (Ex.refl H1)⟩
end
end My

namespace My
open PySem PySem.Spec PyProof.Rows L2 Evl
/-! ### data -/
section
variable {K : PySem.W.Frag} {H H' : Hp}
mutual
theorem dp_ex (e : Ex H H') : ∀ {v : V} {d : PyData}, Dp K H v d → Dp K H' v d
  | _, _, .non => .non
  | _, _, .bl b => .bl b
  | _, _, .int i => .int i
  | _, _, .str x => .str x
  | _, _, .lst h t => .lst (ex_l e h) (dpa_ex e t)
  | _, _, .tup h t => .tup (ex_t e h) (dpa_ex e t)
theorem dpa_ex (e : Ex H H') : ∀ {vs : List V} {ds : List PyData}, DpAll K H vs ds → DpAll K H' vs ds
  | _, _, .nil => .nil
  | _, _, .cons h t => .cons (dp_ex e h) (dpa_ex e t)
end
theorem dpa_len : ∀ {vs : List V} {ds : List PyData}, DpAll K H vs ds → vs.length = ds.length
  | _, _, .nil => rfl
  | _, _, .cons _ t => congrArg Nat.succ (dpa_len t)
theorem dpa_at : ∀ {vs : List V} {ds : List PyData} {i : Nat}, DpAll K H vs ds → (h : i < ds.length) → ∃ v, vs[i]? = some v ∧ Dp K H v ds[i]
  | _, _, 0, .cons h _, _ => ⟨_, rfl, h⟩
  | _, _, i + 1, .cons _ t, l => by
    obtain ⟨v, e, q⟩ := dpa_at (i := i) t (Nat.lt_of_succ_lt_succ l)
    exact ⟨v, e, q⟩
theorem dpa_app : ∀ {vs ws : List V} {ds es : List PyData}, DpAll K H vs ds → DpAll K H ws es → DpAll K H (vs ++ ws) (ds ++ es)
  | _, _, _, _, .nil, h => h
  | _, _, _, _, .cons a t, h => .cons a (dpa_app t h)
theorem dpa_ints : ∀ ns : List Int, DpAll K H (ns.map V.int) (ns.map PyData.int)
  | [] => .nil
  | n :: r => .cons (.int n) (dpa_ints r)
/-- nested at most so deep, no dict, no list over 40,000 items -/
def Dn : Nat → PyData → Prop
  | _, .none => True
  | _, .bool _ => True
  | _, .int _ => True
  | _, .str _ => True
  | n + 1, .list ds => ds.length ≤ 40000 ∧ ∀ d ∈ ds, Dn n d
  | n + 1, .tuple ds => ds.length ≤ 40000 ∧ ∀ d ∈ ds, Dn n d
  | _, _ => False
theorem Dn.up : ∀ {n : Nat} {d : PyData}, Dn n d → Dn (n + 1) d
  | _, .none, _ => by simp [Dn]
  | _, .bool _, _ => by simp [Dn]
  | _, .int _, _ => by simp [Dn]
  | _, .str _, _ => by simp [Dn]
  | 0, .list _, h => by simp [Dn] at h
  | 0, .tuple _, h => by simp [Dn] at h
  | n + 1, .list ds, h => by
    simp only [Dn] at h ⊢
    exact ⟨h.1, fun d hd => Dn.up (h.2 d hd)⟩
  | n + 1, .tuple ds, h => by
    simp only [Dn] at h ⊢
    exact ⟨h.1, fun d hd => Dn.up (h.2 d hd)⟩
  | 0, .dict _, h => by simp [Dn] at h
  | n + 1, .dict _, h => by simp [Dn] at h
theorem Dn.le {n m : Nat} {d : PyData} (h : Dn n d) (l : n ≤ m) : Dn m d := by
  induction l with
  | refl => exact h
  | step _ ih => exact ih.up
theorem dn_ints {ns : List Int} (h : ns.length ≤ 40000) : Dn 1 (.list (ns.map PyData.int)) := by
  simp only [Dn, List.length_map]
  refine ⟨h, fun d hd => ?_⟩
  obtain ⟨n, _, rfl⟩ := List.mem_map.mp hd
  simp [Dn]
/-! ### types -/
def tyN : PyData → String
  | .none => "NoneType"
  | .bool _ => "bool"
  | .int _ => "int"
  | .str _ => "str"
  | .list _ => "list"
  | .tuple _ => "tuple"
  | .dict _ => "dict"
theorem ty_l {a : Addr} {xs : List V} (h : SqL K H a xs) : TyX K H (.ref a) (.type "list") := by
  rcases h with (h | ⟨o, h⟩) | ⟨o, its, n, h1, h2, _⟩
  · exact .base (.lst h)
  · exact .base (.frz h)
  · exact .kList h1 h2
theorem ty_t {a : Addr} {xs : List V} (h : SqT K H a xs) : TyX K H (.ref a) (.type "tuple") := by
  rcases h with (h | ⟨o, h⟩) | ⟨o, its, n, h1, h2, _⟩
  · exact .base (.tup h)
  · exact .fTuple h
  · exact .kTuple h1 h2
theorem dp_ty {v : V} {d : PyData} (h : Dp K H v d) : TyX K H v (.type (tyN d)) := by
  cases h with
  | non => exact .base .non
  | bl b => exact .base (.bl b)
  | int i => exact .base (.int i)
  | str x => exact .base (.str x)
  | lst h _ => exact ty_l h
  | tup h _ => exact ty_t h
def isB (c t : String) : Bool := kitB t c == some true
/-- the classes that laws ask for -/
def askL : List String := ["int", "bool", "str", "list", "tuple"]
def askd (c : String) : Bool := askL.contains c
theorem kitB_all : ∀ t ∈ ["NoneType", "bool", "int", "str", "list", "tuple"], ∀ c ∈ askL, kitB t c = some (isB c t) := by decide +kernel
theorem kit_all {d : PyData} {v : V} (h : Dp K H v d) {c : String} (hc : askd c = true) : PySem.W.kitOne K (.type (tyN d)) (.type c) = some (isB c (tyN d)) := by
  have hm : c ∈ askL := by
    have h2 : askL.contains c = true := hc
    simpa using h2
  have ht : tyN d ∈ ["NoneType", "bool", "int", "str", "list", "tuple"] := by cases h <;> simp [tyN]
  exact kitB_all _ ht c hm
end
section
variable {K : PySem.W.Frag} {σ : L2.St} {H H' : Hp} {ta tb te tx : TE} {t u : TT} {x y z v : V} {d d2 : PyData}
theorem ev_isiD {c : String} (hx : Ev tx σ H v) (h : Dp K H v d) (hc : askd c = true) : Ev (tCB (rIsi K) (tCons tx (tCons (tC (.ty c)) tNil))) σ H (.bl (isB c (tyN d))) := fun H1 e Q q =>
  hx H1 e _ fun H2 e2 => ⟨v, .ty c, _, _, _, rfl, .ty c, dp_ty (dp_ex (e.trans e2) h), kit_all h hc, q H2 e2⟩
theorem ev_isiD2 {c1 c2 : String} (hx : Ev tx σ H v) (h : Dp K H v d) (h1 : askd c1 = true) (h2 : askd c2 = true) :
    Ev (tCB (rIsiT K) (tCons tx (tCons (tTup (tCons (tC (.ty c1)) (tCons (tC (.ty c2)) tNil))) tNil))) σ H (.bl (isB c1 (tyN d) || isB c2 (tyN d))) := fun H1 e Q q =>
  hx H1 e _ fun H2 e2 => ⟨by show 2 ≤ sizeLine; decide, fun p hp =>
    ⟨v, p, [.ty c1, .ty c2], .type (tyN d), [.type c1, .type c2], _, rfl, upd_same, .cons (.ty c1) (.cons (.ty c2) .nil), dp_ty (dp_ex ((e.trans e2).trans (Ex.new hp)) h), by
      refine kitAny_cons (b := isB c1 (tyN d)) (kit_all h h1) (fun e1 => ?_) (fun e1 => by rw [e1] <;> rfl)
      refine kitAny_cons (b := isB c2 (tyN d)) (kit_all h h2) (fun e2 => ?_) (fun e2 => by rw [e1, e2] <;> rfl)
      rw [e1, e2]
      exact kitAny_nil, q _ (e2.trans (Ex.new hp))⟩⟩
end
end My
namespace My
open PySem PySem.Spec PyProof.Rows L2 Evl
theorem FunD.same {K : PySem.W.Frag} {x qual : Str} {params : Arguments} {body : List Stmt} {scope : Scope} {dvs : List V} {kws : List (Str × V)} {f : Addr} {fd fd2 : FuncData} (F : FunD K x qual params body scope dvs kws f fd) (F2 : FunD K x qual params body scope dvs kws f fd2) : fd = fd2 := by
  obtain ⟨_, _, _, _, _, _, _, _, _, _, _, l1, _⟩ := F.ex
  obtain ⟨_, _, _, _, _, _, _, _, _, _, _, l2, _⟩ := F2.ex
  have e := l1.symm.trans l2
  injection e with e
  injection e with _ _ e _
  injection e
def spLaw (K : PySem.W.Frag) : Sp := fun vs H Q _ => ∃ (a : Addr) (ns : List Int), vs = [.ref a] ∧ SqL K H a (ns.map V.int) ∧ ns.length ≤ 63 ∧ ∀ H', Q (.bl true) H'
end My

namespace My
open PySem PySem.Spec PyProof.Rows L2 Evl
section
variable {K : PySem.W.Frag} {σ : L2.St} {H H' : Hp} {ta tb te tx : TE} {t u : TT} {x y z v : V} {D : Ends} {tu tw tz : TS} {g : TG}
/-- for over range(n), any n; a word B for a break -/
theorem q_forR1' {ta : TA} {j : Nat} {n : Int} (h : EvA ta σ H [.int n]) (hn : -(2 ^ 62) ≤ n ∧ n < 2 ^ 62) (Pv : Nat → L2.St → Hp → Prop) (B : L2.St → Hp → Prop) (h0 : ∀ H1, Ex H H1 → Pv 0 σ H1)
    (hs : ∀ (i : Nat) σ' H', (i : Int) < n → Pv i σ' H' → tu { D with nx := Pv (i + 1), ct := Pv (i + 1), bk := B } (σ'.set j (some (.int (i : Int)))) H') (hd : ∀ σ' H', Pv n.toNat σ' H' → B σ' H')
    (hb : ∀ σ' H', B σ' H' → tz D σ' H') : tCut (tFor (iRng1 ta) (gName j) tu) tz D σ H :=
  ⟨B, h H (Ex.refl H) _ fun H1 e => ⟨n, rfl, hn.1, hn.2, for_range (lo := 0) (n := n.toNat) Pv (h0 H1 e) (fun i σ' H' hi p => by
    have e0 : (0 : Int) + (i : Int) = (i : Int) := Int.zero_add _
    show tu { D with nx := Pv (i + 1), ct := Pv (i + 1), bk := B } (σ'.set j (some (.int ((0 : Int) + (i : Int))))) H'
    rw [e0]
    exact hs i σ' H' (by omega) p) hd⟩, hb⟩
theorem q_forR2' {ta : TA} {j : Nat} {lo n : Int} (h : EvA ta σ H [.int lo, .int n]) (hn : -(2 ^ 62) ≤ lo ∧ lo < 2 ^ 62 ∧ -(2 ^ 62) ≤ n ∧ n < 2 ^ 62) (Pv : Nat → L2.St → Hp → Prop) (B : L2.St → Hp → Prop) (h0 : ∀ H1, Ex H H1 → Pv 0 σ H1)
    (hs : ∀ (i : Nat) σ' H', lo + (i : Int) < n → Pv i σ' H' → tu { D with nx := Pv (i + 1), ct := Pv (i + 1), bk := B } (σ'.set j (some (.int (lo + (i : Int))))) H') (hd : ∀ σ' H', Pv (n - lo).toNat σ' H' → B σ' H')
    (hb : ∀ σ' H', B σ' H' → tz D σ' H') : tCut (tFor (iRng2 ta) (gName j) tu) tz D σ H :=
  ⟨B, h H (Ex.refl H) _ fun H1 e => ⟨lo, n, rfl, hn, for_range (lo := lo) (n := (n - lo).toNat) Pv (h0 H1 e) (fun i σ' H' hi p => hs i σ' H' (by omega) p) hd⟩, hb⟩
end
end My

namespace My
open PySem PySem.Spec PyProof.Rows L2 Evl
theorem isB_tab : isB "int" "NoneType" = false ∧ isB "bool" "NoneType" = false ∧ isB "str" "NoneType" = false ∧ isB "list" "NoneType" = false ∧ isB "tuple" "NoneType" = false ∧ isB "int" "bool" = true ∧ isB "bool" "bool" = true ∧ isB "str" "bool" = false ∧ isB "list" "bool" = false ∧ isB "tuple" "bool" = false ∧ isB "int" "int" = true ∧ isB "bool" "int" = false ∧ isB "str" "int" = false ∧ isB "list" "int" = false ∧ isB "tuple" "int" = false ∧ isB "int" "str" = false ∧ isB "bool" "str" = false ∧ isB "str" "str" = true ∧ isB "list" "str" = false ∧ isB "tuple" "str" = false ∧ isB "int" "list" = false ∧ isB "bool" "list" = false ∧ isB "str" "list" = false ∧ isB "list" "list" = true ∧ isB "tuple" "list" = false ∧ isB "int" "tuple" = false ∧ isB "bool" "tuple" = false ∧ isB "str" "tuple" = false ∧ isB "list" "tuple" = false ∧ isB "tuple" "tuple" = true := by decide +kernel
section
variable {K : PySem.W.Frag} {σ : L2.St} {H H' : Hp} {ta tb te tx : TE} {t u : TT} {x y z v : V} {D : Ends} {tu tw tz : TS} {g : TG}
theorem ev_isN (h : Ev ta σ H x) : Ev (tIsN ta) σ H (.bl (decide (x = .non))) := fun H1 e Q q => h H1 e _ fun H2 e2 => q H2 e2
theorem ev_notN (h : Ev ta σ H x) : Ev (tNotN ta) σ H (.bl (!decide (x = .non))) := fun H1 e Q q => h H1 e _ fun H2 e2 => q H2 e2
end
end My

namespace My
open PySem PySem.Spec PyProof.Rows L2 Evl
section
variable {K : PySem.W.Frag} {σ : L2.St} {H H' : Hp} {ta tb te tx : TE} {t u : TT} {x y z v : V} {D : Ends} {tu tw tz : TS} {g : TG}
theorem ev_lenN' {xs : List V} (ha : EvL ta σ H xs) : Ev (tCB (rLenQ K) (tCons ta tNil)) σ H (.int (xs.length : Int)) := fun H1 e Q q =>
  ha H1 e _ fun p H2 _ e2 h2 => ⟨p, xs, rfl, Or.inl (sq_of h2), q H2 e2⟩
theorem rv_ixQL {p : Addr} {xs : List V} {i : Int} (h : SqL K H p xs) (ha : atI xs i = some v) : RV (rIx K) (.ref p) (.int i) H v := fun H1 e _ q => .inl ⟨p, xs, i, v, rfl, rfl, ex_l e h, ha, q H1 (Ex.refl H1)⟩
theorem rv_ixQT {p : Addr} {xs : List V} {i : Int} (h : SqT K H p xs) (ha : atI xs i = some v) : RV (rIx K) (.ref p) (.int i) H v := fun H1 e _ q => .inr (.inl ⟨p, xs, i, v, rfl, rfl, ex_t e h, ha, q H1 (Ex.refl H1)⟩)
/-- a list or a tuple, by its kind -/
def SqB (K : PySem.W.Frag) (H : Hp) (b : Bool) (a : Addr) (xs : List V) : Prop := if b = true then SqL K H a xs else SqT K H a xs
theorem SqB.ex {b : Bool} {a : Addr} {xs : List V} (e : Ex H H') (h : SqB K H b a xs) : SqB K H' b a xs := by
  cases b with
  | true => exact ex_l e h
  | false => exact ex_t e h
theorem rv_ixB {b : Bool} {p : Addr} {xs : List V} {i : Int} (h : SqB K H b p xs) (ha : atI xs i = some v) : RV (rIx K) (.ref p) (.int i) H v := by
  cases b with
  | true => exact rv_ixQL h ha
  | false => exact rv_ixQT h ha
theorem rc_lenB {b : Bool} {p : Addr} {ys : List V} (h : SqB K H b p ys) : RC (rLenQ K) [.ref p] H (.int ys.length) := by
  cases b with
  | true => exact rc_lenL h
  | false => exact rc_lenT h
end
theorem given_none {n : Nat} {f : Nat → Bool} {v : Nat → V} : (given n f v).length = 0 ↔ ∀ i, i < n → f i = false := by
  unfold given
  rw [List.length_map, List.length_eq_zero_iff, List.filter_eq_nil_iff]
  constructor
  · intro h i hi
    have := h i (List.mem_range.mpr hi)
    simpa using this
  · intro h i hi
    rw [h i (List.mem_range.mp hi)]
    exact Bool.false_ne_true
/-- the sequences of one kind -/
def seqD (b : Bool) (ds : List PyData) : PyData := if b = true then .list ds else .tuple ds
theorem seqD_inj {b : Bool} {ds es : List PyData} : seqD b ds = seqD b es ↔ ds = es := by
  cases b <;> simp [seqD]
theorem dp_seq {K : PySem.W.Frag} {H : Hp} {b : Bool} {v : V} {ds : List PyData} (h : Dp K H v (seqD b ds)) : ∃ a xs, v = .ref a ∧ SqB K H b a xs ∧ DpAll K H xs ds := by
  cases b with
  | true =>
    cases h with
    | lst h t => exact ⟨_, _, rfl, h, t⟩
  | false =>
    cases h with
    | tup h t => exact ⟨_, _, rfl, h, t⟩
theorem dn_seq {n : Nat} {b : Bool} {ds : List PyData} (h : Dn n (seqD b ds)) : ∃ m, n = m + 1 ∧ ds.length ≤ 40000 ∧ ∀ d ∈ ds, Dn m d := by
  cases n with
  | zero => cases b <;> simp [Dn, seqD] at h
  | succ m => cases b <;> (simp [Dn, seqD] at h; exact ⟨m, rfl, h⟩)
end My

namespace My
open PySem PySem.Spec PyProof.Rows L2 Evl
/-! ### expressions whose values are data -/
section
variable {K : PySem.W.Frag}
def EvD (K : PySem.W.Frag) (te : TE) (σ : L2.St) (H : Hp) (d : PyData) : Prop := ∀ H1, Ex H H1 → ∀ Q : VK, (∀ v H2, Ex H1 H2 → Dp K H2 v d → Q v H2) → te σ H1 Q
def EvDs (K : PySem.W.Frag) (ta : TA) (σ : L2.St) (H : Hp) (ds : List PyData) : Prop := ∀ H1, Ex H H1 → ∀ Q : List V → Hp → Prop, (∀ vs H2, Ex H1 H2 → DpAll K H2 vs ds → Q vs H2) → ta σ H1 Q
/-- what a call hands back is data d, all else as it was -/
def RetD (K : PySem.W.Frag) (d : PyData) (H : Hp) (Q : VK) : Prop := ∀ v H2, Ex H H2 → Dp K H2 v d → Q v H2
/-- a call over data -/
def SpD (K : PySem.W.Frag) (sp : Sp) (ds : List PyData) (d : PyData) : Prop := ∀ vs H1, DpAll K H1 vs ds → ∀ Q : VK, RetD K d H1 Q → ∀ E : XK, sp vs H1 Q E
/-- a def that is a function of data -/
def spFn (K : PySem.W.Frag) (pre : List PyData → Prop) (f : List PyData → PyData) : Sp := fun vs H Q _ => ∃ ds, DpAll K H vs ds ∧ pre ds ∧ RetD K (f ds) H Q
/-- .. of which only a relation is told -/
def spRel (K : PySem.W.Frag) (pre : List PyData → Prop) (R : List PyData → PyData → Prop) : Sp := fun vs H Q _ => ∃ ds, DpAll K H vs ds ∧ pre ds ∧ ∀ d, R ds d → RetD K d H Q
theorem spFn_D {pre : List PyData → Prop} {f : List PyData → PyData} {ds : List PyData} (h : pre ds) : SpD K (spFn K pre f) ds (f ds) := fun vs H1 hv Q q E => ⟨ds, hv, h, q⟩
theorem RetD.go {d : PyData} {H H1 : Hp} {Q : VK} (k : RetD K d H Q) (e : Ex H H1) : RetD K d H1 Q := fun v H2 e2 h => k v H2 (e.trans e2) h
variable {σ : L2.St} {H H' : Hp} {ta tb te tx : TE} {t u : TT} {x y z v : V} {D : Ends} {tu tw tz : TS} {g : TG} {d e : PyData} {ds es : List PyData} {i j : Int} {b : Bool}
theorem EvD.mono (e : Ex H H') (h : EvD K te σ H d) : EvD K te σ H' d := fun H1 a Q q => h H1 (e.trans a) Q q
theorem dp_int (h : Dp K H v (.int i)) : v = .int i := by cases h; rfl
theorem dp_str {s : Str} (h : Dp K H v (.str s)) : v = .str s := by cases h; rfl
theorem dp_bool (h : Dp K H v (.bool b)) : v = .bl b := by cases h; rfl
theorem dp_none (h : Dp K H v .none) : v = .non := by cases h; rfl
theorem dp_list (h : Dp K H v (.list ds)) : ∃ a xs, v = .ref a ∧ SqL K H a xs ∧ DpAll K H xs ds := by
  cases h with
  | lst h t => exact ⟨_, _, rfl, h, t⟩
theorem dp_tup (h : Dp K H v (.tuple ds)) : ∃ a xs, v = .ref a ∧ SqT K H a xs ∧ DpAll K H xs ds := by
  cases h with
  | tup h t => exact ⟨_, _, rfl, h, t⟩
/-- a value that is data at H stays so -/
theorem evd_of (h : Ev te σ H v) (hd : Dp K H v d) : EvD K te σ H d := fun H1 e Q q => h H1 e Q fun H2 e2 => q v H2 e2 (dp_ex (e.trans e2) hd)
theorem evd_i (h : Ev te σ H (.int i)) : EvD K te σ H (.int i) := evd_of h (.int i)
theorem evd_b (h : Ev te σ H (.bl b)) : EvD K te σ H (.bool b) := evd_of h (.bl b)
theorem evd_s {s : Str} (h : Ev te σ H (.str s)) : EvD K te σ H (.str s) := evd_of h (.str s)
theorem evd_n (h : Ev te σ H .non) : EvD K te σ H .none := evd_of h .non
theorem EvD.toI (h : EvD K te σ H (.int i)) : Ev te σ H (.int i) := fun H1 e Q q => h H1 e Q fun v H2 e2 hd => dp_int hd ▸ q H2 e2
theorem EvD.toB (h : EvD K te σ H (.bool b)) : Ev te σ H (.bl b) := fun H1 e Q q => h H1 e Q fun v H2 e2 hd => dp_bool hd ▸ q H2 e2
theorem EvD.toS {s : Str} (h : EvD K te σ H (.str s)) : Ev te σ H (.str s) := fun H1 e Q q => h H1 e Q fun v H2 e2 hd => dp_str hd ▸ q H2 e2
theorem evd_var {n : Nat} (h : σ[n]? = some (some v)) (hd : Dp K H v d) : EvD K (tVar n) σ H d := evd_of (ev_var h) hd
theorem evd_int : EvD K (tC (.int i)) σ H (.int i) := evd_i ev_c
theorem evd_str {s : Str} : EvD K (tC (.str s)) σ H (.str s) := evd_s ev_c
theorem evd_bl : EvD K (tC (.bl b)) σ H (.bool b) := evd_b ev_c
theorem evd_non : EvD K (tC .non) σ H .none := evd_n ev_c
theorem evds_nil : EvDs K tNil σ H [] := fun H1 _ Q q => q [] H1 (Ex.refl H1) .nil
theorem evds_cons {tr : TA} (h : EvD K te σ H d) (hr : EvDs K tr σ H ds) : EvDs K (tCons te tr) σ H (d :: ds) := fun H1 e Q q =>
  h H1 e _ fun v H2 e2 hv => hr H2 (e.trans e2) _ fun vs H3 e3 hvs => q _ H3 (e2.trans e3) (.cons (dp_ex e3 hv) hvs)
theorem evd_call {sp : Sp} {E : XK} {ta : TA} (h : EvDs K ta σ H ds) (hs : SpD K sp ds d) : EvD K (tCall sp [] E ta) σ H d := fun H1 e Q q =>
  h H1 e _ fun vs H2 e2 hv => by
    rw [List.append_nil]
    exact hs vs H2 hv Q (fun v H3 e3 h3 => q v H3 (e2.trans e3) h3) E
theorem evd_tup {ta : TA} (h : EvDs K ta σ H ds) (hl : ds.length ≤ 100000) : EvD K (tTup ta) σ H (.tuple ds) := fun H1 e Q q =>
  h H1 e _ fun vs H2 e2 hv => ⟨by rw [dpa_len hv]; exact sz_of hl, fun p hp => q _ _ (e2.trans (Ex.new hp)) (.tup (st_of upd_same) (dpa_ex (Ex.new hp) hv))⟩
theorem evd_lst {ta : TA} (h : EvDs K ta σ H ds) (hl : ds.length ≤ 100000) : EvD K (tLst ta) σ H (.list ds) := fun H1 e Q q =>
  h H1 e _ fun vs H2 e2 hv => ⟨by rw [dpa_len hv]; exact sz_of hl, fun p hp => q _ _ (e2.trans (Ex.new hp)) (.lst (sq_of upd_same) (dpa_ex (Ex.new hp) hv))⟩
/-- the item at an int place -/
theorem dpa_atI {vs : List V} (h : DpAll K H vs ds) (ha : atI ds i = some d) : ∃ v, atI vs i = some v ∧ Dp K H v d := by
  obtain ⟨n, hn, hd⟩ := Option.bind_eq_some_iff.mp (show (ixN ds.length i).bind (fun j => ds[j]?) = some d from ha)
  obtain ⟨hlt, he⟩ := List.getElem?_eq_some_iff.mp hd
  obtain ⟨v, hv, hp⟩ := dpa_at h hlt
  refine ⟨v, ?_, he ▸ hp⟩
  show (ixN vs.length i).bind (fun j => vs[j]?) = some v
  rw [dpa_len h, hn]
  exact hv
theorem evd_ixL (ha : EvD K ta σ H (.list ds)) (hb : Ev tb σ H (.int i)) (h : atI ds i = some d) : EvD K (tOp (rIxL K) ta tb) σ H d := fun H1 e Q q =>
  ha H1 e _ fun v H2 e2 hv => hb H2 (e.trans e2) _ fun H3 e3 => by
    obtain ⟨a, xs, rfl, hs, hx⟩ := dp_list hv
    obtain ⟨w, hw, hp⟩ := dpa_atI hx h
    exact ⟨a, xs, i, w, rfl, rfl, ex_l e3 hs, hw, q w H3 (e2.trans e3) (dp_ex e3 hp)⟩
theorem evd_ixT (ha : EvD K ta σ H (.tuple ds)) (hb : Ev tb σ H (.int i)) (h : atI ds i = some d) : EvD K (tOp (rIxT K) ta tb) σ H d := fun H1 e Q q =>
  ha H1 e _ fun v H2 e2 hv => hb H2 (e.trans e2) _ fun H3 e3 => by
    obtain ⟨a, xs, rfl, hs, hx⟩ := dp_tup hv
    obtain ⟨w, hw, hp⟩ := dpa_atI hx h
    exact ⟨a, xs, i, w, rfl, rfl, ex_t e3 hs, hw, q w H3 (e2.trans e3) (dp_ex e3 hp)⟩
theorem ev_lenD (ha : EvD K ta σ H (.list ds)) : Ev (tCB (rLenQ K) (tCons ta tNil)) σ H (.int (ds.length : Int)) := fun H1 e Q q =>
  ha H1 e _ fun v H2 e2 hv => by
    obtain ⟨a, xs, rfl, hs, hx⟩ := dp_list hv
    refine ⟨a, xs, rfl, .inl hs, ?_⟩
    rw [dpa_len hx]
    exact q H2 e2
theorem ev_lenDT (ha : EvD K ta σ H (.tuple ds)) : Ev (tCB (rLenQ K) (tCons ta tNil)) σ H (.int (ds.length : Int)) := fun H1 e Q q =>
  ha H1 e _ fun v H2 e2 hv => by
    obtain ⟨a, xs, rfl, hs, hx⟩ := dp_tup hv
    refine ⟨a, xs, rfl, .inr hs, ?_⟩
    rw [dpa_len hx]
    exact q H2 e2
theorem dpa_drop : ∀ {vs : List V} {ds : List PyData} (n : Nat), DpAll K H vs ds → DpAll K H (vs.drop n) (ds.drop n)
  | _, _, 0, h => h
  | _, _, _ + 1, .nil => .nil
  | _, _, n + 1, .cons _ t => dpa_drop n t
theorem dpa_take : ∀ {vs : List V} {ds : List PyData} (n : Nat), DpAll K H vs ds → DpAll K H (vs.take n) (ds.take n)
  | _, _, 0, _ => .nil
  | _, _, _ + 1, .nil => .nil
  | _, _, n + 1, .cons h t => .cons h (dpa_take n t)
def cutD (xs : List PyData) (lo hi : Option Int) : List PyData := (xs.drop (HT.sIx xs.length 0 lo)).take (HT.sIx xs.length xs.length hi - HT.sIx xs.length 0 lo)
theorem dpa_cut {vs : List V} {lo hi : Option Int} (h : DpAll K H vs ds) : DpAll K H (cutV vs lo hi) (cutD ds lo hi) := by
  unfold cutV cutD
  rw [dpa_len h]
  exact dpa_take _ (dpa_drop _ h)
theorem evd_slL {tl th : TO} {lo hi : Option Int} (h : EvD K te σ H (.list ds)) (h1 : EvO tl σ H lo) (h2 : EvO th σ H hi) : EvD K (tSl (rSlL K) te tl th) σ H (.list (cutD ds lo hi)) := fun H0 e Q q =>
  h H0 e _ fun v H1 e1 hv => h1 H1 (e.trans e1) _ fun H2 e2 => h2 H2 ((e.trans e1).trans e2) _ fun H3 e3 => by
    obtain ⟨a, xs, rfl, hs, hx⟩ := dp_list hv
    refine ⟨a, xs, rfl, ex_l (e2.trans e3) hs, fun p hp => q _ _ (((e1.trans e2).trans e3).trans (Ex.new hp)) (.lst (sq_of upd_same) ?_)⟩
    exact dpa_ex (Ex.new hp) (dpa_cut (dpa_ex (e2.trans e3) hx))
/-- ==, != of data -/
theorem ev_eqD (ha : EvD K ta σ H d) (hb : EvD K tb σ H e) (sd : SeqAt.shaped d = true) (se : SeqAt.shaped e = true) : Ev (tOp (rEqD K) ta tb) σ H (.bl (PyData.eqv d e)) := fun H1 x Q q =>
  ha H1 x _ fun v H2 e2 hv => hb H2 (x.trans e2) _ fun u H3 e3 hu => ⟨d, e, dp_ex e3 hv, hu, sd, se, q H3 (e2.trans e3)⟩
theorem ev_neD (ha : EvD K ta σ H d) (hb : EvD K tb σ H e) (sd : SeqAt.shaped d = true) (se : SeqAt.shaped e = true) : Ev (tOp (rNeD K) ta tb) σ H (.bl (!PyData.eqv d e)) := fun H1 x Q q =>
  ha H1 x _ fun v H2 e2 hv => hb H2 (x.trans e2) _ fun u H3 e3 hu => ⟨d, e, dp_ex e3 hv, hu, sd, se, q H3 (e2.trans e3)⟩
def isNone : PyData → Bool
  | .none => true
  | _ => false
theorem isNone_iff {d : PyData} : isNone d = true ↔ d = .none := by cases d <;> simp [isNone]
theorem ev_isND (ha : EvD K ta σ H d) : Ev (tIsN ta) σ H (.bl (isNone d)) := fun H1 x Q q =>
  ha H1 x _ fun v H2 e2 hv => by
    have : decide (v = .non) = isNone d := by cases hv <;> simp [isNone]
    rw [this]
    exact q H2 e2
theorem ev_notND (ha : EvD K ta σ H d) : Ev (tNotN ta) σ H (.bl (!isNone d)) := fun H1 x Q q =>
  ha H1 x _ fun v H2 e2 hv => by
    have : decide (v = .non) = isNone d := by cases hv <;> simp [isNone]
    rw [this]
    exact q H2 e2
/-- a new list of data -/
def EvLD (K : PySem.W.Frag) (te : TE) (σ : L2.St) (H : Hp) (ds : List PyData) : Prop := ∀ H1, Ex H H1 → ∀ Q : VK, (∀ p vs H2, H1 p = none → Ex H1 H2 → H2 p = some (.lst vs) → DpAll K H2 vs ds → Q (.ref p) H2) → te σ H1 Q
theorem EvLD.toD (h : EvLD K te σ H ds) : EvD K te σ H (.list ds) := fun H1 e Q q => h H1 e Q fun p vs H2 _ e2 h2 hd => q _ H2 e2 (.lst (sq_of h2) hd)
theorem eld_lst {ta : TA} (h : EvDs K ta σ H ds) (hl : ds.length ≤ 100000) : EvLD K (tLst ta) σ H ds := fun H1 e Q q =>
  h H1 e _ fun vs H2 e2 hv => ⟨by rw [dpa_len hv]; exact sz_of hl, fun p hp => q p vs _ (fresh_back e2 hp) (e2.trans (Ex.new hp)) upd_same (dpa_ex (Ex.new hp) hv)⟩
theorem eld_list (ha : EvD K ta σ H (.list ds)) : EvLD K (tCB (rListQ K) (tCons ta tNil)) σ H ds := fun H1 e Q q =>
  ha H1 e _ fun v H2 e2 hv => by
    obtain ⟨a, xs, rfl, hs, hx⟩ := dp_list hv
    exact ⟨a, xs, rfl, .inl hs, fun l hl => q l xs _ (fresh_back e2 hl) (e2.trans (Ex.new hl)) upd_same (dpa_ex (Ex.new hl) hx)⟩
theorem eld_listT (ha : EvD K ta σ H (.tuple ds)) : EvLD K (tCB (rListQ K) (tCons ta tNil)) σ H ds := fun H1 e Q q =>
  ha H1 e _ fun v H2 e2 hv => by
    obtain ⟨a, xs, rfl, hs, hx⟩ := dp_tup hv
    exact ⟨a, xs, rfl, .inr hs, fun l hl => q l xs _ (fresh_back e2 hl) (e2.trans (Ex.new hl)) upd_same (dpa_ex (Ex.new hl) hx)⟩
theorem eld_sl {tl th : TO} {lo hi : Option Int} (h : EvD K te σ H (.list ds)) (h1 : EvO tl σ H lo) (h2 : EvO th σ H hi) : EvLD K (tSl (rSlL K) te tl th) σ H (cutD ds lo hi) := fun H0 e Q q =>
  h H0 e _ fun v H1 e1 hv => h1 H1 (e.trans e1) _ fun H2 e2 => h2 H2 ((e.trans e1).trans e2) _ fun H3 e3 => by
    obtain ⟨a, xs, rfl, hs, hx⟩ := dp_list hv
    refine ⟨a, xs, rfl, ex_l (e2.trans e3) hs, fun p hp => q p _ _ (fresh_back ((e1.trans e2).trans e3) hp) (((e1.trans e2).trans e3).trans (Ex.new hp)) upd_same ?_⟩
    exact dpa_ex (Ex.new hp) (dpa_cut (dpa_ex (e2.trans e3) hx))
/-! ### statements -/
theorem sd_asg {i : Nat} (h : EvD K te σ H d) (k : ∀ v H1, Ex H H1 → Dp K H1 v d → D.nx (σ.set i (some v)) H1) : tAsg te (gName i) D σ H := h H (Ex.refl H) _ fun v H1 e hv => k v H1 e hv
theorem qd_asg {i : Nat} (h : EvD K te σ H d) (k : ∀ v H1, Ex H H1 → Dp K H1 v d → tz D (σ.set i (some v)) H1) : tSeq (tAsg te (gName i)) tz D σ H := h H (Ex.refl H) _ fun v H1 e hv => k v H1 e hv
theorem sd_ret (h : EvD K te σ H d) (k : RetD K d H D.rt) : tRet te D σ H := h H (Ex.refl H) _ k
theorem sl_asg {i : Nat} (h : EvLD K te σ H ds) (k : ∀ p vs H1, H p = none → Ex H H1 → H1 p = some (.lst vs) → DpAll K H1 vs ds → D.nx (σ.set i (some (.ref p))) H1) : tAsg te (gName i) D σ H := h H (Ex.refl H) _ fun p vs H1 hp e h1 hd => k p vs H1 hp e h1 hd
theorem ql_asg {i : Nat} (h : EvLD K te σ H ds) (k : ∀ p vs H1, H p = none → Ex H H1 → H1 p = some (.lst vs) → DpAll K H1 vs ds → tz D (σ.set i (some (.ref p))) H1) : tSeq (tAsg te (gName i)) tz D σ H := h H (Ex.refl H) _ fun p vs H1 hp e h1 hd => k p vs H1 hp e h1 hd
/-- l.append(e), the list l at H -/
theorem qd_app {l : Addr} {xs : List V} (hl : H l = some (.lst xs)) (ha : Ev ta σ H (.ref l)) (h : EvD K te σ H d) (hz : xs.length < 100000) (k : ∀ v H1, Ex H H1 → Dp K H1 v d → tz D σ (upd H1 l (.lst (xs ++ [v])))) :
    tSeq (tDrop (tBM K "list" rAppend ta (tCons te tNil))) tz D σ H := ha H (Ex.refl H) _ fun H1 e1 =>
  ⟨Or.inl ⟨rfl, xs, sq_of (e1 l _ hl)⟩, h H1 e1 _ fun v H2 e2 hv => ⟨l, xs, v, rfl, rfl, e2 l _ (e1 l _ hl), sz_lt hz, k v H2 (e1.trans e2) hv⟩⟩
theorem sd_app {l : Addr} {xs : List V} (hl : H l = some (.lst xs)) (ha : Ev ta σ H (.ref l)) (h : EvD K te σ H d) (hz : xs.length < 100000) (k : ∀ v H1, Ex H H1 → Dp K H1 v d → D.nx σ (upd H1 l (.lst (xs ++ [v])))) :
    tDrop (tBM K "list" rAppend ta (tCons te tNil)) D σ H := ha H (Ex.refl H) _ fun H1 e1 =>
  ⟨Or.inl ⟨rfl, xs, sq_of (e1 l _ hl)⟩, h H1 e1 _ fun v H2 e2 hv => ⟨l, xs, v, rfl, rfl, e2 l _ (e1 l _ hl), sz_lt hz, k v H2 (e1.trans e2) hv⟩⟩
end
/-- all but the objects at these places is as it was -/
def ExO (L : List Addr) (H H' : Hp) : Prop := ∀ a o, a ∉ L → H a = some o → H' a = some o
theorem ExO.refl (L : List Addr) (H : Hp) : ExO L H H := fun _ _ _ h => h
theorem ExO.trans {L : List Addr} {H H1 H2 : Hp} (a : ExO L H H1) (b : ExO L H1 H2) : ExO L H H2 := fun x o n h => b x o n (a x o n h)
theorem ExO.of {L : List Addr} {H H' : Hp} (e : Ex H H') : ExO L H H' := fun a o _ h => e a o h
theorem ExO.upd {L : List Addr} {H H' : Hp} {p : Addr} {o : HO} (e : ExO L H H') (hp : p ∈ L) : ExO L H (L2.upd H' p o) := fun a u n h => by
  rw [upd_ne (fun z => n (by rw [z]; exact hp))]
  exact e a u n h
/-- what was not there at all may change -/
theorem ExO.ex {L : List Addr} {H0 H H' : Hp} (e0 : Ex H0 H) (e : ExO L H H') (hn : ∀ p ∈ L, H0 p = none) : Ex H0 H' := fun a o h =>
  e a o (fun hm => by rw [hn a hm] at h; cases h) (e0 a o h)
end My

namespace My
open PySem PySem.Spec PyProof.Rows L2 Evl
section
variable {K : PySem.W.Frag} {σ : L2.St} {H H' : Hp} {ta tb te tx : TE} {t u : TT} {x y z v : V} {D : Ends} {tu tw tz : TS} {g : TG} {d e : PyData} {ds es : List PyData} {i j : Int} {b : Bool}
/-- a call whose first argument is a new list -/
theorem ev_callL {sp : Sp} {E : XK} {tr : TA} {xs vs : List V} (h : EvL te σ H xs) (hr : EvA tr σ H vs) (hs : ∀ p H1, Ex H H1 → H1 p = some (.lst xs) → SpV sp (.ref p :: vs) H1 z) : Ev (tCall sp [] E (tCons te tr)) σ H z := fun H1 e Q q =>
  h H1 e _ fun p H2 hp e2 h2 => hr H2 (e.trans e2) _ fun H3 e3 => by
    show sp ((V.ref p :: vs) ++ []) H3 Q E
    rw [List.append_nil]
    exact hs p H3 ((e.trans e2).trans e3) (e3 _ _ h2) H3 (Ex.refl H3) Q (fun H4 e4 => q H4 ((e2.trans e3).trans e4)) E
theorem dpa_strs : ∀ ws : List Str, DpAll K H (ws.map V.str) (ws.map PyData.str)
  | [] => .nil
  | n :: r => .cons (.str n) (dpa_strs r)
theorem dn_strs {ws : List Str} {n : Nat} (h : ws.length ≤ 40000) : Dn (n + 1) (.list (ws.map PyData.str)) := by
  simp only [Dn, List.length_map]
  refine ⟨h, fun d hd => ?_⟩
  obtain ⟨x, _, rfl⟩ := List.mem_map.mp hd
  simp [Dn]
theorem dp_strs {a : Addr} {ws : List Str} (h : SqL K H a (ws.map V.str)) : Dp K H (.ref a) (.list (ws.map PyData.str)) := .lst h (dpa_strs ws)
theorem dp_ints {a : Addr} {ns : List Int} (h : SqL K H a (ns.map V.int)) : Dp K H (.ref a) (.list (ns.map PyData.int)) := .lst h (dpa_ints ns)
theorem q_whenF (h : EvT t σ H false) (k : ∀ H1, Ex H H1 → tz D σ H1) : tSeq (tIfS t tu tNext) tz D σ H := q_when (b := false) h (fun z => nomatch z) fun _ H1 e => k H1 e
theorem s_whenF (h : EvT t σ H false) (k : ∀ H1, Ex H H1 → D.nx σ H1) : tIfS t tu tNext D σ H := s_when (b := false) h (fun z => nomatch z) fun _ H1 e => k H1 e
theorem et_notT (h : EvT t σ H true) : EvT (tNot t) σ H false := et_not h
/-- for over a list that stands, behind it a word B -/
theorem q_forL' {a : Addr} {xs : List V} {tl : TE} (h : Ev tl σ H (.ref a)) (hx : SqL K H a xs) (Pv : Nat → L2.St → Hp → Prop) (B : L2.St → Hp → Prop) (h0 : ∀ H1, Ex H H1 → Pv 0 σ H1) (hl : ∀ i σ' H', i ≤ xs.length → Pv i σ' H' → SqL K H' a xs)
    (hs : ∀ i x σ' H', xs[i]? = some x → Pv i σ' H' → g x σ' H' fun σ2 H2 => tu { D with nx := Pv (i + 1), ct := Pv (i + 1), bk := B } σ2 H2) (hd : ∀ σ' H', Pv xs.length σ' H' → B σ' H')
    (hb : ∀ σ' H', B σ' H' → tz D σ' H') : tCut (tFor (iList K tl) g tu) tz D σ H :=
  ⟨B, h H (Ex.refl H) _ fun H1 e => ⟨a, rfl, ⟨xs, ex_l e hx⟩, for_list Pv (h0 H1 e) hl hs hd⟩, hb⟩
/-- .. over what an expression gives -/
theorem q_forD' {tl : TE} (h : EvD K tl σ H (.list ds)) (Pv : Addr → List V → Nat → L2.St → Hp → Prop) (B : L2.St → Hp → Prop) (h0 : ∀ a vs H1, Ex H H1 → SqL K H1 a vs → DpAll K H1 vs ds → Pv a vs 0 σ H1) (hl : ∀ a vs i σ' H', i ≤ vs.length → Pv a vs i σ' H' → SqL K H' a vs)
    (hs : ∀ a vs i x σ' H', vs[i]? = some x → Pv a vs i σ' H' → g x σ' H' fun σ2 H2 => tu { D with nx := Pv a vs (i + 1), ct := Pv a vs (i + 1), bk := B } σ2 H2) (hd : ∀ a vs σ' H', Pv a vs vs.length σ' H' → B σ' H')
    (hb : ∀ σ' H', B σ' H' → tz D σ' H') : tCut (tFor (iList K tl) g tu) tz D σ H :=
  ⟨B, h H (Ex.refl H) _ fun v H1 e hv => by
    obtain ⟨a, vs, rfl, hs2, hx⟩ := dp_list hv
    exact ⟨a, rfl, ⟨vs, hs2⟩, for_list (Pv a vs) (h0 a vs H1 e hs2 hx) (hl a vs) (hs a vs) (hd a vs)⟩, hb⟩
end
end My
namespace My
open PySem PySem.Spec PyProof.Rows L2 Evl
section
variable {K : PySem.W.Frag} {σ : L2.St} {H H' : Hp} {ta tb te tx ti t1 t2 : TE} {t u : TT} {x y z v : V} {D : Ends} {tu tw tz : TS} {g : TG} {d e : PyData} {ds es : List PyData} {i j : Int} {b : Bool}
/-- one of two new lists, by a place -/
theorem el_two {xs x1 x2 : List V} (h1 : EvL t1 σ H x1) (h2 : EvL t2 σ H x2) (hi : Ev ti σ H (.int i)) (hc : (i = 0 ∧ xs = x1) ∨ (i = 1 ∧ xs = x2)) : EvL (tOp (rIxL K) (tLst (tCons t1 (tCons t2 tNil))) ti) σ H xs := fun H1 e Q q =>
  h1 H1 e _ fun p1 H2 n1 e2 l1 => h2 H2 (e.trans e2) _ fun p2 H3 n2 e3 l2 => ⟨by show 2 ≤ sizeLine; decide, fun p hp => by
    have E3 := (e2.trans e3).trans (Ex.new (o := .lst [.ref p1, .ref p2]) hp)
    refine hi _ (e.trans E3) _ fun H4 e4 => ?_
    have a1 : H4 p1 = some (.lst x1) := e4 _ _ ((Ex.new hp) _ _ (e3 _ _ l1))
    have a2 : H4 p2 = some (.lst x2) := e4 _ _ ((Ex.new hp) _ _ l2)
    rcases hc with ⟨rfl, rfl⟩ | ⟨rfl, rfl⟩
    · exact ⟨p, [.ref p1, .ref p2], 0, .ref p1, rfl, rfl, sq_of (e4 _ _ upd_same), rfl, q p1 H4 n1 (E3.trans e4) a1⟩
    · exact ⟨p, [.ref p1, .ref p2], 1, .ref p2, rfl, rfl, sq_of (e4 _ _ upd_same), rfl, q p2 H4 (fresh_back e2 n2) (E3.trans e4) a2⟩⟩
theorem q_forNL' {xs : List V} {tl : TE} (h : EvL tl σ H xs) (Pv : Addr → Nat → L2.St → Hp → Prop) (B : L2.St → Hp → Prop) (h0 : ∀ p H1, H p = none → Ex H H1 → H1 p = some (.lst xs) → Pv p 0 σ H1) (hl : ∀ p i σ' H', i ≤ xs.length → Pv p i σ' H' → SqL K H' p xs)
    (hs : ∀ p i x σ' H', xs[i]? = some x → Pv p i σ' H' → g x σ' H' fun σ2 H2 => tu { D with nx := Pv p (i + 1), ct := Pv p (i + 1), bk := B } σ2 H2) (hd : ∀ p σ' H', Pv p xs.length σ' H' → B σ' H')
    (hb : ∀ σ' H', B σ' H' → tz D σ' H') : tCut (tFor (iList K tl) g tu) tz D σ H :=
  ⟨B, h H (Ex.refl H) _ fun p H1 hp e h1 => ⟨p, rfl, ⟨xs, sq_of h1⟩, for_list (Pv p) (h0 p H1 hp e h1) (hl p) (hs p) (hd p)⟩, hb⟩
end
end My

namespace My
open PySem PySem.Spec PyProof.Rows L2 Evl
/-! ### classes by their names -/
structure MkOk (P : Program) (w : World) (K : PySem.W.Frag) (mg : Str → Option Value) (base : Heap) (k : Nat) (x : Str) (C : Addr) (ps : List Str) (dvs : List V) (sp : Sp) : Prop where
  ex : ∃ (f : Addr) (fd : FuncData) (ds : List Value), mg x = some (.ref C) ∧ Mk K C f ∧ Binds K fd ps ds ∧ Vals dvs ds ∧ FnOk P w K mg base CX0 k f fd ps sp
structure MethOk (P : Program) (w : World) (K : PySem.W.Frag) (mg : Str → Option Value) (base : Heap) (CX : CXT) (k : Nat) (C : Addr) (m : Str) (ps : List Str) (dvs : List V) (sp : Sp) : Prop where
  cls : Cls K C
  ex : ∃ (f : Addr) (fd : FuncData) (ds : List Value), Meth K C m f ∧ Binds K fd ps ds ∧ Vals dvs ds ∧ FnOk P w K mg base CX k f fd ps sp
structure DefOkX (P : Program) (w : World) (K : PySem.W.Frag) (mg : Str → Option Value) (base : Heap) (k : Nat) (x : Str) (ps : List Str) (sp : Sp) : Prop where
  ex : ∃ (f : Addr) (fd : FuncData), mg x = some (.ref f) ∧ PySem.W.keepIn K (.ref f) = true ∧ Binds K fd ps [] ∧ FnOk P w K mg base (L2.CX P w) k f fd ps sp
/-- o.m(..) that may raise: E at the slots -/
def tMethS (C : Addr) (m : Str) (sp : Sp) (E : L2.St → XK) (ta : TE) (t : TA) : TE := fun σ H Q => ta σ H fun x H1 => ∃ a dx fs, x = .ref a ∧ H1 a = some (.ins C dx fs) ∧ fs.lookup m = none ∧
  t σ H1 fun vs H2 => sp (x :: vs) H2 Q (E σ)
section
variable {X : Cx} {k j : Nat} {x m : Str} {C : Addr} {ps : List Str} {dvs : List V} {sp : Sp} {p pos apos : Pos} {e o : Expr} {es : List Expr} {ta : TE} {t : TA} {W : WX}
theorem pe_makeN (D : MkOk X.prog X.w X.K X.mg X.base k x C ps dvs sp) (hr : Room j X.A) (ha : PA X (e :: es) t) (hk : k + 1 ≤ j := by decide) (hg : Gl X x := by rfl) (hdb : (x == ("__debug__" : Str)) = false := by decide)
    (he : starEach (e :: es) X.env = (false, eval e X.env) :: starEach es X.env := by rfl) (hpl : (backTo pos (starEach es X.env)).any (·.1) = false := by rfl) : PE X (.Call (.Name x p) (e :: es) [] pos) (tMake C sp dvs E0 t) := by
  obtain ⟨f, fd, ds, h1, h2, h3, h4, h5⟩ := D.ex
  exact pe_make h2 h5 (hr.mono hk) hg h1 h3 h4 pass0 ha hdb he hpl
theorem pe_makeN0 (D : MkOk X.prog X.w X.K X.mg X.base k x C ps dvs sp) (hr : Room j X.A) (hk : k + 1 ≤ j := by decide) (hg : Gl X x := by rfl) (hdb : (x == ("__debug__" : Str)) = false := by decide) : PE X (.Call (.Name x p) [] [] pos) (tMake C sp dvs E0 tNil) := by
  obtain ⟨f, fd, ds, h1, h2, h3, h4, h5⟩ := D.ex
  exact pe_make0 h2 h5 (hr.mono hk) hg h1 h3 h4 pass0 hdb
theorem pe_methN {pl : Sem Bool} (D : MethOk X.prog X.w X.K X.mg X.base CX0 k C m ps dvs sp) (ho : PE X o ta) (hr : Room j X.A) (ha : PA X (e :: es) t) (hk : k ≤ j := by decide)
    (hst : starEach (e :: es) X.env = (false, eval e X.env) :: starEach es X.env := by rfl) (hpl : (backTo pos (starEach es X.env)).any (·.1) = false := by rfl)
    (ht : eval (.Call (.Attribute o m apos) (e :: es) [] pos) X.env = (do
      let ov ← eval o X.env
      standAt apos.atName
      let (f, first) ← holding [ov] (getMethod ov m pl)
      callWith pos f first (backTo pos (starEach (e :: es) X.env)) (backToKw pos (keywordEach [] X.env))) := by rfl) :
    PE X (.Call (.Attribute o m apos) (e :: es) [] pos) (tMeth C m sp dvs E0 ta t) := by
  obtain ⟨f, fd, ds, h1, h2, h3, h4⟩ := D.ex
  exact pe_meth ho D.cls h1 h4 (hr.mono hk) h2 h3 pass0 ha hst hpl ht
theorem pe_methN0 {pl : Sem Bool} (D : MethOk X.prog X.w X.K X.mg X.base CX0 k C m ps dvs sp) (ho : PE X o ta) (hr : Room j X.A) (hk : k ≤ j := by decide)
    (ht : eval (.Call (.Attribute o m apos) [] [] pos) X.env = (do
      let ov ← eval o X.env
      standAt apos.atName
      let (f, first) ← holding [ov] (getMethod ov m pl)
      callWith pos f first (backTo pos (starEach [] X.env)) (backToKw pos (keywordEach [] X.env))) := by rfl) :
    PE X (.Call (.Attribute o m apos) [] [] pos) (tMeth C m sp dvs E0 ta tNil) := by
  obtain ⟨f, fd, ds, h1, h2, h3, h4⟩ := D.ex
  exact pe_meth0 ho D.cls h1 h4 (hr.mono hk) h2 h3 pass0 ht
theorem pe_callNX (D : DefOkX X.prog X.w X.K X.mg X.base k x ps sp) (hr : Room j X.A) (tk : Takes X W)
    (ha : PA X (e :: es) t) (hk : k ≤ j := by decide) (hg : Gl X x := by rfl) (hdb : (x == ("__debug__" : Str)) = false := by decide) (he : starEach (e :: es) X.env = (false, eval e X.env) :: starEach es X.env := by rfl) (hpl : (backTo pos (starEach es X.env)).any (·.1) = false := by rfl) :
    PE X (.Call (.Name x p) (e :: es) [] pos) (tCallS sp (WE W) t) := by
  obtain ⟨f, fd, h1, h2, h3, h5⟩ := D.ex
  exact pe_callS h5 (hr.mono hk) hg h1 h2 h3 (fun σ => passAt tk σ) ha hdb he hpl
theorem pe_methNX {pl : Sem Bool} (D : MethOk X.prog X.w X.K X.mg X.base (L2.CX X.prog X.w) k C m ps [] sp) (ho : PE X o ta) (hr : Room j X.A) (tk : Takes X W) (ha : PA X (e :: es) t) (hk : k ≤ j := by decide)
    (hst : starEach (e :: es) X.env = (false, eval e X.env) :: starEach es X.env := by rfl) (hpl : (backTo pos (starEach es X.env)).any (·.1) = false := by rfl)
    (ht : eval (.Call (.Attribute o m apos) (e :: es) [] pos) X.env = (do
      let ov ← eval o X.env
      standAt apos.atName
      let (f, first) ← holding [ov] (getMethod ov m pl)
      callWith pos f first (backTo pos (starEach (e :: es) X.env)) (backToKw pos (keywordEach [] X.env))) := by rfl) :
    PE X (.Call (.Attribute o m apos) (e :: es) [] pos) (tMethS C m sp (WE W) ta t) := by
  obtain ⟨f, fd, ds, hm, hb, hd, F⟩ := D.ex
  cases hd
  refine ⟨fun pins s σ H Q I h => ?_⟩
  refine PySem.W.methodCall_KW (pl := pl) (thn (ho.run pins s σ H _ I h) fun u s1 ⟨x, H1, I1, rx, a, dx, fs, ex, ea, l, q⟩ => ?_) ht
  subst ex
  obtain rfl : u = Value.ref a := rx
  refine getmeth_ok I1 ea D.cls hm l ?_
  refine PySem.W.callWith_K (first := [.ref a]) (h₀ := X.base) I.ok.mod.kin hm.kp (thn (ha.run pos pins s1 σ H1 _ I1 q) fun us s2 ⟨vs, H2, I2, r, q2⟩ => ⟨I2.kIn, ?_⟩) hst hpl
  exact run_fnS (us := .ref a :: us) (vs := .ref a :: vs) (E := WE W) F (hr.mono hk) hb (passAt tk σ) I2 (.cons rfl r) q2
/-! ### own errors -/
/-- AccessError.__init__(self, ..), the base's own maker reached through a class of the program -/
theorem pe_baseinit (K : PySem.W.Frag) {B : Addr} {pl : Sem Bool} (hm : X.mg x = some (.ref B)) (rd : PySem.W.readsIn K B (.type "type") = true) (ga : PySem.W.specialIn K (.ref B) "__getattribute__" = some (some (.builtin "type.__getattribute__")))
    (vV : PySem.W.findCls K (.ref B) (.type "type") "__init__" = some (.val (.builtin "ValueError.__init__"))) (ha : PA X (e :: es) t) (hg : Gl X x := by rfl) (hdb : (x == ("__debug__" : Str)) = false := by decide) (hK : X.K = K := by rfl)
    (hc : eval (.Call (.Attribute (.Name x p) "__init__" apos) (e :: es) [] pos) X.env = (do
      let ov ← eval (.Name x p) X.env
      standAt apos.atName
      let (f, first) ← holding [ov] (getMethod ov "__init__" pl)
      callWith pos f first (backTo pos (starEach (e :: es) X.env)) (backToKw pos (keywordEach [] X.env))) := by rfl)
    (he : starEach (e :: es) X.env = (false, eval e X.env) :: starEach es X.env := by rfl) (hpl : (backTo pos (starEach es X.env)).any (·.1) = false := by rfl) :
    PE X (.Call (.Attribute (.Name x p) "__init__" apos) (e :: es) [] pos) (tVeI K t) := by
  subst hK
  refine ⟨fun pins s σ H Q I h => ?_⟩
  refine PySem.W.methodCall_KW (ld_glob I hg hm ?_ hdb) hc
  refine PySem.W.method_cls I.kIn ga (PySem.W.cls_value I.kIn rd vV (by decide +kernel) ?_)
  show wpAny _ _ (callWith pos (Value.builtin "ValueError.__init__") [] (backTo pos (starEach (e :: es) X.env)) []) _ _ _
  refine PyProof.Rows.callWith_method1 (thn (ha.run pos pins _ σ H _ (I.tok _) h) fun us s1 ⟨vs, H1, I1, r1, a, C, ws, ev, hl, T, ea, q⟩ => ?_) he hpl
  subst ev
  cases r1 with
  | @cons _ u0 _ ur ra rw' =>
    obtain rfl : u0 = Value.ref a := ra
    have hlen : ur.length ≤ sizeLine := by
      have := Paired.length rw'
      rw [sizeLine_eq]
      omega
    exact oinit_ok T I1 ea hlen fun s' J => ⟨.non, H1, J, rfl, q⟩
end
end My
namespace My
open PySem PySem.Spec PyProof.Rows L2 Evl
/-! ### facts of error classes, read off the top by a Bool -/
def eCls (K : PySem.W.Frag) (C : Addr) : Bool := match K.lookup C with
  | some o => (match o.cls, o.data with
    | .type ty, .cls cd => (match cd.mro, o.slots.toList with
      | .ref D :: bm, [_, _, _, _, some (.builtin n), _] => decide (ty = "type") && (decide (D = C) && (decide (n = "ValueError.__new__") && (!cd.hasDel && (cd.hasDict && PySem.HandSPX.refsVE bm))))
      | _, _ => false)
    | _, _ => false)
  | none => false
theorem eCls_ok {K : PySem.W.Frag} {C : Addr} (h : eCls K C = true) :
    ∃ nm q N bs bm sn sub ab col dd k0 k1 k2 k3 k5, K.lookup C = some (excClassObj nm q C N bs bm true sn sub ab col dd k0 k1 k2 k3 k5 "ValueError.__new__") ∧ PySem.HandSPX.refsVE bm = true := by
  unfold eCls at h
  split at h
  · rename_i o ho
    split at h
    · rename_i ty cd hc hd
      split at h
      · rename_i D bm k0 k1 k2 k3 n k5 hm hs
        simp only [Bool.and_eq_true, decide_eq_true_eq, Bool.not_eq_true'] at h
        obtain ⟨rfl, rfl, rfl, h4, h5, h6⟩ := h
        obtain ⟨oc, od, dt, sl⟩ := o
        obtain ⟨nm, bs, mro, N, q, hdct, sn, sub, ab, col, del⟩ := cd
        dsimp only at hc hd hm hs h4 h5
        subst hc hd hm h4 h5
        have e : sl = #[k0, k1, k2, k3, some (.builtin "ValueError.__new__"), k5] := by
          rw [← hs, Array.toArray_toList]
        subst e
        exact ⟨nm, q, N, bs, bm, sn, sub, ab, col, od, k0, k1, k2, k3, k5, ho, h6⟩
      · cases h
    · cases h
  · cases h
inductive Fx where
  | oex (x : Str)
  | base (x : Str)
  | xf (x : Str)
  | kit (x c : Str) (b : Bool)
  | kitT (x : Str) (n : String) (b : Bool)
def Fx.ok (K : PySem.W.Frag) : Fx → Bool
  | .oex x => eCls K (He.ga K x) && (decide (PySem.W.findIn K (.ref (He.ga K x)) "__setattr__" = some (some (.builtin "object.__setattr__"))) && (decide (PySem.W.subIn K (.ref (He.ga K x)) (.type "BaseException") = some true) &&
      (decide (PySem.W.typeIn K (.ref (He.ga K x)) = some (.type "type")) && (PySem.W.keepIn K (.ref (He.ga K x)) && (decide (PySem.W.findIn K (.ref (He.ga K x)) "__init__" = some (some (.ref (He.ma K (He.ga K x) "__init__")))) &&
      decide (PySem.W.typeIn K (.ref (He.ma K (He.ga K x) "__init__")) = some (.type "function")))))))
  | .base x => PySem.W.readsIn K (He.ga K x) (.type "type") && (decide (PySem.W.specialIn K (.ref (He.ga K x)) "__getattribute__" = some (some (.builtin "type.__getattribute__"))) && (match PySem.W.findCls K (.ref (He.ga K x)) (.type "type") "__init__" with
    | some (.val (.builtin n)) => decide (n = "ValueError.__init__")
    | _ => false))
  | .xf x => xfB K (He.ga K x) && (decide (PySem.W.findIn K (.ref (He.ga K x)) "__class__" = some (some (.builtin "object.__class__"))) && (decide (PySem.W.specialIn K (.builtin "object.__class__") "__get__" = some (some (.builtin "getset_descriptor.__get__"))) &&
      (decide (PySem.W.takesIn K (.builtin "object.__class__") = some true) && decide (PySem.W.mroIn K (He.ga K x) (.type "object") = some true))))
  | .kit x c b => decide (PySem.W.kitOne K (.ref (He.ga K x)) (.ref (He.ga K c)) = some b)
  | .kitT x n b => decide (PySem.W.kitOne K (.ref (He.ga K x)) (.type n) = some b)
section
variable {K : PySem.W.Frag}
theorem oex_ok {x : Str} (h : (Fx.oex x).ok K = true) : OexC K (He.ga K x) ∧ PySem.W.findIn K (.ref (He.ga K x)) "__init__" = some (some (.ref (He.ma K (He.ga K x) "__init__"))) ∧ PySem.W.typeIn K (.ref (He.ma K (He.ga K x) "__init__")) = some (.type "function") := by
  obtain ⟨h1, h⟩ := He.ba h
  obtain ⟨h2, h⟩ := He.ba h
  obtain ⟨h3, h⟩ := He.ba h
  obtain ⟨h4, h⟩ := He.ba h
  obtain ⟨h5, h⟩ := He.ba h
  obtain ⟨h6, h7⟩ := He.ba h
  exact ⟨⟨eCls_ok h1, of_decide_eq_true h2, of_decide_eq_true h3, of_decide_eq_true h4, h5⟩, of_decide_eq_true h6, of_decide_eq_true h7⟩
theorem base_ok {x : Str} (h : (Fx.base x).ok K = true) : PySem.W.readsIn K (He.ga K x) (.type "type") = true ∧ PySem.W.specialIn K (.ref (He.ga K x)) "__getattribute__" = some (some (.builtin "type.__getattribute__")) ∧
    PySem.W.findCls K (.ref (He.ga K x)) (.type "type") "__init__" = some (.val (.builtin "ValueError.__init__")) := by
  obtain ⟨h1, h⟩ := He.ba h
  obtain ⟨h2, h3⟩ := He.ba h
  refine ⟨h1, of_decide_eq_true h2, ?_⟩
  split at h3
  · rename_i n hn
    rw [hn, of_decide_eq_true h3]
  · cases h3
structure XcC (K : PySem.W.Frag) (C : Addr) : Prop where
  x : XfC K C
  c : PySem.W.findIn K (.ref C) "__class__" = some (some (.builtin "object.__class__"))
  n : PySem.W.specialIn K (.builtin "object.__class__") "__get__" = some (some (.builtin "getset_descriptor.__get__"))
  t : PySem.W.takesIn K (.builtin "object.__class__") = some true
  m : PySem.W.mroIn K C (.type "object") = some true
theorem xf_ok {x : Str} (h : (Fx.xf x).ok K = true) : XcC K (He.ga K x) := by
  obtain ⟨h1, h⟩ := He.ba h
  obtain ⟨h2, h⟩ := He.ba h
  obtain ⟨h3, h⟩ := He.ba h
  obtain ⟨h4, h5⟩ := He.ba h
  exact ⟨xfB_ok h1, of_decide_eq_true h2, of_decide_eq_true h3, of_decide_eq_true h4, of_decide_eq_true h5⟩
end
/-- isinstance(e, c), isinstance(e, (c, ..)) of the error that the suite holds -/
def rIsX (K : PySem.W.Frag) (D a : Addr) (cls : Value) (d : Option Addr) : List V → Hp → VK → Prop := fun xs H Q => cls = .ref D ∧ (∃ dd fs, d = some dd ∧ H dd = some (.xd fs)) ∧
  ((∃ (c : V) (cv : Value) (b : Bool), xs = [.ref a, c] ∧ ClsV c cv ∧ PySem.W.kitOne K (.ref D) cv = some b ∧ Q (.bl b) H) ∨
    ∃ (tp : Addr) (cs : List V) (us : List Value) (b : Bool), xs = [.ref a, .ref tp] ∧ H tp = some (.tup cs) ∧ Paired ClsV cs us ∧ PySem.W.kitAny K (.ref D) us = some b ∧ Q (.bl b) H)
theorem call_isX {X : Cx} (K : PySem.W.Frag) {a D : Addr} {oe : Obj} {cls : Value} {d : Option Addr} {pn : List (Addr × Obj)} (C : XcC K D) (hz : Zc cls d oe) (hf : ∃ vs, oe.data = .fields vs) (hK : X.K = K := by rfl) :
    CallR (X.suite a ((a, oe) :: pn)) (.builtin "isinstance") (rIsX K D a cls d) := by
  subst hK
  intro pins s σ H xs us Q I r h
  obtain ⟨ec, ⟨dd, fs, ed, hdd⟩, h⟩ := h
  subst ec
  subst ed
  obtain ⟨hget, _⟩ := I.pin (a, oe) (List.mem_append.mpr (.inl List.mem_cons_self))
  obtain ⟨vs, hv⟩ := hf
  have hx : ObjOk X.prog X.w H s.heap dd (.xd fs) := I.hok dd _ hdd
  obtain ⟨mA, hns, _⟩ := hx
  obtain ⟨od, ho, _⟩ := lookIn_ns hns
  have J : PySem.W.InstAt s.heap a oe D (some od) := ⟨hget, hz.1, by unfold PySem.W.notCls; rw [hv] <;> rfl, by rw [hz.2]; exact ho⟩
  have hcl : (PySem.W.clsIn X.K D).isSome = true := by
    obtain ⟨cd, hc, _⟩ := PySem.W.any_some C.x.hdC
    rw [hc]
    rfl
  have Z := PySem.W.kitx_exc (x := a) (ox := oe) (od := some od) hcl C.x.ga C.x.gg C.x.exC C.c C.n C.t C.m
  rcases h with ⟨c, cv, b, rfl, hc, e, q⟩ | ⟨tp, cs, ws, b, rfl, hT, hc, e, q⟩
  · cases r with
    | cons rx rr =>
      cases rr with
      | cons rt rr =>
        cases rr
        cases rx
        have ec := hc.eq rt
        subst ec
        exact PySem.W.kia_one Z I.kIn J e (fun z => nomatch z) fun tk => ⟨.bl b, H, I.tok tk, rfl, q⟩
  · obtain ⟨u1, u2, rfl, r1, r2⟩ := vals2 r
    cases r1
    cases r2
    obtain ⟨_, its, rv, o, h1, h2, n, h3⟩ := (show ObjOk X.prog X.w H s.heap tp (.tup cs) from I.hok tp _ hT)
    have e3 := ClsV.all hc rv
    subst e3
    obtain ⟨oc, od2, dt, sl⟩ := o
    simp only at h2 h3
    subst h2 h3
    exact PySem.W.kia_tup Z I.kIn J h1 e (fun z => nomatch z) fun tk => ⟨.bl b, H, I.tok tk, rfl, q⟩
/-- e.f of the error that the suite holds -/
theorem pe_xfK {X : Cx} (K : PySem.W.Frag) {a C : Addr} {oe : Obj} {cls : Value} {d : Option Addr} {pn : List (Addr × Obj)} {e : Expr} {te : TE} {pos : Pos} {n : Str} (T : XcC K C) (hno : PySem.W.findIn K (.ref C) n = some none)
    (hz : Zc cls d oe) (hf : ∃ vs, oe.data = .fields vs) (he : PE (X.suite a ((a, oe) :: pn)) e te) (hK : X.K = K := by rfl) (hb : attributeBase e n X.env (eval e X.env) = eval e X.env := by rfl) :
    PE (X.suite a ((a, oe) :: pn)) (.Attribute e n pos) (tXf a cls d C n te) := by
  subst hK
  exact pe_xf T.x hno hz hf he hb
/-! ### an error with two, one fields: __init__, raise -/
/-- what a def wishes of an error of the class C with these fields -/
def RaiseR (C : Addr) (fs : List (Str × V)) (H : Hp) (E : XK) : Prop := ∀ d H', H d = none → Ex H H' → H' d = some (.xd fs) → E (.ref C) (some d) H'
theorem RaiseR.go {C : Addr} {fs : List (Str × V)} {H H1 : Hp} {E : XK} (k : RaiseR C fs H E) (e : Ex H H1) : RaiseR C fs H1 E := fun d H' hd e2 h => k d H' (fresh_back e hd) (e.trans e2) h
/-- __init__ of an error of the class C: its arguments' values are vs, its fields afterwards fs -/
def spXinit (K : PySem.W.Frag) (C : Addr) (ok : List V → Prop) (fs : List V → List (Str × V)) : Sp := fun vs H Q _ => ∃ (a : Addr) (ws : List V), vs = .ref a :: ws ∧ ok ws ∧ H a = some (exo a C none) ∧
  ∀ (d : Addr) (H' : Hp), H d = none → d ≠ a → H' a = some (exo a C (some d)) → H' d = some (exd d (fs ws)) → (∀ b o, b ≠ a → H b = some o → H' b = some o) → Q .non H'
structure XMkOk (P : Program) (w : World) (K : PySem.W.Frag) (mg : Str → Option Value) (base : Heap) (k : Nat) (x : Str) (C : Addr) (ps : List Str) (sp : Sp) : Prop where
  ex : ∃ (f : Addr) (fd : FuncData), mg x = some (.ref C) ∧ OexC K C ∧ PySem.W.findIn K (.ref C) "__init__" = some (some (.ref f)) ∧ PySem.W.typeIn K (.ref f) = some (.type "function") ∧ Binds K fd ps [] ∧ FnOk P w K mg base CX0 k f fd ps sp
theorem ps_raiseX {X : Cx} {W : WX} {e : Expr} {es : List Expr} {t : TA} {k j : Nat} {x : Str} {C : Addr} {ps : List Str} {sp : Sp} {p pos pos2 : Pos} (D : XMkOk X.prog X.w X.K X.mg X.base k x C ps sp) (hr : Room j X.A) (hc : X.calm = true) (tk : Takes X W) (ha : PA X (e :: es) t)
    (hk : k + 1 ≤ j := by decide) (hg : Gl X x := by rfl) (hdb : (x == ("__debug__" : Str)) = false := by decide) (he : starEach (e :: es) X.env = (false, eval e X.env) :: starEach es X.env := by rfl) (hpl : (backTo pos (starEach es X.env)).any (·.1) = false := by rfl) :
    PS X (.Raise (some (.Call (.Name x p) (e :: es) [] pos)) none pos2) (fun _ σ H => tMkO C sp [] t σ H fun cls d H' => W cls d σ H') := by
  obtain ⟨f, fd, h1, h2, h3, h4, h5, h6⟩ := D.ex
  exact ps_raise hc tk (pmk_oex h2 h3 h4 h6 (hr.mono hk) h5 .nil (fun _ _ _ _ _ _ _ h => h.elim) hg h1 ha hdb he hpl)
/-- what raising asks -/
theorem raise_ask {K : PySem.W.Frag} {C : Addr} {ok : List V → Prop} {fs : List V → List (Str × V)} {ta : TA} {σ : L2.St} {H : Hp} {Q : XK} {vs : List V} (ha : EvA ta σ H vs) (h0 : ok vs) (hl : vs.length ≤ 1000)
    (q : ∀ H1, Ex H H1 → RaiseR C (fs vs) H1 Q) : tMkO C (spXinit K C ok fs) [] ta σ H Q := ha H (Ex.refl H) _ fun H1 e1 => ⟨hl, fun a na => ⟨a, vs, by rw [List.append_nil], h0, upd_same, fun d H' nd da h1 h2 kp => ⟨rfl, d, fs vs, h1, h2, by
    rw [upd_ne da] at nd
    exact nd, by
    have nd' : H1 d = none := by
      rw [upd_ne da] at nd
      exact nd
    refine q H1 e1 d _ nd' (fun b o hb => ?_) upd_same
    have hba : b ≠ a := ne_of_none hb na
    have hbd : b ≠ d := ne_of_none hb nd'
    rw [upd_ne hbd, del_ne hba]
    exact kp b o hba (by rw [upd_ne hba]; exact hb)⟩⟩⟩
end My
namespace My
open PySem PySem.Spec PyProof.Rows L2 Evl
/-! ### the facts of a top with classes and errors -/
structure TxE (fa : List He.Fa) (fn : List He.DefD) (fx : List Fx) (K : PySem.W.Frag) (mg : Str → Option Value) : Prop where
  tx : Tx fa fn K mg
  more : (fx.all fun f => f.ok K) = true
theorem TxE.fx {fa : List He.Fa} {fn : List He.DefD} {fx : List Fx} {K : PySem.W.Frag} {mg : Str → Option Value} (T : TxE fa fn fx K mg) (i : Nat) {f : Fx} (h : fx[i]? = some f := by rfl) : f.ok K = true :=
  List.all_eq_true.mp T.more f (List.mem_of_getElem? h)
theorem TxE.mk' {fa : List He.Fa} {fn : List He.DefD} {fx : List Fx} {K : PySem.W.Frag} {w : World} {h h0 : Heap} {mg : Str → Option Value} (X : K.In h) (G : h.Ns mainGlobals mg) (c : He.SaysX fa fn [] [] (fun K => fx.all fun f => f.ok K) w h0 K) : TxE fa fn fx K mg :=
  ⟨Tx.mk' X G c.t.d, c.more⟩
/-- what the names reach in n steps and the statics (readsIn asks them), and the facts there -/
def farE (g : Addr → Option Obj) (n : Nat) : PySem.W.Frag := He.frG g (He.asD g n ++ [cStatics])
def lookE (n : Nat) (fa : List He.Fa) (fn : List He.DefD) (fx : List Fx) (g : Addr → Option Obj) : Bool × He.AlD := (fx.all fun f => f.ok (farE g n), He.obsD fa fn (farE g n))
def hookE (n : Nat) (fa : List He.Fa) (fn : List He.DefD) (fx : List Fx) : PySem.W.Hook where
  α := Bool × He.AlD
  obs := fun s => lookE n fa fn fx s.heap.get?
  val := fun _ => (true, He.valD fn)
  says := fun _ h => ∃ K : PySem.W.Frag, K.In h ∧ ((fx.all fun f => f.ok K) = true ∧ He.SaysD fa fn K)
  of := fun _ _ e => ⟨_, He.frG_in, congrArg (fun z : Bool × He.AlD => z.1) e, congrArg (fun z : Bool × He.AlD => z.2) e⟩
  keeps := fun _ _ _ ⟨K, hK, c⟩ k => ⟨K, PySem.W.Frag.In.keeps hK k, c⟩
theorem lookE_eq {n : Nat} {fa : List He.Fa} {fn : List He.DefD} {fx : List Fx} {g : Addr → Option Obj} {s : Shared} (h : ∀ a, g a = s.heap.get? a) : lookE n fa fn fx g = (hookE n fa fn fx).obs s := by
  have e : g = s.heap.get? := funext h
  subst e
  rfl
theorem TxE.of {fa : List He.Fa} {fn : List He.DefD} {fx : List Fx} {K : PySem.W.Frag} {h : Heap} {mg : Str → Option Value} (X : K.In h) (G : h.Ns mainGlobals mg) (c : (fx.all fun f => f.ok K) = true ∧ He.SaysD fa fn K) : TxE fa fn fx K mg := ⟨Tx.mk' X G c.2, c.1⟩
theorem MethOk.of {P : Program} {w : World} {K : PySem.W.Frag} {mg : Str → Option Value} {base : Heap} {CX : CXT} {k : Nat} {C : Addr} {m qual : Str} {ps : List Str} {sp : Sp} {st : Stmt} {fd : FuncData} {f : Addr} (F : FunD K m qual (defArgs st) (defBody st) (defScope st) [] [] f fd)
    (c : Cls K C) (hm : Meth K C m f) (b : Binds K fd ps []) (h : FnOk P w K mg base CX k f fd ps sp) : MethOk P w K mg base CX k C m ps [] sp := ⟨c, f, fd, [], hm, b, .nil, h⟩
theorem DefOkX.of {P : Program} {w : World} {K : PySem.W.Frag} {mg : Str → Option Value} {base : Heap} {k : Nat} {x : Str} {ps : List Str} {sp : Sp} {st : Stmt} {fd : FuncData} {f : Addr} (F : FunD K x x (defArgs st) (defBody st) (defScope st) [] [] f fd)
    (g : mg x = some (.ref f)) (b : Binds K fd ps []) (h : FnOk P w K mg base (L2.CX P w) k f fd ps sp) : DefOkX P w K mg base k x ps sp := ⟨f, fd, g, F.kp, b, h⟩
end My
namespace My
open PySem PySem.Spec PyProof.Rows L2 Evl
/-! ### a op b op c op d, as a test -/
def tChain3 (r r' r'' : R2) (ta tb tc td : TE) : TE := fun σ H Q => ta σ H fun x H1 => tb σ H1 fun y H2 => r x y H2 fun z H3 => ∃ k, z = .bl k ∧
  (if k = true then tc σ H3 fun u H4 => r' y u H4 fun z' H5 => ∃ k', z' = .bl k' ∧ (if k' = true then td σ H5 fun v H6 => r'' u v H6 Q else Q (.bl false) H5) else Q (.bl false) H3)
theorem pt_chain3 {X : Cx} {a b c d : Expr} {pos : Pos} {op op' op'' : CmpOp} {r r' r'' : R2} {ta tb tc td : TE} (ho : OpR X (compareOp op) r) (ho' : OpR X (compareOp op') r') (ho'' : OpR X (compareOp op'') r'') (ha : PE X a ta) (hb : PE X b tb) (hc : PE X c tc) (hd : PE X d td)
    (hm : lastMarks [op, op', op''] [b, c, d] = false := by with_unfolding_all rfl) : PT X (.Compare a [op, op', op''] [b, c, d] pos) (tTest (tChain3 r r' r'' ta tb tc td)) := by
  refine ⟨fun pins s σ H Q I h => isTrue_chain (thn (ha.run pins s σ H _ I h) fun v s1 g1 => ?_) hm⟩
  obtain ⟨x, H1, I1, r1, q1⟩ := g1
  refine test_link (thn (hb.run pins s1 σ H1 _ I1 q1) fun u s2 g2 => ?_)
  obtain ⟨y, H2, I2, r2, q2⟩ := g2
  refine thn (ho pins s2 σ H2 x y v u _ I2 r1 r2 q2) fun w s3 g3 => ?_
  obtain ⟨z, H3, I3, r3, k, rfl, q3⟩ := g3
  cases r3
  refine wpAny_truthy_bool ?_
  cases k with
  | false =>
    obtain ⟨k', e', q'⟩ := q3
    cases e'
    exact ite_ff ⟨H3, I3, q'⟩
  | true =>
    refine ite_tt (test_link (thn (hc.run pins s3 σ H3 _ I3 q3) fun u' s4 g4 => ?_))
    obtain ⟨y', H4, I4, r4, q4⟩ := g4
    refine thn (ho' pins s4 σ H4 y y' u u' _ I4 r2 r4 q4) fun w' s5 g5 => ?_
    obtain ⟨z', H5, I5, r5, k5, rfl, q5⟩ := g5
    cases r5
    refine wpAny_truthy_bool ?_
    cases k5 with
    | false =>
      obtain ⟨k', e', q'⟩ := q5
      cases e'
      exact ite_ff ⟨H5, I5, q'⟩
    | true =>
      refine ite_tt (test_last (thn (hd.run pins s5 σ H5 _ I5 q5) fun u6 s6 g6 => ?_))
      obtain ⟨y6, H6, I6, r6, q6⟩ := g6
      refine thn (ho'' pins s6 σ H6 y' y6 u' u6 _ I6 r4 r6 q6) fun w7 s7 g7 => ?_
      obtain ⟨z7, H7, I7, r7, k7, rfl, q7⟩ := g7
      cases r7
      exact wpAny_truthy_bool ⟨H7, I7, q7⟩
section
variable {σ : L2.St} {H : Hp} {ta tb tc td : TE}
theorem et_chain3 {f g h : Int → Int → Bool} {i j k l : Int} (ha : Ev ta σ H (.int i)) (hb : Ev tb σ H (.int j)) (hc : Ev tc σ H (.int k)) (hd : Ev td σ H (.int l)) :
    EvT (tTest (tChain3 (rI0 fun i j => .bl (f i j)) (rI0 fun i j => .bl (g i j)) (rI0 fun i j => .bl (h i j)) ta tb tc td)) σ H (f i j && (g j k && h k l)) := fun H1 e1 Q q =>
  ha H1 e1 _ fun H2 e2 => hb H2 (e1.trans e2) _ fun H3 e3 => ⟨i, j, rfl, rfl, f i j, rfl, by
    revert q
    cases f i j with
    | false => exact fun q => iteF ⟨_, rfl, q H3 (e2.trans e3)⟩
    | true =>
      intro q
      refine iteT (hc H3 ((e1.trans e2).trans e3) _ fun H4 e4 => ⟨j, k, rfl, rfl, g j k, rfl, ?_⟩)
      revert q
      cases g j k with
      | false => exact fun q => iteF ⟨_, rfl, q H4 ((e2.trans e3).trans e4)⟩
      | true => exact fun q => iteT (hd H4 (((e1.trans e2).trans e3).trans e4) _ fun H5 e5 => ⟨k, l, rfl, rfl, _, rfl, q H5 (((e2.trans e3).trans e4).trans e5)⟩)⟩
theorem ev_chain {f g : Int → Int → Bool} {i j k : Int} (ha : Ev ta σ H (.int i)) (hb : Ev tb σ H (.int j)) (hc : Ev tc σ H (.int k)) :
    Ev (tChain (rI0 fun i j => .bl (f i j)) (rI0 fun i j => .bl (g i j)) ta tb tc) σ H (.bl (f i j && g j k)) := fun H1 e1 Q q =>
  ha H1 e1 _ fun H2 e2 => hb H2 (e1.trans e2) _ fun H3 e3 => ⟨i, j, rfl, rfl, f i j, rfl, by
    revert q
    cases f i j with
    | false => exact fun q => iteF (q H3 (e2.trans e3))
    | true => exact fun q => iteT (hc H3 ((e1.trans e2).trans e3) _ fun H4 e4 => ⟨j, k, rfl, rfl, q H4 ((e2.trans e3).trans e4)⟩)⟩
end
end My
namespace My
open PySem PySem.Spec PyProof.Rows L2 Evl
/-! ### f-strings -/
theorem str_len_app (a b : Str) : (a ++ b).length = a.length + b.length := by
  show (a.cps ++ b.cps).size = a.cps.size + b.cps.size
  exact Array.size_append
section
variable {σ : L2.St} {H : Hp} {t te : TE} {ts : List TE} {acc y out : Str}
def EvJ (ts : List TE) (acc : Str) (σ : L2.St) (H : Hp) (out : Str) : Prop := ∀ H1, Ex H H1 → ∀ Q : Str → Hp → Prop, (∀ H2, Ex H1 H2 → Q out H2) → tJs ts acc σ H1 Q
theorem ej_nil : EvJ [] acc σ H acc := fun H1 _ Q q => q H1 (Ex.refl H1)
theorem ej_cons (h : Ev t σ H (.str y)) (r : EvJ ts (acc ++ y) σ H out) (hl : (acc ++ y).length ≤ sizeLine) : EvJ (t :: ts) acc σ H out := fun H1 e Q q =>
  h H1 e _ fun H2 e2 => ⟨y, rfl, hl, r H2 (e.trans e2) Q fun H3 e3 => q H3 (e2.trans e3)⟩
theorem ev_joined (h : EvJ ts Str.empty σ H out) : Ev (fun σ H Q => tJs ts Str.empty σ H fun out H1 => Q (.str out) H1) σ H (.str out) := fun H1 e Q q => h H1 e _ q
def small (i : Int) : Prop := i.natAbs < 2 ^ 1000
theorem log_ok {i : Int} (h : small i) : i.natAbs.log2 < 1920 := Nat.lt_of_lt_of_le (PySem.Flt.log2_lt_of (by decide) h) (by decide)
theorem fmt_int {i : Int} (h : Ev te σ H (.int i)) (hs : small i) : Ev (tFmt te) σ H (.str (toString i)) := fun H1 e Q q => h H1 e _ fun H2 e2 => .inr ⟨i, rfl, log_ok hs, q H2 e2⟩
theorem fmt_str {x : Str} (h : Ev te σ H (.str x)) (hs : x.length ≤ 10000) : Ev (tFmt te) σ H (.str x) := fun H1 e Q q => h H1 e _ fun H2 e2 => .inl ⟨x, rfl, sz_of (by omega), q H2 e2⟩
theorem small_len {i : Int} (h : small i) : (Str.ofString (toString i)).length ≤ 1921 := int_text_len_1921 (log_ok h)
theorem small_of {i : Int} (h1 : -(2 ^ 62) ≤ i) (h2 : i ≤ 2 ^ 62) : small i := by
  have : i.natAbs ≤ 2 ^ 62 := by omega
  exact Nat.lt_of_le_of_lt this (by decide)
end
/-- an error's two fields, stored by its __init__ -/
theorem ost_first {K : PySem.W.Frag} {f : Str} {to te : TE} {σ : L2.St} {H : Hp} {D : Ends} {tz : TS} {a C : Addr} {y : V} (he : Ev te σ H y) (ho : Ev to σ H (.ref a)) (T : OexC K C) (hn : PySem.W.findIn K (.ref C) f = some none) (ha : H a = some (exo a C none))
    (k : ∀ dx H1, Ex H H1 → H1 dx = none → dx ≠ a → tz D σ (upd (upd H1 dx (exd dx [(f, y)])) a (exo a C (some dx)))) : tSeq (tOst K f to te) tz D σ H := he H (Ex.refl H) _ fun H1 e1 => ho H1 e1 _ fun H2 e2 =>
  ⟨a, C, rfl, T, hn, .inl ⟨e2 _ _ (e1 _ _ ha), fun dx n ne => k dx H2 (e1.trans e2) n ne⟩⟩
theorem ost_last {K : PySem.W.Frag} {f : Str} {to te : TE} {σ : L2.St} {H : Hp} {D : Ends} {a C dx : Addr} {fs : List (Str × V)} {y : V} (he : Ev te σ H y) (ho : Ev to σ H (.ref a)) (T : OexC K C) (hn : PySem.W.findIn K (.ref C) f = some none) (ha : H a = some (exo a C (some dx))) (hd : H dx = some (exd dx fs)) (hl : fs.length ≤ 900)
    (k : ∀ H1, Ex H H1 → D.nx σ (upd H1 dx (exd dx ((f, y) :: fs)))) : tOst K f to te D σ H := he H (Ex.refl H) _ fun H1 e1 => ho H1 e1 _ fun H2 e2 =>
  ⟨a, C, rfl, T, hn, .inr ⟨dx, fs, e2 _ _ (e1 _ _ ha), e2 _ _ (e1 _ _ hd), hl, k H2 (e1.trans e2)⟩⟩
end My

namespace My
open PySem PySem.Spec PyProof.Rows L2 Evl
/-! ### fields of own instances, made by their class -/
theorem lk_hit {f : Str} {v : V} {r : List (Str × V)} : ((f, v) :: r).lookup f = some v := by simp [List.lookup]
theorem lk_miss {f g : Str} {v : V} {r : List (Str × V)} (h : f ≠ g) : ((g, v) :: r).lookup f = r.lookup f := by
  have : (f == g) = false := beq_eq_false_iff_ne.mpr h
  simp [List.lookup, this]
theorem put_hit {f : Str} {v x : V} {r : List (Str × V)} : putF f v ((f, x) :: r) = (f, v) :: r := by simp [putF]
theorem put_miss {f g : Str} {v x : V} {r : List (Str × V)} (h : g ≠ f) : putF f v ((g, x) :: r) = (g, x) :: putF f v r := by
  show (if g = f then _ else _) = _
  rw [if_neg h]
section
variable {K : PySem.W.Frag} {σ : L2.St} {H H' : Hp} {ta tb te tx tv : TE} {t u : TT} {x y z v : V} {D : Ends} {tu tw tz : TS} {g : TG} {i j : Int} {b : Bool} {C a dx : Addr} {fs : List (Str × V)} {f : Str}
theorem ev_fld (h : Ev ta σ H (.ref a)) (ha : H a = some (.ins C dx fs)) (c : Cls K C) (n : NoAttr K C f) (l : fs.lookup f = some v) : Ev (tFld K ta f) σ H v := fun H1 e Q q => h H1 e _ fun H2 e2 =>
  ⟨a, C, dx, fs, v, rfl, (e.trans e2) _ _ ha, c, n, l, q H2 e2⟩
theorem q_fld (hv : Ev tv σ H y) (ho : Ev ta σ H (.ref a)) (ha : H a = some (.ins C dx fs)) (c : Cls K C) (n : NoAttr K C f) (l : fs.length < 1000) (k : ∀ H1, Ex H H1 → tz D σ (upd H1 a (.ins C dx (putF f y fs)))) : tSeq (sFld K ta tv f) tz D σ H :=
  hv H (Ex.refl H) _ fun H1 e1 => ho H1 e1 _ fun H2 e2 => ⟨a, C, dx, fs, rfl, (e1.trans e2) _ _ ha, c, n, l, k H2 (e1.trans e2)⟩
theorem s_fld (hv : Ev tv σ H y) (ho : Ev ta σ H (.ref a)) (ha : H a = some (.ins C dx fs)) (c : Cls K C) (n : NoAttr K C f) (l : fs.length < 1000) (k : ∀ H1, Ex H H1 → D.nx σ (upd H1 a (.ins C dx (putF f y fs)))) : sFld K ta tv f D σ H :=
  hv H (Ex.refl H) _ fun H1 e1 => ho H1 e1 _ fun H2 e2 => ⟨a, C, dx, fs, rfl, (e1.trans e2) _ _ ha, c, n, l, k H2 (e1.trans e2)⟩
/-- a value of some kind, told by a predicate of the heap -/
def EvP (te : TE) (σ : L2.St) (H : Hp) (P : V → Hp → Prop) : Prop := ∀ H1, Ex H H1 → ∀ Q : VK, (∀ v H2, Ex H1 H2 → P v H2 → Q v H2) → te σ H1 Q
theorem qp_fld {P : V → Hp → Prop} (hv : EvP tv σ H P) (ho : Ev ta σ H (.ref a)) (hP : ∀ v H1 H2, Ex H1 H2 → P v H1 → P v H2) (ha : H a = some (.ins C dx fs)) (c : Cls K C) (n : NoAttr K C f) (l : fs.length < 1000) (k : ∀ y H1, Ex H H1 → P y H1 → tz D σ (upd H1 a (.ins C dx (putF f y fs)))) : tSeq (sFld K ta tv f) tz D σ H :=
  hv H (Ex.refl H) _ fun y H1 e1 p => ho H1 e1 _ fun H2 e2 => ⟨a, C, dx, fs, rfl, (e1.trans e2) _ _ ha, c, n, l, k y H2 (e1.trans e2) (hP _ _ _ e2 p)⟩
theorem qu_fld {xs : List V} (hv : EvU tv σ H xs) (ho : Ev ta σ H (.ref a)) (ha : H a = some (.ins C dx fs)) (c : Cls K C) (n : NoAttr K C f) (l : fs.length < 1000) (k : ∀ p H1, H p = none → Ex H H1 → H1 p = some (.tup xs) → tz D σ (upd H1 a (.ins C dx (putF f (.ref p) fs)))) : tSeq (sFld K ta tv f) tz D σ H :=
  hv H (Ex.refl H) _ fun p H1 n1 e1 h1 => ho H1 e1 _ fun H2 e2 => ⟨a, C, dx, fs, rfl, (e1.trans e2) _ _ ha, c, n, l, k p H2 n1 (e1.trans e2) (e2 _ _ h1)⟩
theorem su_fld {xs : List V} (hv : EvU tv σ H xs) (ho : Ev ta σ H (.ref a)) (ha : H a = some (.ins C dx fs)) (c : Cls K C) (n : NoAttr K C f) (l : fs.length < 1000) (k : ∀ p H1, H p = none → Ex H H1 → H1 p = some (.tup xs) → D.nx σ (upd H1 a (.ins C dx (putF f (.ref p) fs)))) : sFld K ta tv f D σ H :=
  hv H (Ex.refl H) _ fun p H1 n1 e1 h1 => ho H1 e1 _ fun H2 e2 => ⟨a, C, dx, fs, rfl, (e1.trans e2) _ _ ha, c, n, l, k p H2 n1 (e1.trans e2) (e2 _ _ h1)⟩
/-- tuple(x), x a list or a tuple: a tuple -/
theorem evp_tup {l : Addr} {xs : List V} (h : Ev te σ H (.ref l)) (hs : SqL K H l xs ∨ SqT K H l xs) : EvP (tCB (rTupQ K) (tCons te tNil)) σ H fun v H2 => ∃ p, v = .ref p ∧ SqT K H2 p xs := fun H1 e Q q =>
  h H1 e _ fun H2 e2 => ⟨l, xs, rfl, by
    rcases hs with hs | hs
    · exact .inl ⟨ex_l (e.trans e2) hs, fun p hp => q _ _ (e2.trans (Ex.new hp)) ⟨p, rfl, st_of upd_same⟩⟩
    · exact .inr ⟨ex_t (e.trans e2) hs, q _ _ e2 ⟨l, rfl, ex_t (e.trans e2) hs⟩⟩⟩
/-- tuple(a new list), tuple(a list): a new tuple -/
theorem eu_tupN {xs : List V} (h : EvL te σ H xs) : EvU (tCB (rTupQ K) (tCons te tNil)) σ H xs := fun H1 e Q q =>
  h H1 e _ fun p H2 n e2 h2 => ⟨p, xs, rfl, .inl ⟨sq_of h2, fun l hl => q l _ (fresh_back e2 hl) (e2.trans (Ex.new hl)) upd_same⟩⟩
theorem eu_tupL {l : Addr} {xs : List V} (h : Ev te σ H (.ref l)) (hs : SqL K H l xs) : EvU (tCB (rTupQ K) (tCons te tNil)) σ H xs := fun H1 e Q q =>
  h H1 e _ fun H2 e2 => ⟨l, xs, rfl, .inl ⟨ex_l (e.trans e2) hs, fun p hp => q p _ (fresh_back e2 hp) (e2.trans (Ex.new hp)) upd_same⟩⟩
theorem ev_sumN {ns : List Int} {xs : List V} (h : EvL te σ H xs) (hx : xs = ns.map V.int) : Ev (tCB (rSum K) (tCons te tNil)) σ H (.int ns.sum) := fun H1 e Q q =>
  h H1 e _ fun p H2 n e2 h2 => ⟨p, ns, rfl, sq_of (hx ▸ h2), q H2 e2⟩
theorem sqt_keep {p : Addr} {o o2 : HO} {xs : List V} (hp : H p = some o2) (h1 : ∀ xs, o2 ≠ .tup xs) (h2 : ∀ c d, o2 ≠ .frz c d) (h : SqT K H a xs) : SqT K (upd H p o) a xs := by
  rcases h with (h | ⟨c, h⟩) | h
  · refine .inl (.inl ?_)
    rw [upd_ne]
    · exact h
    · intro z
      subst z
      rw [hp] at h
      exact h1 _ (Option.some.inj h)
  · refine .inl (.inr ⟨c, ?_⟩)
    rw [upd_ne]
    · exact h
    · intro z
      subst z
      rw [hp] at h
      exact h2 _ _ (Option.some.inj h)
  · exact .inr h
/-- for over reversed(a tuple), behind it a word B -/
theorem q_forRevT {xs : List V} (h : Ev te σ H (.ref a)) (hx : SqT K H a xs) (Pv : Nat → L2.St → Hp → Prop) (B : L2.St → Hp → Prop) (h0 : ∀ H1, Ex H H1 → Pv 0 σ H1) (hl : ∀ i σ' H', Pv i σ' H' → SqT K H' a xs)
    (hs : ∀ (i : Nat) x σ' H', i < xs.length → xs[xs.length - 1 - i]? = some x → Pv i σ' H' → g x σ' H' fun σ2 H2 => tu { D with nx := Pv (i + 1), ct := Pv (i + 1), bk := B } σ2 H2) (hd : ∀ σ' H', Pv xs.length σ' H' → B σ' H')
    (hb : ∀ σ' H', B σ' H' → tz D σ' H') : tCut (tFor (RT.iRevA K te) g tu) tz D σ H :=
  ⟨B, h H (Ex.refl H) _ fun H1 e => ⟨a, xs, rfl, .inr ⟨ex_t e hx, RT.for_ItvT Pv (h0 H1 e) hl hs hd⟩⟩, hb⟩
/-- a comprehension over zip of two tuples of one length -/
theorem el_lcZT {ta : TA} {a b : Addr} {xs ys : List V} {n m : Nat} {vs : List Nat} (v : Nat → V) (h : EvA ta σ H [.ref a, .ref b]) (hx : SqT K H a xs) (hy : SqT K H b ys) (hl : xs.length = ys.length) (hz : xs.length ≤ 40000)
    (hw : ∀ x y, wipe (((wipe σ vs).set n (some x)).set m (some y)) vs = wipe σ vs)
    (he : ∀ (i : Nat) (x y : V) H1, Ex H H1 → xs[i]? = some x → ys[i]? = some y → Ev te (((wipe σ vs).set n (some x)).set m (some y)) H1 (v i)) :
    EvL (tLc (RZ.iZipA K ta) (gTup K 2 (gCons (gName n) (gCons (gName m) gNil))) tYes te vs) σ H (given xs.length (fun _ => true) v) := fun H0 e Q q => h H0 e _ fun H1 e1 =>
  ⟨a, b, xs, ys, rfl, .inr ⟨ex_t (e.trans e1) hx, ex_t (e.trans e1) hy, fun Dl hD =>
    ⟨fun i k Hi => k = xs.length - i ∧ i ≤ xs.length ∧ Cw H1 (fun _ => true) v Dl i Hi, ⟨xs.length, rfl, Nat.zero_le _, hD, Ex.new hD, upd_same⟩, by
      rintro i k Hi ⟨rfl, hi, p⟩
      have qx := ex_t ((e.trans e1).trans p.2.1) hx
      have qy := ex_t ((e.trans e1).trans p.2.1) hy
      by_cases hlt : i < xs.length
      · have hlt2 : i < ys.length := by omega
        refine .inr ⟨⟨xs, ys, _, _, qx, qy, List.getElem?_eq_getElem hlt, List.getElem?_eq_getElem hlt2⟩, Cw H1 (fun _ => true) v Dl (i + 1), fun H' p' => ⟨xs.length - (i + 1), by omega, rfl, hlt, p'⟩, fun u Hu yy => ?_⟩
        obtain ⟨T, x', y', rfl, hT, rfl, f1, f2⟩ := yy
        have gx := f1 xs qx
        have gy := f2 ys qy
        have hTD : T ≠ Dl := fun z => by
          rw [z, p.2.2] at hT
          cases hT
        have p2 : Cw H1 (fun _ => true) v Dl i (upd Hi T (.tup [x', y'])) := ⟨p.1, p.2.1.trans (Ex.new hT), by rw [upd_ne hTD.symm]; exact p.2.2⟩
        exact ⟨T, [x', y'], rfl, st_of upd_same, rfl, x', [y'], rfl, y', [], rfl, rfl, hw _ _, cw_turn (t := tYes) p2 (by omega) (fun H3 e3 Q3 q3 => q3 H3 (Ex.refl H3)) fun _ => he i x' y' H1 (e.trans e1) gx gy⟩
      · have ei : i = xs.length := by omega
        subst ei
        exact .inl ⟨⟨xs, ys, qx, qy, .inl (Nat.le_refl _)⟩, q Dl Hi (fresh_back e1 p.1) (e1.trans p.2.1) p.2.2⟩⟩⟩⟩
end
end My
namespace My
open PySem PySem.Spec PyProof.Rows L2 Evl
section
variable {K : PySem.W.Frag} {σ : L2.St} {H H' : Hp} {ta tb te tx tv : TE} {t u : TT} {x y z v : V} {D : Ends} {tu tw tz : TS} {g : TG} {i j : Int} {b : Bool} {C a dx : Addr} {fs : List (Str × V)} {f : Str}
theorem takes0 {X : Cx} : Takes X (fun _ _ _ _ => False) := fun _ _ x => by
  obtain ⟨_, _, _, _, _, _, _, _, _, _, _, _, _, _, _, _, z⟩ := x
  exact z.elim
theorem given_all {zs : List V} {n : Nat} (hn : zs.length = n) : given n (fun _ => true) (fun i => zs.getD i .non) = zs := by
  subst hn
  unfold given
  rw [List.filter_eq_self.mpr (by simp)]
  refine List.ext_getElem? fun i => ?_
  rw [List.getElem?_map]
  by_cases h : i < zs.length
  · rw [List.getElem?_range h, List.getElem?_eq_getElem h]
    simp [List.getD, h]
  · rw [List.getElem?_eq_none (by simpa using h), List.getElem?_eq_none (by omega)]
    rfl
theorem getD_some {zs : List V} {i : Nat} {n : Nat} (hn : zs.length = n) (h : i < n) : zs[i]? = some (zs.getD i .non) := by
  subst hn
  rw [List.getElem?_eq_getElem h]
  simp [List.getD, h]
/-- a comprehension over zip of two tuples: its items are zs -/
theorem el_zipT {ta : TA} {a b : Addr} {xs ys zs : List V} {n m : Nat} {vs : List Nat} (h : EvA ta σ H [.ref a, .ref b]) (hx : SqT K H a xs) (hy : SqT K H b ys) (hl : xs.length = ys.length) (hzs : zs.length = xs.length) (hz : xs.length ≤ 40000)
    (hw : ∀ x y, wipe (((wipe σ vs).set n (some x)).set m (some y)) vs = wipe σ vs)
    (he : ∀ (i : Nat) (x y z : V) H1, Ex H H1 → xs[i]? = some x → ys[i]? = some y → zs[i]? = some z → Ev te (((wipe σ vs).set n (some x)).set m (some y)) H1 z) :
    EvL (tLc (RZ.iZipA K ta) (gTup K 2 (gCons (gName n) (gCons (gName m) gNil))) tYes te vs) σ H zs := by
  have q := el_lcZT (te := te) (fun i => zs.getD i .non) h hx hy hl hz hw fun i x y H1 e hx' hy' => he i x y _ H1 e hx' hy' (getD_some hzs (by
    have := (List.getElem?_eq_some_iff.mp hx').1
    omega))
  rwa [given_all hzs] at q
theorem et_yes : EvT tYes σ H true := fun H1 _ _ q => q H1 (Ex.refl H1)
/-- .. over a range, without a test -/
theorem el_rng {ta : TA} {j : Nat} {vs : List Nat} {n : Int} {zs : List V} (h : EvA ta σ H [.int n]) (hn : 0 ≤ n ∧ n ≤ 40000) (hzs : zs.length = n.toNat) (hw : ∀ x, wipe ((wipe σ vs).set j (some x)) vs = wipe σ vs)
    (he : ∀ (i : Nat) (z : V) H1, Ex H H1 → (i : Int) < n → zs[i]? = some z → Ev te ((wipe σ vs).set j (some (.int (i : Int)))) H1 z) :
    EvL (tLc (iRng1 ta) (gName j) tYes te vs) σ H zs := by
  have q := el_lcR1 (t := tYes) (te := te) (fun _ => true) (fun i => zs.getD i .non) h hn hw (fun i H1 _ _ => et_yes) fun i H1 e hi _ => he i _ H1 e hi (getD_some hzs (by omega))
  rwa [given_all hzs] at q
end
end My
namespace My
open PySem PySem.Spec PyProof.Rows L2 Evl
/-! ### methods; calls that may raise -/
section
variable {K : PySem.W.Frag} {σ : L2.St} {H H' : Hp} {ta tb te tx tv : TE} {t : TA} {x y z v : V} {D : Ends} {tu tw tz : TS} {C a dx : Addr} {fs : List (Str × V)} {m : Str} {sp : Sp} {E : XK} {ES : L2.St → XK} {vs : List V} {Q : VK} {d : PyData}
theorem cs_ask (ht : EvA t σ H vs) (k : ∀ H1, Ex H H1 → sp vs H1 Q (ES σ)) : tCallS sp ES t σ H Q := ht H (Ex.refl H) _ k
theorem ms_ask (ho : Ev ta σ H (.ref a)) (hi : H a = some (.ins C dx fs)) (hm : fs.lookup m = none) (ht : EvA t σ H vs) (k : ∀ H1, Ex H H1 → sp (.ref a :: vs) H1 Q (ES σ)) : tMethS C m sp ES ta t σ H Q := ho H (Ex.refl H) _ fun H1 e1 =>
  ⟨a, dx, fs, rfl, e1 _ _ hi, hm, ht H1 e1 _ fun H2 e2 => k H2 (e1.trans e2)⟩
theorem mm_ask (ho : Ev ta σ H (.ref a)) (hi : H a = some (.ins C dx fs)) (hm : fs.lookup m = none) (ht : EvA t σ H vs) (k : ∀ H1, Ex H H1 → sp (.ref a :: vs) H1 Q E) : tMeth C m sp [] E ta t σ H Q := ho H (Ex.refl H) _ fun H1 e1 =>
  ⟨a, dx, fs, rfl, e1 _ _ hi, hm, ht H1 e1 _ fun H2 e2 => by
    rw [List.append_nil]
    exact k H2 (e1.trans e2)⟩
theorem ev_callS (ht : EvA t σ H vs) (k : SpV sp vs H z) : Ev (tCallS sp ES t) σ H z := fun H1 e Q q => cs_ask (ht.mono e) fun H2 e2 => k H2 (e.trans e2) Q (fun H3 e3 => q H3 (e2.trans e3)) _
theorem ev_methS (ho : Ev ta σ H (.ref a)) (hi : H a = some (.ins C dx fs)) (hm : fs.lookup m = none) (ht : EvA t σ H vs) (k : SpV sp (.ref a :: vs) H z) : Ev (tMethS C m sp ES ta t) σ H z := fun H1 e Q q =>
  ms_ask (ho.mono e) (e _ _ hi) hm (ht.mono e) fun H2 e2 => k H2 (e.trans e2) Q (fun H3 e3 => q H3 (e2.trans e3)) _
theorem ev_meth (ho : Ev ta σ H (.ref a)) (hi : H a = some (.ins C dx fs)) (hm : fs.lookup m = none) (ht : EvA t σ H vs) (k : SpV sp (.ref a :: vs) H z) : Ev (tMeth C m sp [] E ta t) σ H z := fun H1 e Q q =>
  mm_ask (ho.mono e) (e _ _ hi) hm (ht.mono e) fun H2 e2 => k H2 (e.trans e2) Q (fun H3 e3 => q H3 (e2.trans e3)) _
/-- what a call gives is data -/
def SpVD (K : PySem.W.Frag) (sp : Sp) (vs : List V) (H : Hp) (d : PyData) : Prop := ∀ H1, Ex H H1 → ∀ Q : VK, RetD K d H1 Q → ∀ E : XK, sp vs H1 Q E
theorem evd_callV (ht : EvA t σ H vs) (k : SpVD K sp vs H d) : EvD K (tCall sp [] E t) σ H d := fun H1 e Q q => ht H1 e _ fun H2 e2 => by
  show sp (vs ++ []) H2 Q E
  rw [List.append_nil]
  exact k H2 (e.trans e2) Q (fun v H3 e3 hd => q v H3 (e2.trans e3) hd) E
theorem evd_methS (ho : Ev ta σ H (.ref a)) (hi : H a = some (.ins C dx fs)) (hm : fs.lookup m = none) (ht : EvA t σ H vs) (k : SpVD K sp (.ref a :: vs) H d) : EvD K (tMethS C m sp ES ta t) σ H d := fun H1 e Q q =>
  ms_ask (ho.mono e) (e _ _ hi) hm (ht.mono e) fun H2 e2 => k H2 (e.trans e2) Q (fun v H3 e3 hd => q v H3 (e2.trans e3) hd) _
theorem evd_meth (ho : Ev ta σ H (.ref a)) (hi : H a = some (.ins C dx fs)) (hm : fs.lookup m = none) (ht : EvA t σ H vs) (k : SpVD K sp (.ref a :: vs) H d) : EvD K (tMeth C m sp [] E ta t) σ H d := fun H1 e Q q =>
  mm_ask (ho.mono e) (e _ _ hi) hm (ht.mono e) fun H2 e2 => k H2 (e.trans e2) Q (fun v H3 e3 hd => q v H3 (e2.trans e3) hd) _
end
end My
namespace My
open PySem PySem.Spec PyProof.Rows L2 Evl
/-! ### isinstance of a caught error -/
section
variable {K : PySem.W.Frag} {σ : L2.St} {H H' : Hp} {te tx : TE} {ta : TA} {D a dd : Addr} {fs : List (Str × V)} {c v : V} {cv : Value} {b : Bool} {f : Str}
theorem ev_isX {tc : TE} (hx : Ev tx σ H (.ref a)) (hc : Ev tc σ H c) (hd : H dd = some (.xd fs)) (k : ClsV c cv) (hk : PySem.W.kitOne K (.ref D) cv = some b) : Ev (tCB (rIsX K D a (.ref D) (some dd)) (tCons tx (tCons tc tNil))) σ H (.bl b) := fun H1 e Q q =>
  hx H1 e _ fun H2 e2 => hc H2 (e.trans e2) _ fun H3 e3 => ⟨rfl, ⟨dd, fs, rfl, ((e.trans e2).trans e3) _ _ hd⟩, .inl ⟨c, cv, b, rfl, k, hk, q H3 (e2.trans e3)⟩⟩
theorem ev_isXT {cs : List V} {us : List Value} (hx : Ev tx σ H (.ref a)) (hc : EvA ta σ H cs) (hl : cs.length ≤ 100) (hd : H dd = some (.xd fs)) (k : Paired ClsV cs us) (hk : PySem.W.kitAny K (.ref D) us = some b) : Ev (tCB (rIsX K D a (.ref D) (some dd)) (tCons tx (tCons (tTup ta) tNil))) σ H (.bl b) := fun H1 e Q q =>
  hx H1 e _ fun H2 e2 => hc H2 (e.trans e2) _ fun H3 e3 => ⟨sz_of (by omega), fun p hp => by
    have E3 := (e2.trans e3).trans (Ex.new (o := .tup cs) hp)
    exact ⟨rfl, ⟨dd, fs, rfl, (e.trans E3) _ _ hd⟩, .inr ⟨p, cs, us, b, rfl, upd_same, k, hk, q _ E3⟩⟩⟩
theorem ev_xf (hx : Ev te σ H (.ref a)) (hd : H dd = some (.xd fs)) (hl : fs.lookup f = some v) : Ev (tXf a (.ref D) (some dd) D f te) σ H v := fun H1 e Q q =>
  hx H1 e _ fun H2 e2 => ⟨rfl, rfl, dd, fs, v, rfl, (e.trans e2) _ _ hd, hl, q H2 e2⟩
/-- an error class named by a def, its catch in a suite -/
theorem catch_as {C B : Addr} {i : Nat} {ts : Addr → Value → Option Addr → TS} {Wout : WX} {DD : Ends} (hx : PySem.W.exmOne K (.ref C) (.ref B) = some true)
    (k : ∀ d H', H d = none → Ex H H' → H' d = some (.xd fs) → ∀ a, H' a = none → ts a (.ref C) (some d) { nx := fun σ' H' => DD.nx (σ'.set i none) H', rt := DD.rt, bk := fun σ' H' => DD.bk (σ'.set i none) H', ct := fun σ' H' => DD.ct (σ'.set i none) H' } (σ.set i (some (.ref a))) H') :
    RaiseR C fs H (WE (wAs K (.ref B) i ts Wout DD) σ) := fun d H' n e h => ⟨true, hx, fun _ a na => k d H' n e h a na, fun z => nomatch z⟩
end
end My
namespace My
open PySem PySem.Spec PyProof.Rows L2 Evl
section
variable {K : PySem.W.Frag} {σ : L2.St} {H H' : Hp} {te tx : TE} {ta : TA} {a l : Addr} {v : V} {xs : List V} {ns : List Int}
theorem evd_Li (h : EvL te σ H (ns.map V.int)) : EvD K te σ H (.list (ns.map PyData.int)) := fun H1 e Q q => h H1 e _ fun p H2 _ e2 h2 => q _ H2 e2 (.lst (sq_of h2) (dpa_ints ns))
theorem evd_Ui (h : EvU te σ H (ns.map V.int)) : EvD K te σ H (.tuple (ns.map PyData.int)) := fun H1 e Q q => h H1 e _ fun p H2 _ e2 h2 => q _ H2 e2 (.tup (st_of h2) (dpa_ints ns))
theorem dp_tups {a : Addr} (h : SqT K H a (ns.map V.int)) : Dp K H (.ref a) (.tuple (ns.map PyData.int)) := .tup h (dpa_ints ns)
theorem el_listQ (ha : Ev te σ H (.ref a)) (h : SqL K H a xs) : EvL (tCB (rListQ K) (tCons te tNil)) σ H xs := fun H1 e Q q =>
  ha H1 e _ fun H2 e2 => ⟨a, xs, rfl, .inl (ex_l (e.trans e2) h), fun l hl => q l _ (fresh_back e2 hl) (e2.trans (Ex.new hl)) upd_same⟩
theorem dn_tups {n : Nat} (h : ns.length ≤ 40000) : Dn (n + 1) (.tuple (ns.map PyData.int)) := by
  simp only [Dn, List.length_map]
  refine ⟨h, fun d hd => ?_⟩
  obtain ⟨x, _, rfl⟩ := List.mem_map.mp hd
  simp [Dn]
theorem dn_lists {n : Nat} (h : ns.length ≤ 40000) : Dn (n + 1) (.list (ns.map PyData.int)) := by
  simp only [Dn, List.length_map]
  refine ⟨h, fun d hd => ?_⟩
  obtain ⟨x, _, rfl⟩ := List.mem_map.mp hd
  simp [Dn]
theorem dn_int {n : Nat} {i : Int} : Dn n (.int i) := by simp [Dn]
theorem sql_keep {p : Addr} {o o2 : HO} (hp : H p = some o2) (h1 : ∀ xs, o2 ≠ .lst xs) (h2 : ∀ c d, o2 ≠ .frz c d) (h : SqL K H a xs) : SqL K (upd H p o) a xs := by
  rcases h with (h | ⟨c, h⟩) | h
  · refine .inl (.inl ?_)
    rw [upd_ne]
    · exact h
    · intro z
      subst z
      rw [hp] at h
      exact h1 _ (Option.some.inj h)
  · refine .inl (.inr ⟨c, ?_⟩)
    rw [upd_ne]
    · exact h
    · intro z
      subst z
      rw [hp] at h
      exact h2 _ _ (Option.some.inj h)
  · exact .inr h
/-- a value that is a list or a tuple -/
theorem evp_var {i : Nat} {P : V → Hp → Prop} (h : σ[i]? = some (some v)) (p : ∀ H1, Ex H H1 → P v H1) : EvP (tVar i) σ H P := fun H1 e Q q => ev_var h H1 e _ fun H2 e2 => q _ H2 e2 (p H2 (e.trans e2))
theorem evp_U {P : V → Hp → Prop} (h : EvU te σ H xs) (p : ∀ l H1, H1 l = some (.tup xs) → P (.ref l) H1) : EvP te σ H P := fun H1 e Q q => h H1 e _ fun l H2 _ e2 h2 => q _ H2 e2 (p l H2 h2)
end
end My

namespace Mi
open PySem PySem.Spec PyProof.Rows L2 Evl My
/-! ### values and a store of one's own; what a piece of the program does to them -/
inductive D where
  | non | bl (b : Bool) | int (i : Int) | str (x : Str) | ref (l : Nat) | tup (xs : List D)
/-- what lies at a place of the store: a list, a list that is only read, a dict, an instance -/
inductive O where
  | lst (xs : List D) | rol (xs : List D) | dK (kvs : List (Key × D)) | dT (kvs : List (List Key × D)) | ins (C : Str) (fs : List (Str × D)) | set (f : Int → Bool) (n : Nat)
abbrev Sto := List O
/-- what an expression ends with: a value, an error of an own class, nothing that is told -/
inductive R (α : Type) where
  | ok (a : α) (S : Sto) | exc (c : Str) (fs : List (Str × D)) (S : Sto) | bad
abbrev Env := List (Option D)
inductive RS where
  | nx (e : Env) (S : Sto) | ret (d : D) (S : Sto) | bk (e : Env) (S : Sto) | ct (e : Env) (S : Sto) | exc (c : Str) (fs : List (Str × D)) (e : Env) (S : Sto) | bad
def R.bind {α β : Type} (r : R α) (g : α → Sto → R β) : R β := match r with
  | .ok a S => g a S
  | .exc c fs S => .exc c fs S
  | .bad => .bad
def R.bindS {α : Type} (r : R α) (env : Env) (g : α → Sto → RS) : RS := match r with
  | .ok a S => g a S
  | .exc c fs S => .exc c fs env S
  | .bad => .bad
def RS.seq (r : RS) (g : Env → Sto → RS) : RS := match r with
  | .nx e S => g e S
  | r => r
@[simp] theorem R.bind_ok {α β : Type} {a : α} {S : Sto} {g : α → Sto → R β} : (R.ok a S).bind g = g a S := rfl
@[simp] theorem R.bind_exc {α β : Type} {c : Str} {fs : List (Str × D)} {S : Sto} {g : α → Sto → R β} : (R.exc c fs S).bind g = .exc c fs S := rfl
@[simp] theorem R.bind_bad {α β : Type} {g : α → Sto → R β} : (R.bad).bind g = .bad := rfl
@[simp] theorem R.bindS_ok {α : Type} {a : α} {S : Sto} {env : Env} {g : α → Sto → RS} : (R.ok a S).bindS env g = g a S := rfl
@[simp] theorem R.bindS_exc {α : Type} {c : Str} {fs : List (Str × D)} {S : Sto} {env : Env} {g : α → Sto → RS} : (R.exc c fs S).bindS env g = .exc c fs env S := rfl
@[simp] theorem R.bindS_bad {α : Type} {env : Env} {g : α → Sto → RS} : (R.bad).bindS env g = .bad := rfl
@[simp] theorem RS.seq_nx {e : Env} {S : Sto} {g : Env → Sto → RS} : (RS.nx e S).seq g = g e S := rfl
@[simp] theorem RS.seq_ret {d : D} {S : Sto} {g : Env → Sto → RS} : (RS.ret d S).seq g = .ret d S := rfl
@[simp] theorem RS.seq_bk {e : Env} {S : Sto} {g : Env → Sto → RS} : (RS.bk e S).seq g = .bk e S := rfl
@[simp] theorem RS.seq_ct {e : Env} {S : Sto} {g : Env → Sto → RS} : (RS.ct e S).seq g = .ct e S := rfl
@[simp] theorem RS.seq_exc {c : Str} {fs : List (Str × D)} {e : Env} {S : Sto} {g : Env → Sto → RS} : (RS.exc c fs e S).seq g = .exc c fs e S := rfl
@[simp] theorem RS.seq_bad {g : Env → Sto → RS} : (RS.bad).seq g = .bad := rfl
/-- what lies at a place -/
def at_ (S : Sto) (l : Nat) : Option O := S[l]?
/-- a list that may be read -/
def rdL (S : Sto) (l : Nat) : Option (List D) := match at_ S l with
  | some (.lst xs) => some xs
  | some (.rol xs) => some xs
  | _ => none
/-! ### what stands for what -/
section
variable (K : PySem.W.Frag) (φ : Nat → Addr) (n : Nat) (H : Hp)
mutual
inductive VR : D → V → Prop where
  | non : VR .non .non
  | bl (b : Bool) : VR (.bl b) (.bl b)
  | int (i : Int) : VR (.int i) (.int i)
  | str (x : Str) : VR (.str x) (.str x)
  | ref {l : Nat} (h : l < n) : VR (.ref l) (.ref (φ l))
  | tup {a : Addr} {xs : List D} {vs : List V} (h : SqT K H a vs) (t : VRs xs vs) : VR (.tup xs) (.ref a)
inductive VRs : List D → List V → Prop where
  | nil : VRs [] []
  | cons {x : D} {v : V} {xs : List D} {vs : List V} (h : VR x v) (t : VRs xs vs) : VRs (x :: xs) (v :: vs)
end
inductive KR {κ : Type} : List (κ × D) → List (κ × V) → Prop where
  | nil : KR [] []
  | cons {k : κ} {x : D} {v : V} {xs : List (κ × D)} {vs : List (κ × V)} (h : VR K φ n H x v) (t : KR xs vs) : KR ((k, x) :: xs) ((k, v) :: vs)
def OR (a : Addr) : O → Prop
  | .lst xs => ∃ vs, H a = some (.lst vs) ∧ VRs K φ n H xs vs
  | .rol xs => ∃ vs, ((∃ o, H a = some (.frz o (.lst vs))) ∨ ∀ H', SqL K H' a vs) ∧ VRs K φ n H xs vs
  | .dK kvs => ∃ kws, H a = some (.dK kws) ∧ KR K φ n H kvs kws
  | .dT kvs => ∃ kws, H a = some (.dT kws) ∧ KR K φ n H kvs kws
  | .ins C fs => ∃ dx fv, H a = some (.ins (He.ga K C) dx fv) ∧ KR K φ n H fs fv
  | .set f m => H a = some (.set f m)
end
def mutO : O → Bool
  | .rol _ => false
  | _ => true
structure Rel (K : PySem.W.Frag) (φ : Nat → Addr) (S : Sto) (H : Hp) : Prop where
  inj : ∀ i j o u, S[i]? = some o → S[j]? = some u → mutO o = true → mutO u = true → φ i = φ j → i = j
  ob : ∀ l o, S[l]? = some o → OR K φ S.length H (φ l) o
/-- what comes later -/
structure Fut (K : PySem.W.Frag) (φ : Nat → Addr) (n : Nat) (H : Hp) (φ' : Nat → Addr) (n' : Nat) (H' : Hp) : Prop where
  le : n ≤ n'
  ag : ∀ l, l < n → φ' l = φ l
  tp : ∀ a vs, SqT K H a vs → SqT K H' a vs
section
variable {K : PySem.W.Frag} {φ φ1 φ2 φ' : Nat → Addr} {n n1 n2 n' : Nat} {H H1 H2 H' : Hp}
theorem Fut.refl : Fut K φ n H φ n H := ⟨Nat.le_refl _, fun _ _ => rfl, fun _ _ h => h⟩
theorem Fut.trans (a : Fut K φ n H φ1 n1 H1) (b : Fut K φ1 n1 H1 φ2 n2 H2) : Fut K φ n H φ2 n2 H2 :=
  ⟨Nat.le_trans a.le b.le, fun l h => (b.ag l (Nat.lt_of_lt_of_le h a.le)).trans (a.ag l h), fun c vs h => b.tp c vs (a.tp c vs h)⟩
theorem Fut.ex (e : Ex H H') : Fut K φ n H φ n H' := ⟨Nat.le_refl _, fun _ _ => rfl, fun _ _ h => ex_t e h⟩
mutual
theorem VR.fut (f : Fut K φ n H φ' n' H') : ∀ {d : D} {v : V}, VR K φ n H d v → VR K φ' n' H' d v
  | _, _, .non => .non
  | _, _, .bl b => .bl b
  | _, _, .int i => .int i
  | _, _, .str x => .str x
  | _, _, .ref h => by rw [← f.ag _ h]; exact .ref (Nat.lt_of_lt_of_le h f.le)
  | _, _, .tup h t => .tup (f.tp _ _ h) (VRs.fut f t)
theorem VRs.fut (f : Fut K φ n H φ' n' H') : ∀ {d : List D} {v : List V}, VRs K φ n H d v → VRs K φ' n' H' d v
  | _, _, .nil => .nil
  | _, _, .cons h t => .cons (VR.fut f h) (VRs.fut f t)
end
theorem KR.fut {κ : Type} (f : Fut K φ n H φ' n' H') : ∀ {d : List (κ × D)} {v : List (κ × V)}, KR K φ n H d v → KR K φ' n' H' d v
  | _, _, .nil => .nil
  | _, _, .cons h t => .cons (VR.fut f h) (KR.fut f t)
theorem VRs.len : ∀ {d : List D} {v : List V}, VRs K φ n H d v → v.length = d.length
  | _, _, .nil => rfl
  | _, _, .cons _ t => congrArg Nat.succ (VRs.len t)
theorem VRs.app : ∀ {d e : List D} {v w : List V}, VRs K φ n H d v → VRs K φ n H e w → VRs K φ n H (d ++ e) (v ++ w)
  | _, _, _, _, .nil, h => h
  | _, _, _, _, .cons a t, h => .cons a (VRs.app t h)
theorem VRs.one {d : D} {v : V} (h : VR K φ n H d v) : VRs K φ n H [d] [v] := .cons h .nil
theorem VRs.get : ∀ {xs : List D} {vs : List V} {i : Nat} {x : D}, VRs K φ n H xs vs → xs[i]? = some x → ∃ v, vs[i]? = some v ∧ VR K φ n H x v
  | _, _, 0, _, .cons h _, e => ⟨_, rfl, by cases e; exact h⟩
  | _, _, i + 1, _, .cons _ t, e => VRs.get (i := i) t e
theorem VRs.take : ∀ {xs : List D} {vs : List V} (m : Nat), VRs K φ n H xs vs → VRs K φ n H (xs.take m) (vs.take m)
  | _, _, 0, _ => .nil
  | _, _, _ + 1, .nil => .nil
  | _, _, m + 1, .cons h t => .cons h (VRs.take m t)
theorem VRs.drop : ∀ {xs : List D} {vs : List V} (m : Nat), VRs K φ n H xs vs → VRs K φ n H (xs.drop m) (vs.drop m)
  | _, _, 0, h => h
  | _, _, _ + 1, .nil => .nil
  | _, _, m + 1, .cons _ t => VRs.drop m t
theorem VRs.set : ∀ {xs : List D} {vs : List V} {x : D} {v : V} (i : Nat), VRs K φ n H xs vs → VR K φ n H x v → VRs K φ n H (xs.set i x) (vs.set i v)
  | _, _, _, _, _, .nil, _ => .nil
  | _, _, _, _, 0, .cons _ t, h => .cons h t
  | _, _, _, _, i + 1, .cons h0 t, h => .cons h0 (VRs.set i t h)
theorem VRs.eraseIdx : ∀ {xs : List D} {vs : List V} (i : Nat), VRs K φ n H xs vs → VRs K φ n H (xs.eraseIdx i) (vs.eraseIdx i)
  | _, _, _, .nil => .nil
  | _, _, 0, .cons _ t => t
  | _, _, i + 1, .cons h0 t => .cons h0 (VRs.eraseIdx i t)
theorem VRs.dropLast : ∀ {xs : List D} {vs : List V}, VRs K φ n H xs vs → VRs K φ n H xs.dropLast vs.dropLast
  | _, _, .nil => .nil
  | _, _, .cons _ .nil => .nil
  | _, _, .cons h (.cons h2 t) => .cons h (VRs.dropLast (.cons h2 t))
theorem VRs.reverse {xs : List D} {vs : List V} (h : VRs K φ n H xs vs) : VRs K φ n H xs.reverse vs.reverse := by
  induction xs generalizing vs with
  | nil => cases h; exact .nil
  | cons x xs ih =>
    cases h with
    | cons h t =>
      rw [List.reverse_cons, List.reverse_cons]
      exact (ih t).app (.one h)
theorem VRs.repl {x : D} {v : V} (h : VR K φ n H x v) : ∀ m, VRs K φ n H (List.replicate m x) (List.replicate m v)
  | 0 => .nil
  | m + 1 => .cons h (VRs.repl h m)
theorem VRs.ints : ∀ ns : List Int, VRs K φ n H (ns.map D.int) (ns.map V.int)
  | [] => .nil
  | i :: r => .cons (.int i) (VRs.ints r)
theorem VRs.ints_inv : ∀ {ns : List Int} {vs : List V}, VRs K φ n H (ns.map D.int) vs → vs = ns.map V.int
  | [], _, .nil => rfl
  | i :: r, _, .cons h t => by
    cases h
    rw [VRs.ints_inv t]
    rfl
theorem VR.int_inv {i : Int} {v : V} (h : VR K φ n H (.int i) v) : v = .int i := by cases h; rfl
theorem VR.bl_inv {i : Bool} {v : V} (h : VR K φ n H (.bl i) v) : v = .bl i := by cases h; rfl
theorem VR.str_inv {i : Str} {v : V} (h : VR K φ n H (.str i) v) : v = .str i := by cases h; rfl
theorem VR.non_inv {v : V} (h : VR K φ n H .non v) : v = .non := by cases h; rfl
theorem VR.ref_inv {l : Nat} {v : V} (h : VR K φ n H (.ref l) v) : l < n ∧ v = .ref (φ l) := by cases h with | ref h => exact ⟨h, rfl⟩
theorem VR.tup_inv {xs : List D} {v : V} (h : VR K φ n H (.tup xs) v) : ∃ a vs, v = .ref a ∧ SqT K H a vs ∧ VRs K φ n H xs vs := by
  cases h with | tup h t => exact ⟨_, _, rfl, h, t⟩
/-! ### the store grows, changes -/
/-- what is written over, or is neither a tuple nor locked -/
def MHO : HO → Prop
  | .lst _ => True
  | .dK _ => True
  | .dT _ => True
  | .ins _ _ _ => True
  | .set _ _ => True
  | _ => False
theorem OR.mho {a : Addr} {o : O} (h : OR K φ n H a o) (m : mutO o = true) : ∃ u, H a = some u ∧ MHO u := by
  cases o with
  | lst xs => obtain ⟨vs, h, _⟩ := h; exact ⟨_, h, trivial⟩
  | rol xs => cases m
  | dK xs => obtain ⟨vs, h, _⟩ := h; exact ⟨_, h, trivial⟩
  | dT xs => obtain ⟨vs, h, _⟩ := h; exact ⟨_, h, trivial⟩
  | ins C fs => obtain ⟨dx, vs, h, _⟩ := h; exact ⟨_, h, trivial⟩
  | set f m => exact ⟨_, h, trivial⟩
theorem sqt_upd {p a : Addr} {o u : HO} {xs : List V} (hp : H p = some u) (m : MHO u) (h : SqT K H a xs) : SqT K (upd H p o) a xs := by
  refine sqt_keep hp (fun xs z => ?_) (fun c d z => ?_) h
  · subst z; exact m
  · subst z; exact m
theorem Fut.upd {p : Addr} {o u : HO} (hp : H p = some u) (m : MHO u) : Fut K φ n H φ n (upd H p o) := ⟨Nat.le_refl _, fun _ _ => rfl, fun _ _ h => sqt_upd hp m h⟩
/-- the same object elsewhere in time -/
theorem OR.fut {a : Addr} {o : O} (f : Fut K φ n H φ' n' H') (h : OR K φ n H a o) (e : ∀ u, H a = some u → H' a = some u) : OR K φ' n' H' a o := by
  cases o with
  | lst xs => obtain ⟨vs, h, r⟩ := h; exact ⟨vs, e _ h, r.fut f⟩
  | rol xs =>
    obtain ⟨vs, h, r⟩ := h
    refine ⟨vs, ?_, r.fut f⟩
    rcases h with ⟨o, h⟩ | h
    · exact .inl ⟨o, e _ h⟩
    · exact .inr h
  | dK xs => obtain ⟨vs, h, r⟩ := h; exact ⟨vs, e _ h, r.fut f⟩
  | dT xs => obtain ⟨vs, h, r⟩ := h; exact ⟨vs, e _ h, r.fut f⟩
  | ins C fs => obtain ⟨dx, vs, h, r⟩ := h; exact ⟨dx, vs, e _ h, r.fut f⟩
  | set f m => exact e _ h
theorem Rel.ex {S : Sto} (r : Rel K φ S H) (e : Ex H H') : Rel K φ S H' := ⟨r.inj, fun l o h => (r.ob l o h).fut (Fut.ex e) (fun u hu => e _ _ hu)⟩
theorem Rel.put {S : Sto} {l : Nat} {o o' : O} {u : HO} (r : Rel K φ S H) (hl : S[l]? = some o) (m : mutO o = true) (m' : mutO o' = true) (hn : OR K φ S.length (L2.upd H (φ l) u) (φ l) o') :
    Rel K φ (S.set l o') (L2.upd H (φ l) u) ∧ Fut K φ S.length H φ (S.set l o').length (L2.upd H (φ l) u) := by
  obtain ⟨w, hw, mw⟩ := (r.ob l o hl).mho m
  have f : Fut K φ S.length H φ S.length (L2.upd H (φ l) u) := Fut.upd hw mw
  have hlt := (List.getElem?_eq_some_iff.mp hl).1
  refine ⟨⟨fun i j oi oj hi hj mi mj e => ?_, fun i oi hi => ?_⟩, by rw [List.length_set]; exact f⟩
  · by_cases h1 : i = l <;> by_cases h2 : j = l
    · rw [h1, h2]
    · subst h1
      rw [List.getElem?_set_ne (by omega)] at hj
      exact r.inj i j o oj hl hj m mj e
    · subst h2
      rw [List.getElem?_set_ne (by omega)] at hi
      exact r.inj i j oi o hi hl mi m e
    · rw [List.getElem?_set_ne (by omega)] at hi hj
      exact r.inj i j oi oj hi hj mi mj e
  · rw [List.length_set]
    by_cases h1 : i = l
    · subst h1
      rw [List.getElem?_set_self hlt] at hi
      cases hi
      exact hn
    · rw [List.getElem?_set_ne (by omega)] at hi
      have hi' := r.ob i oi hi
      cases mi : mutO oi with
      | true =>
        refine hi'.fut f fun v hv => ?_
        rw [upd_ne]
        · exact hv
        · intro z
          exact h1 (r.inj i l oi o hi hl mi m z)
      | false =>
        cases oi with
        | rol xs =>
          obtain ⟨vs, h, q⟩ := hi'
          refine ⟨vs, ?_, q.fut f⟩
          rcases h with ⟨ob, h⟩ | h
          · refine .inl ⟨ob, ?_⟩
            rw [upd_ne]
            · exact h
            · intro z
              rw [z, hw] at h
              cases h
              exact mw
          · exact .inr h
        | _ => cases mi
/-- the store's next place -/
def nxt (φ : Nat → Addr) (n : Nat) (p : Addr) : Nat → Addr := fun i => if i = n then p else φ i
theorem nxt_at {p : Addr} : nxt φ n p n = p := by simp [nxt]
theorem Fut.new {p : Addr} {u : HO} (hp : H p = none) : Fut K φ n H (nxt φ n p) (n + 1) (L2.upd H p u) :=
  ⟨Nat.le_succ _, fun l h => by simp [nxt, Nat.ne_of_lt h], fun _ _ h => ex_t (Ex.new hp) h⟩
theorem Rel.new {S : Sto} {p : Addr} {o : O} {u : HO} (r : Rel K φ S H) (hp : H p = none) (hn : OR K (nxt φ S.length p) (S.length + 1) (L2.upd H p u) p o) :
    Rel K (nxt φ S.length p) (S ++ [o]) (L2.upd H p u) := by
  have f : Fut K φ S.length H (nxt φ S.length p) (S.length + 1) (L2.upd H p u) := Fut.new hp
  have old : ∀ i oi, (S ++ [o])[i]? = some oi → (i < S.length ∧ S[i]? = some oi) ∨ (i = S.length ∧ oi = o) := fun i oi h => by
    have h1 := (List.getElem?_eq_some_iff.mp h).1
    rw [List.length_append, List.length_singleton] at h1
    by_cases h2 : i < S.length
    · rw [List.getElem?_append_left h2] at h
      exact .inl ⟨h2, h⟩
    · have h3 : i = S.length := by omega
      subst h3
      rw [List.getElem?_append_right (Nat.le_refl _), Nat.sub_self] at h
      exact .inr ⟨rfl, (Option.some.inj h).symm⟩
  have ne : ∀ i oi, i < S.length → S[i]? = some oi → mutO oi = true → φ i ≠ p := fun i oi _ h m z => by
    obtain ⟨w, hw, _⟩ := (r.ob i oi h).mho m
    rw [z, hp] at hw
    cases hw
  refine ⟨fun i j oi oj hi hj mi mj e => ?_, fun i oi hi => ?_⟩
  · rcases old i oi hi with ⟨i1, i2⟩ | ⟨rfl, rfl⟩ <;> rcases old j oj hj with ⟨j1, j2⟩ | ⟨rfl, rfl⟩
    · rw [f.ag i i1, f.ag j j1] at e
      exact r.inj i j oi oj i2 j2 mi mj e
    · rw [f.ag i i1, nxt_at] at e
      exact absurd e (ne i oi i1 i2 mi)
    · rw [f.ag j j1, nxt_at] at e
      exact absurd e.symm (ne j oj j1 j2 mj)
    · rfl
  · rw [List.length_append, List.length_singleton]
    rcases old i oi hi with ⟨i1, i2⟩ | ⟨rfl, rfl⟩
    · rw [f.ag i i1]
      exact (r.ob i oi i2).fut f fun v hv => (Ex.new hp) _ _ hv
    · rw [nxt_at]
      exact hn
theorem at_lt {S : Sto} {l : Nat} {o : O} (h : at_ S l = some o) : l < S.length := (List.getElem?_eq_some_iff.mp h).1
theorem Rel.rd {S : Sto} {l : Nat} {xs : List D} (r : Rel K φ S H) (h : rdL S l = some xs) : ∃ vs, SqL K H (φ l) vs ∧ VRs K φ S.length H xs vs := by
  unfold rdL at h
  split at h
  · rename_i ys e
    cases h
    obtain ⟨vs, h1, h2⟩ := r.ob l _ e
    exact ⟨vs, sq_of h1, h2⟩
  · rename_i ys e
    cases h
    obtain ⟨vs, h1, h2⟩ := r.ob l _ e
    refine ⟨vs, ?_, h2⟩
    rcases h1 with ⟨o, h1⟩ | h1
    · exact .inl (.inr ⟨o, h1⟩)
    · exact h1 H
  · cases h
theorem rdL_lt {S : Sto} {l : Nat} {xs : List D} (h : rdL S l = some xs) : l < S.length := by
  unfold rdL at h
  split at h
  · rename_i e; exact at_lt e
  · rename_i e; exact at_lt e
  · cases h
end
/-! ### slots -/
inductive ER (K : PySem.W.Frag) (φ : Nat → Addr) (n : Nat) (H : Hp) : Env → L2.St → Prop where
  | nil : ER K φ n H [] []
  | none {e : Env} {σ : L2.St} (t : ER K φ n H e σ) : ER K φ n H (.none :: e) (.none :: σ)
  | some {d : D} {v : V} {e : Env} {σ : L2.St} (h : VR K φ n H d v) (t : ER K φ n H e σ) : ER K φ n H (.some d :: e) (.some v :: σ)
section
variable {K : PySem.W.Frag} {φ φ' : Nat → Addr} {n n' : Nat} {H H' : Hp}
theorem ER.fut (f : Fut K φ n H φ' n' H') : ∀ {e : Env} {σ : L2.St}, ER K φ n H e σ → ER K φ' n' H' e σ
  | _, _, .nil => .nil
  | _, _, .none t => .none (ER.fut f t)
  | _, _, .some h t => .some (h.fut f) (ER.fut f t)
theorem ER.get : ∀ {e : Env} {σ : L2.St} {i : Nat} {d : D}, ER K φ n H e σ → e[i]? = .some (.some d) → ∃ v, σ[i]? = .some (.some v) ∧ VR K φ n H d v
  | _, _, 0, _, .none _, h => by cases h
  | _, _, 0, _, .some h _, e => ⟨_, rfl, by cases e; exact h⟩
  | _, _, i + 1, _, .none t, h => ER.get (i := i) t h
  | _, _, i + 1, _, .some _ t, h => ER.get (i := i) t h
theorem ER.set : ∀ {e : Env} {σ : L2.St} {d : D} {v : V} (i : Nat), ER K φ n H e σ → VR K φ n H d v → ER K φ n H (e.set i (.some d)) (σ.set i (.some v))
  | _, _, _, _, _, .nil, _ => .nil
  | _, _, _, _, 0, .none t, h => .some h t
  | _, _, _, _, 0, .some _ t, h => .some h t
  | _, _, _, _, i + 1, .none t, h => .none (ER.set i t h)
  | _, _, _, _, i + 1, .some h0 t, h => .some h0 (ER.set i t h)
theorem ER.unset : ∀ {e : Env} {σ : L2.St} (i : Nat), ER K φ n H e σ → ER K φ n H (e.set i .none) (σ.set i .none)
  | _, _, _, .nil => .nil
  | _, _, 0, .none t => .none t
  | _, _, 0, .some _ t => .none t
  | _, _, i + 1, .none t => .none (ER.unset i t)
  | _, _, i + 1, .some h0 t => .some h0 (ER.unset i t)
def wipeE (e : Env) : List Nat → Env
  | [] => e
  | v :: vs => (wipeE e vs).set v .none
theorem ER.wipe {e : Env} {σ : L2.St} (h : ER K φ n H e σ) : ∀ vs : List Nat, ER K φ n H (wipeE e vs) (wipe σ vs)
  | [] => h
  | v :: vs => ER.unset v (ER.wipe h vs)
theorem ER.ofs : ∀ {ds : List D} {vs : List V} (m : Nat), VRs K φ n H ds vs → ER K φ n H (ds.map .some ++ List.replicate m .none) (vs.map .some ++ List.replicate m .none)
  | _, _, 0, .nil => .nil
  | _, _, m + 1, .nil => .none (ER.ofs m .nil)
  | _, _, m, .cons h t => .some h (ER.ofs m t)
end
end Mi

namespace Mi
open PySem PySem.Spec PyProof.Rows L2 Evl My
open Classical in
/-! ### what a piece promises -/
abbrev Rl (α β : Type) := (Nat → Addr) → Nat → Hp → α → β → Prop
def vr (K : PySem.W.Frag) : Rl D V := fun φ n H d v => VR K φ n H d v
def vrs (K : PySem.W.Frag) : Rl (List D) (List V) := fun φ n H d v => VRs K φ n H d v
def same {α : Type} : Rl α α := fun _ _ _ a b => a = b
def Post (K : PySem.W.Frag) {α β : Type} (ρ : Rl α β) (φ : Nat → Addr) (n : Nat) (H : Hp) (X : XK) (r : R α) (Q : β → Hp → Prop) : Prop := match r with
  | .ok d S' => ∀ φ' H' v, Fut K φ n H φ' S'.length H' → Rel K φ' S' H' → ρ φ' S'.length H' d v → Q v H'
  | .exc c fs S' => ∀ φ' H' dd fv, Fut K φ n H φ' S'.length H' → Rel K φ' S' H' → H' dd = some (.xd fv) → KR K φ' S'.length H' fs fv → X (.ref (He.ga K c)) (some dd) H'
  | .bad => False
section
variable {K : PySem.W.Frag} {φ φ1 φ' : Nat → Addr} {n n1 n' : Nat} {H H1 H' : Hp} {α β γ δ : Type} {ρ : Rl α β} {ρ' : Rl γ δ} {X : XK} {W : WX} {S : Sto}
theorem Post.fut {r : R α} {Q : β → Hp → Prop} (f : Fut K φ n H φ1 n1 H1) (h : Post K ρ φ n H X r Q) : Post K ρ φ1 n1 H1 X r Q := by
  cases r with
  | ok d S' => exact fun φ' H' v f' => h φ' H' v (f.trans f')
  | exc c fs S' => exact fun φ' H' dd fv f' => h φ' H' dd fv (f.trans f')
  | bad => exact h
theorem Post.here {d : α} {v : β} {Q : β → Hp → Prop} (h : Post K ρ φ S.length H X (.ok d S) Q) (r : Rel K φ S H) (q : ρ φ S.length H d v) : Q v H := h φ H v Fut.refl r q
theorem Post.ex {d : α} {v : β} {Q : β → Hp → Prop} (h : Post K ρ φ S.length H X (.ok d S) Q) (r : Rel K φ S H) (e : Ex H H') (q : ρ φ S.length H' d v) : Q v H' := h φ H' v (Fut.ex e) (r.ex e) q
theorem Post.new {o : O} {u : HO} {p : Addr} {Q : VK} (h : Post K (vr K) φ S.length H X (.ok (.ref S.length) (S ++ [o])) Q) (r : Rel K φ S H) (hp : H p = none) (hn : OR K (nxt φ S.length p) (S.length + 1) (upd H p u) p o) : Q (.ref p) (upd H p u) := by
  refine h (nxt φ S.length p) _ _ (by rw [List.length_append]; exact Fut.new hp) (r.new hp hn) ?_
  show VR K _ _ _ _ _
  have := VR.ref (K := K) (φ := nxt φ S.length p) (n := (S ++ [o]).length) (H := upd H p u) (l := S.length) (by simp)
  rw [nxt_at] at this
  exact this
theorem Post.tup {Q : VK} {xs : List D} {vs : List V} {p : Addr} (h : Post K (vr K) φ S.length H X (.ok (.tup xs) S) Q) (r : Rel K φ S H) (hp : H p = none) (q : VRs K φ S.length H xs vs) : Q (.ref p) (upd H p (.tup vs)) :=
  h φ _ _ (Fut.ex (Ex.new hp)) (r.ex (Ex.new hp)) (VR.tup (st_of upd_same) (q.fut (Fut.ex (Ex.new hp))))
theorem Post.put {d : α} {v : β} {Q : β → Hp → Prop} {l : Nat} {o o' : O} {u : HO} (h : Post K ρ φ S.length H X (.ok d (S.set l o')) Q) (r : Rel K φ S H) (hl : at_ S l = some o) (m : mutO o = true) (m' : mutO o' = true) (hn : OR K φ S.length (upd H (φ l) u) (φ l) o')
    (q : ρ φ S.length (upd H (φ l) u) d v) : Q v (upd H (φ l) u) := by
  obtain ⟨r', f'⟩ := r.put hl m m' hn
  exact h φ _ _ f' r' (by rw [List.length_set]; exact q)
/-- a reading does what f says -/
def Imp (K : PySem.W.Frag) (W : WX) {α β : Type} (ρ : Rl α β) (t : L2.St → Hp → (β → Hp → Prop) → Prop) (f : Env → Sto → R α) : Prop :=
  ∀ φ S H env σ, Rel K φ S H → ER K φ S.length H env σ → ∀ Q, Post K ρ φ S.length H (fun c d h => W c d σ h) (f env S) Q → t σ H Q
theorem imp_bind {ta : L2.St → Hp → (β → Hp → Prop) → Prop} {tb : β → L2.St → Hp → (δ → Hp → Prop) → Prop} {fa : Env → Sto → R α} {g : Env → α → Sto → R γ} (ha : Imp K W ρ ta fa)
    (hb : ∀ φ S H env σ x v, Rel K φ S H → ER K φ S.length H env σ → ρ φ S.length H x v → ∀ Q, Post K ρ' φ S.length H (fun c d h => W c d σ h) (g env x S) Q → tb v σ H Q) :
    Imp K W ρ' (fun σ H Q => ta σ H fun v H1 => tb v σ H1 Q) (fun env S => (fa env S).bind (g env)) := by
  intro φ S H env σ r e Q p
  dsimp only at p
  refine ha φ S H env σ r e _ ?_
  cases hf : fa env S with
  | ok x S1 =>
    rw [hf] at p
    exact fun φ' H' v f r' hv => hb φ' S1 H' env σ x v r' (e.fut f) hv Q (p.fut f)
  | exc c fs S1 =>
    rw [hf] at p
    exact p
  | bad =>
    rw [hf] at p
    exact p
/-- .. that is known to be so at a state -/
theorem Imp.go {ta : L2.St → Hp → (β → Hp → Prop) → Prop} {fa : Env → Sto → R α} (ha : Imp K W ρ ta fa) {env : Env} {σ : L2.St} {g : α → Sto → R γ} {tb : β → Hp → Prop} (r : Rel K φ S H) (e : ER K φ S.length H env σ) {Q : δ → Hp → Prop}
    (p : Post K ρ' φ S.length H (fun c d h => W c d σ h) ((fa env S).bind g) Q)
    (hb : ∀ φ1 S1 H1 x v, Fut K φ S.length H φ1 S1.length H1 → Rel K φ1 S1 H1 → ER K φ1 S1.length H1 env σ → ρ φ1 S1.length H1 x v → Post K ρ' φ1 S1.length H1 (fun c d h => W c d σ h) (g x S1) Q → tb v H1) : ta σ H tb := by
  refine ha φ S H env σ r e _ ?_
  cases hf : fa env S with
  | ok x S1 =>
    rw [hf] at p
    exact fun φ' H' v f r' hv => hb φ' S1 H' x v f r' (e.fut f) hv (p.fut f)
  | exc c fs S1 =>
    rw [hf] at p
    exact p
  | bad =>
    rw [hf] at p
    exact p
/-! ### expressions -/
def xVar (i : Nat) : Env → Sto → R D := fun env S => match env[i]? with
  | some (some d) => .ok d S
  | _ => .bad
def xC (d : D) : Env → Sto → R D := fun _ S => .ok d S
theorem imp_var {i : Nat} : Imp K W (vr K) (tVar i) (xVar i) := by
  intro φ S H env σ r e Q p
  unfold xVar at p
  split at p
  · rename_i d h
    obtain ⟨v, hv, q⟩ := e.get h
    exact ⟨v, hv, p.here r q⟩
  · exact p.elim
theorem imp_int {i : Int} : Imp K W (vr K) (tC (.int i)) (xC (.int i)) := fun φ S H env σ r e Q p => p.here r (VR.int i)
theorem imp_str {i : Str} : Imp K W (vr K) (tC (.str i)) (xC (.str i)) := fun φ S H env σ r e Q p => p.here r (VR.str i)
theorem imp_bl {i : Bool} : Imp K W (vr K) (tC (.bl i)) (xC (.bl i)) := fun φ S H env σ r e Q p => p.here r (VR.bl i)
theorem imp_non : Imp K W (vr K) (tC .non) (xC .non) := fun φ S H env σ r e Q p => p.here r VR.non
/-- two operands -/
def xOp (o : D → D → Sto → R D) (fa fb : Env → Sto → R D) : Env → Sto → R D := fun env S => (fa env S).bind fun x S1 => (fb env S1).bind fun y S2 => o x y S2
def OpI (K : PySem.W.Frag) (r : R2) (o : D → D → Sto → R D) : Prop := ∀ φ S H x y v w X, Rel K φ S H → VR K φ S.length H x v → VR K φ S.length H y w → ∀ Q, Post K (vr K) φ S.length H X (o x y S) Q → r v w H Q
theorem imp_op {r : R2} {o : D → D → Sto → R D} {ta tb : TE} {fa fb : Env → Sto → R D} (hr : OpI K r o) (ha : Imp K W (vr K) ta fa) (hb : Imp K W (vr K) tb fb) : Imp K W (vr K) (tOp r ta tb) (xOp o fa fb) :=
  imp_bind (tb := fun v σ H Q => tb σ H fun y H2 => r v y H2 Q) ha fun φ S H env σ x v rl e hv Q p => hb.go rl e p fun φ1 S1 H1 y w f r1 _ hw p1 => hr φ1 S1 H1 x y v w _ r1 (VR.fut f hv) hw Q p1
def UnI (K : PySem.W.Frag) (r : V → Hp → VK → Prop) (o : D → Sto → R D) : Prop := ∀ φ S H x v X, Rel K φ S H → VR K φ S.length H x v → ∀ Q, Post K (vr K) φ S.length H X (o x S) Q → r v H Q
def xUn (o : D → Sto → R D) (fa : Env → Sto → R D) : Env → Sto → R D := fun env S => (fa env S).bind o
theorem imp_un {r : V → Hp → VK → Prop} {o : D → Sto → R D} {ta : TE} {fa : Env → Sto → R D} (hr : UnI K r o) (ha : Imp K W (vr K) ta fa) : Imp K W (vr K) (tUn r ta) (xUn o fa) :=
  imp_bind (tb := fun (v : V) _ H (Q : VK) => r v H Q) ha fun φ S H env σ x v rl e hv Q p => hr φ S H x v _ rl hv Q p
/-- of two ints -/
def oI (g : Int → Int → D) : D → D → Sto → R D := fun x y S => match x, y with
  | .int i, .int j => .ok (g i j) S
  | _, _ => .bad
@[simp] theorem oI_int {g : Int → Int → D} {i j : Int} : oI g (.int i) (.int j) S = .ok (g i j) S := rfl
theorem opi_I {g : Int → Int → V} {g' : Int → Int → D} (h : ∀ φ n H i j, VR K φ n H (g' i j) (g i j)) : OpI K (rI0 g) (oI g') := by
  intro φ S H x y v w X r hx hy Q p
  unfold oI at p
  split at p
  · cases hx; cases hy
    exact ⟨_, _, rfl, rfl, p.here r (h ..)⟩
  · exact p.elim
noncomputable def oIC (C : Int → Int → Prop) (g : Int → Int → D) : D → D → Sto → R D := fun x y S => match x, y with
  | .int i, .int j => open Classical in if C i j then .ok (g i j) S else .bad
  | _, _ => .bad
theorem oIC_int {C : Int → Int → Prop} {g : Int → Int → D} {i j : Int} (h : C i j) : oIC C g (.int i) (.int j) S = .ok (g i j) S := by simp [oIC, h]
theorem opi_IC {C : Int → Int → Prop} {g : Int → Int → V} {g' : Int → Int → D} (h : ∀ φ n H i j, VR K φ n H (g' i j) (g i j)) : OpI K (rI C g) (oIC C g') := by
  intro φ S H x y v w X r hx hy Q p
  unfold oIC at p
  split at p
  · cases hx; cases hy
    split at p
    · rename_i hc
      exact ⟨_, _, rfl, rfl, hc, p.here r (h ..)⟩
    · exact p.elim
  · exact p.elim
def gI (f : Int → Int → Int) : Int → Int → D := fun i j => .int (f i j)
def gB (f : Int → Int → Bool) : Int → Int → D := fun i j => .bl (f i j)
theorem opi_add : OpI K (rI0 fun i j => .int (i + j)) (oI fun i j => .int (i + j)) := opi_I fun _ _ _ _ _ => .int _
theorem opi_sub : OpI K (rI0 fun i j => .int (i - j)) (oI fun i j => .int (i - j)) := opi_I fun _ _ _ _ _ => .int _
theorem opi_mul : OpI K (rI CMul fun i j => .int (i * j)) (oIC CMul fun i j => .int (i * j)) := opi_IC fun _ _ _ _ _ => .int _
theorem opi_fdiv : OpI K (rI CDiv fun i j => .int (i / j)) (oIC CDiv fun i j => .int (i / j)) := opi_IC fun _ _ _ _ _ => .int _
theorem opi_fdivW : OpI K (rI CDivW fun i j => .int (i / j)) (oIC CDivW fun i j => .int (i / j)) := opi_IC fun _ _ _ _ _ => .int _
theorem opi_mod : OpI K (rI (fun _ j => 0 < j) fun i j => .int (i % j)) (oIC (fun _ j => 0 < j) fun i j => .int (i % j)) := opi_IC fun _ _ _ _ _ => .int _
theorem opi_pow : OpI K (rI CPow fun i j => .int (i ^ j.toNat)) (oIC CPow fun i j => .int (i ^ j.toNat)) := opi_IC fun _ _ _ _ _ => .int _
theorem opi_lt : OpI K (rI0 fun i j => .bl (decide (i < j))) (oI fun i j => .bl (decide (i < j))) := opi_I fun _ _ _ _ _ => .bl _
theorem opi_le : OpI K (rI0 fun i j => .bl (decide (i ≤ j))) (oI fun i j => .bl (decide (i ≤ j))) := opi_I fun _ _ _ _ _ => .bl _
theorem opi_gt : OpI K (rI0 fun i j => .bl (decide (j < i))) (oI fun i j => .bl (decide (j < i))) := opi_I fun _ _ _ _ _ => .bl _
theorem opi_ge : OpI K (rI0 fun i j => .bl (decide (j ≤ i))) (oI fun i j => .bl (decide (j ≤ i))) := opi_I fun _ _ _ _ _ => .bl _
def oNeg : D → Sto → R D := fun x S => match x with
  | .int i => .ok (.int (-i)) S
  | _ => .bad
@[simp] theorem oNeg_int {i : Int} : oNeg (.int i) S = .ok (.int (-i)) S := rfl
theorem uni_neg : UnI K (rU fun i => .int (-i)) oNeg := by
  intro φ S H x v X r hx Q p
  unfold oNeg at p
  split at p
  · cases hx
    exact ⟨_, rfl, p.here r (VR.int _)⟩
  · exact p.elim
/-! ### == of scalars -/
/-- scalars, as they are told -/
def scV : D → Option V
  | .non => some .non
  | .bl b => some (.bl b)
  | .int i => some (.int i)
  | .str x => some (.str x)
  | _ => none
theorem scV_eq {d : D} {u v : V} (h : scV d = some u) (r : VR K φ n H d v) : v = u := by
  cases r <;> simp [scV] at h <;> exact h
def oEqS : D → D → Sto → R D := fun x y S => match scV x, scV y with
  | some u, some w => if scal u w = true then .ok (.bl (decide (u = w))) S else .bad
  | _, _ => .bad
def oNeS : D → D → Sto → R D := fun x y S => match scV x, scV y with
  | some u, some w => if scal u w = true then .ok (.bl (!decide (u = w))) S else .bad
  | _, _ => .bad
@[simp] theorem oEqS_int {i j : Int} : oEqS (.int i) (.int j) S = .ok (.bl (decide (i = j))) S := by simp [oEqS, scV, scal]
@[simp] theorem oNeS_int {i j : Int} : oNeS (.int i) (.int j) S = .ok (.bl (!decide (i = j))) S := by simp [oNeS, scV, scal]
@[simp] theorem oEqS_str {i j : Str} : oEqS (.str i) (.str j) S = .ok (.bl (decide (i = j))) S := by simp [oEqS, scV, scal]
@[simp] theorem oNeS_str {i j : Str} : oNeS (.str i) (.str j) S = .ok (.bl (!decide (i = j))) S := by simp [oNeS, scV, scal]
@[simp] theorem oEqS_bl {i j : Bool} : oEqS (.bl i) (.bl j) S = .ok (.bl (decide (i = j))) S := by simp [oEqS, scV, scal]
@[simp] theorem oNeS_bl {i j : Bool} : oNeS (.bl i) (.bl j) S = .ok (.bl (!decide (i = j))) S := by simp [oNeS, scV, scal]
theorem opi_eqS : OpI K rEq oEqS := by
  intro φ S H x y v w X r hx hy Q p
  unfold oEqS at p
  split at p
  · rename_i a b ha hb
    rw [scV_eq ha hx, scV_eq hb hy]
    split at p
    · rename_i hc
      exact ⟨hc, p.here r (VR.bl _)⟩
    · exact p.elim
  · exact p.elim
theorem opi_neS : OpI K rNe oNeS := by
  intro φ S H x y v w X r hx hy Q p
  unfold oNeS at p
  split at p
  · rename_i a b ha hb
    rw [scV_eq ha hx, scV_eq hb hy]
    split at p
    · rename_i hc
      exact ⟨hc, p.here r (VR.bl _)⟩
    · exact p.elim
  · exact p.elim
/-! ### data -/
mutual
/-- what the value d, read in the store, is -/
inductive DD (S : Sto) : D → PyData → Prop where
  | non : DD S .non .none
  | bl (b : Bool) : DD S (.bl b) (.bool b)
  | int (i : Int) : DD S (.int i) (.int i)
  | str (x : Str) : DD S (.str x) (.str x)
  | lst {l : Nat} {xs : List D} {ps : List PyData} (h : rdL S l = some xs) (t : DDs S xs ps) : DD S (.ref l) (.list ps)
  | tup {xs : List D} {ps : List PyData} (t : DDs S xs ps) : DD S (.tup xs) (.tuple ps)
inductive DDs (S : Sto) : List D → List PyData → Prop where
  | nil : DDs S [] []
  | cons {x : D} {p : PyData} {xs : List D} {ps : List PyData} (h : DD S x p) (t : DDs S xs ps) : DDs S (x :: xs) (p :: ps)
end
mutual
theorem DD.fn : ∀ {d : D} {p q : PyData}, DD S d p → DD S d q → p = q
  | _, _, _, .non, .non => rfl
  | _, _, _, .bl _, .bl _ => rfl
  | _, _, _, .int _, .int _ => rfl
  | _, _, _, .str _, .str _ => rfl
  | _, _, _, .lst h t, .lst h' t' => by
    rw [h] at h'
    cases h'
    rw [DDs.fn t t']
  | _, _, _, .tup t, .tup t' => by rw [DDs.fn t t']
theorem DDs.fn : ∀ {d : List D} {p q : List PyData}, DDs S d p → DDs S d q → p = q
  | _, _, _, .nil, .nil => rfl
  | _, _, _, .cons h t, .cons h' t' => by rw [DD.fn h h', DDs.fn t t']
end
mutual
theorem DD.dp (r : Rel K φ S H) : ∀ {d : D} {p : PyData} {v : V}, DD S d p → VR K φ S.length H d v → Dp K H v p
  | _, _, _, .non, .non => .non
  | _, _, _, .bl b, .bl _ => .bl b
  | _, _, _, .int b, .int _ => .int b
  | _, _, _, .str b, .str _ => .str b
  | _, _, _, .lst h t, .ref _ => by
    obtain ⟨vs, h1, h2⟩ := r.rd h
    exact .lst h1 (DDs.dp r t h2)
  | _, _, _, .tup t, .tup h t' => .tup h (DDs.dp r t t')
theorem DDs.dp (r : Rel K φ S H) : ∀ {d : List D} {p : List PyData} {v : List V}, DDs S d p → VRs K φ S.length H d v → DpAll K H v p
  | _, _, _, .nil, .nil => .nil
  | _, _, _, .cons h t, .cons h' t' => .cons (DD.dp r h h') (DDs.dp r t t')
end
open Classical in
noncomputable def dataOf (S : Sto) (d : D) : Option PyData := if h : ∃ p, DD S d p then some h.choose else none
theorem dataOf_some {d : D} {p : PyData} (h : dataOf S d = some p) : DD S d p := by
  unfold dataOf at h
  split at h
  · rename_i k
    cases h
    exact k.choose_spec
  · cases h
theorem dataOf_eq {d : D} {p : PyData} (h : DD S d p) : dataOf S d = some p := by
  unfold dataOf
  rw [dif_pos ⟨p, h⟩]
  exact congrArg some (DD.fn (Exists.choose_spec (⟨p, h⟩ : ∃ p, DD S d p)) h)
noncomputable def oEqD (neg : Bool) : D → D → Sto → R D := fun x y S => match dataOf S x, dataOf S y with
  | some p, some q => if SeqAt.shaped p = true ∧ SeqAt.shaped q = true then .ok (.bl (if neg = true then !PyData.eqv p q else PyData.eqv p q)) S else .bad
  | _, _ => .bad
theorem oEqD_eq {neg : Bool} {x y : D} {p q : PyData} (hx : DD S x p) (hy : DD S y q) (sx : SeqAt.shaped p = true) (sy : SeqAt.shaped q = true) : oEqD neg x y S = .ok (.bl (if neg = true then !PyData.eqv p q else PyData.eqv p q)) S := by
  simp [oEqD, dataOf_eq hx, dataOf_eq hy, sx, sy]
theorem opi_eqD : OpI K (rEqD K) (oEqD false) := by
  intro φ S H x y v w X r hx hy Q p
  unfold oEqD at p
  split at p
  · rename_i a b ha hb
    split at p
    · rename_i hc
      exact ⟨a, b, (dataOf_some ha).dp r hx, (dataOf_some hb).dp r hy, hc.1, hc.2, p.here r (VR.bl _)⟩
    · exact p.elim
  · exact p.elim
theorem opi_neD : OpI K (rNeD K) (oEqD true) := by
  intro φ S H x y v w X r hx hy Q p
  unfold oEqD at p
  split at p
  · rename_i a b ha hb
    split at p
    · rename_i hc
      exact ⟨a, b, (dataOf_some ha).dp r hx, (dataOf_some hb).dp r hy, hc.1, hc.2, p.here r (VR.bl _)⟩
    · exact p.elim
  · exact p.elim
/-! ### None, and, or, not, if -/
def nonD : D → Bool
  | .non => true
  | _ => false
theorem isNon_eq {d : D} {v : V} (h : VR K φ n H d v) : decide (v = .non) = nonD d := by cases h <;> simp [nonD]
def xIsN (fa : Env → Sto → R D) : Env → Sto → R D := fun env S => (fa env S).bind fun x S1 => .ok (.bl (nonD x)) S1
def xNotN (fa : Env → Sto → R D) : Env → Sto → R D := fun env S => (fa env S).bind fun x S1 => .ok (.bl (!nonD x)) S1
theorem imp_isN {ta : TE} {fa : Env → Sto → R D} (ha : Imp K W (vr K) ta fa) : Imp K W (vr K) (tIsN ta) (xIsN fa) :=
  imp_bind (tb := fun (v : V) _ H (Q : VK) => Q (.bl (decide (v = .non))) H) ha fun φ S H env σ x v rl e hv Q p => by
    rw [isNon_eq hv]
    exact p.here rl (VR.bl _)
theorem imp_notN {ta : TE} {fa : Env → Sto → R D} (ha : Imp K W (vr K) ta fa) : Imp K W (vr K) (tNotN ta) (xNotN fa) :=
  imp_bind (tb := fun (v : V) _ H (Q : VK) => Q (.bl (!decide (v = .non))) H) ha fun φ S H env σ x v rl e hv Q p => by
    rw [isNon_eq hv]
    exact p.here rl (VR.bl _)
/-- a truth value as a value -/
def asB {α : Type} (x : D) (g : Bool → R α) : R α := match x with
  | .bl b => g b
  | _ => .bad
@[simp] theorem asB_bl {α : Type} {b : Bool} {g : Bool → R α} : asB (.bl b) g = g b := rfl
def xAndV (fa fb : Env → Sto → R D) : Env → Sto → R D := fun env S => (fa env S).bind fun x S1 => asB x fun b => if b = true then fb env S1 else .ok (.bl false) S1
def xOrV (fa fb : Env → Sto → R D) : Env → Sto → R D := fun env S => (fa env S).bind fun x S1 => asB x fun b => if b = true then .ok (.bl true) S1 else fb env S1
def xNotV (fa : Env → Sto → R D) : Env → Sto → R D := fun env S => (fa env S).bind fun x S1 => asB x fun b => .ok (.bl (!b)) S1
theorem asB_inv {x : D} {v : V} {g : Bool → R α} {Q : β → Hp → Prop} (h : VR K φ n H x v) (p : Post K ρ φ1 n1 H1 X (asB x g) Q) : ∃ b, v = .bl b ∧ Post K ρ φ1 n1 H1 X (g b) Q := by
  unfold asB at p
  split at p
  · cases h
    exact ⟨_, rfl, p⟩
  · exact p.elim
theorem imp_andV {ta tb : TE} {fa fb : Env → Sto → R D} (ha : Imp K W (vr K) ta fa) (hb : Imp K W (vr K) tb fb) : Imp K W (vr K) (tAndV ta tb) (xAndV fa fb) :=
  imp_bind (tb := fun (v : V) σ H (Q : VK) => ∃ c, v = .bl c ∧ if c = true then tb σ H Q else Q (.bl false) H) ha fun φ S H env σ x v rl e hv Q p => by
    obtain ⟨b, rfl, p⟩ := asB_inv hv p
    refine ⟨b, rfl, ?_⟩
    cases b with
    | true => exact hb φ S H env σ rl e Q p
    | false => exact p.here rl (VR.bl _)
theorem imp_orV {ta tb : TE} {fa fb : Env → Sto → R D} (ha : Imp K W (vr K) ta fa) (hb : Imp K W (vr K) tb fb) : Imp K W (vr K) (tOrV ta tb) (xOrV fa fb) :=
  imp_bind (tb := fun (v : V) σ H (Q : VK) => ∃ c, v = .bl c ∧ if c = true then Q (.bl true) H else tb σ H Q) ha fun φ S H env σ x v rl e hv Q p => by
    obtain ⟨b, rfl, p⟩ := asB_inv hv p
    refine ⟨b, rfl, ?_⟩
    cases b with
    | true => exact p.here rl (VR.bl _)
    | false => exact hb φ S H env σ rl e Q p
theorem imp_notV {ta : TE} {fa : Env → Sto → R D} (ha : Imp K W (vr K) ta fa) : Imp K W (vr K) (tNotV ta) (xNotV fa) :=
  imp_bind (tb := fun (v : V) _ H (Q : VK) => ∃ c, v = .bl c ∧ Q (.bl (!c)) H) ha fun φ S H env σ x v rl e hv Q p => by
    obtain ⟨b, rfl, p⟩ := asB_inv hv p
    exact ⟨b, rfl, p.here rl (VR.bl _)⟩
/-! ### tests -/
def xB (fa : Env → Sto → R D) : Env → Sto → R Bool := fun env S => (fa env S).bind fun x S1 => asB x fun b => .ok b S1
theorem imp_test {ta : TE} {fa : Env → Sto → R D} (ha : Imp K W (vr K) ta fa) : Imp K W same (tTest ta) (xB fa) :=
  imp_bind (tb := fun (v : V) _ H (Q : Bool → Hp → Prop) => ∃ k, v = .bl k ∧ Q k H) ha fun φ S H env σ x v rl e hv Q p => by
    obtain ⟨b, rfl, p⟩ := asB_inv hv p
    exact ⟨b, rfl, p.here rl rfl⟩
theorem imp_tB {ta : TE} {fa : Env → Sto → R D} (ha : Imp K W (vr K) ta fa) : Imp K W same (tB ta) (xB fa) :=
  imp_bind (tb := fun (v : V) _ H (Q : Bool → Hp → Prop) => ∃ k, v = .bl k ∧ Q k H) ha fun φ S H env σ x v rl e hv Q p => by
    obtain ⟨b, rfl, p⟩ := asB_inv hv p
    exact ⟨b, rfl, p.here rl rfl⟩
def xAnd (fa fb : Env → Sto → R Bool) : Env → Sto → R Bool := fun env S => (fa env S).bind fun b S1 => if b = true then fb env S1 else .ok false S1
def xOr (fa fb : Env → Sto → R Bool) : Env → Sto → R Bool := fun env S => (fa env S).bind fun b S1 => if b = true then .ok true S1 else fb env S1
def xNot (fa : Env → Sto → R Bool) : Env → Sto → R Bool := fun env S => (fa env S).bind fun b S1 => .ok (!b) S1
theorem imp_and {ta tb : TT} {fa fb : Env → Sto → R Bool} (ha : Imp K W same ta fa) (hb : Imp K W same tb fb) : Imp K W same (tAnd ta tb) (xAnd fa fb) :=
  imp_bind (tb := fun (c : Bool) σ H (Q : Bool → Hp → Prop) => if c = true then tb σ H Q else Q false H) ha fun φ S H env σ x v rl e hv Q p => by
    obtain rfl : x = v := hv
    cases x with
    | true => exact hb φ S H env σ rl e Q p
    | false => exact p.here rl rfl
theorem imp_or {ta tb : TT} {fa fb : Env → Sto → R Bool} (ha : Imp K W same ta fa) (hb : Imp K W same tb fb) : Imp K W same (tOr ta tb) (xOr fa fb) :=
  imp_bind (tb := fun (c : Bool) σ H (Q : Bool → Hp → Prop) => if c = true then Q true H else tb σ H Q) ha fun φ S H env σ x v rl e hv Q p => by
    obtain rfl : x = v := hv
    cases x with
    | true => exact p.here rl rfl
    | false => exact hb φ S H env σ rl e Q p
theorem imp_not {ta : TT} {fa : Env → Sto → R Bool} (ha : Imp K W same ta fa) : Imp K W same (tNot ta) (xNot fa) :=
  imp_bind (tb := fun (c : Bool) _ H (Q : Bool → Hp → Prop) => Q (!c) H) ha fun φ S H env σ x v rl e hv Q p => by
    obtain rfl : x = v := hv
    exact p.here rl rfl
def xIf {α : Type} (t : Env → Sto → R Bool) (fa fb : Env → Sto → R α) : Env → Sto → R α := fun env S => (t env S).bind fun b S1 => if b = true then fa env S1 else fb env S1
theorem imp_if {tt : TT} {ta tb : TE} {ft : Env → Sto → R Bool} {fa fb : Env → Sto → R D} (ht : Imp K W same tt ft) (ha : Imp K W (vr K) ta fa) (hb : Imp K W (vr K) tb fb) : Imp K W (vr K) (tIf tt ta tb) (xIf ft fa fb) :=
  imp_bind (tb := fun (c : Bool) σ H (Q : VK) => if c = true then ta σ H Q else tb σ H Q) ht fun φ S H env σ x v rl e hv Q p => by
    obtain rfl : x = v := hv
    cases x with
    | true => exact ha φ S H env σ rl e Q p
    | false => exact hb φ S H env σ rl e Q p
def xYes : Env → Sto → R Bool := fun _ S => .ok true S
theorem imp_yes : Imp K W same tYes xYes := fun φ S H env σ r e Q p => p.here r rfl
/-- a chain of two comparisons -/
def xChain (o o' : D → D → Sto → R D) (fa fb fc : Env → Sto → R D) : Env → Sto → R D := fun env S => (fa env S).bind fun x S1 => (fb env S1).bind fun y S2 => (o x y S2).bind fun z S3 => asB z fun k =>
  if k = true then (fc env S3).bind fun u S4 => o' y u S4 else .ok (.bl false) S3
theorem OpI.go {r : R2} {o : D → D → Sto → R D} (h : OpI K r o) {x y : D} {v w : V} {g : D → Sto → R γ} {tb : V → Hp → Prop} (rl : Rel K φ S H) (hx : VR K φ S.length H x v) (hy : VR K φ S.length H y w) {Q : δ → Hp → Prop}
    (p : Post K ρ' φ S.length H X ((o x y S).bind g) Q)
    (hb : ∀ φ1 S1 H1 z u, Fut K φ S.length H φ1 S1.length H1 → Rel K φ1 S1 H1 → VR K φ1 S1.length H1 z u → Post K ρ' φ1 S1.length H1 X (g z S1) Q → tb u H1) (he : ∀ c fs S', o x y S ≠ .exc c fs S') : r v w H tb := by
  refine h φ S H x y v w X rl hx hy _ ?_
  cases hf : o x y S with
  | ok z S1 =>
    rw [hf] at p
    exact fun φ' H' v f r' hv => hb φ' S1 H' z v f r' hv (p.fut f)
  | exc c fs S1 => exact (he c fs S1 hf).elim
  | bad =>
    rw [hf] at p
    exact p
end
end Mi

namespace Mi
open PySem PySem.Spec PyProof.Rows L2 Evl My
section
variable {K : PySem.W.Frag} {φ φ1 φ' : Nat → Addr} {n n1 n' : Nat} {H H1 H' : Hp} {X : XK} {W : WX} {S : Sto}
/-! ### arguments, displays -/
def xNil : Env → Sto → R (List D) := fun _ S => .ok [] S
def xCons (fa : Env → Sto → R D) (fr : Env → Sto → R (List D)) : Env → Sto → R (List D) := fun env S => (fa env S).bind fun x S1 => (fr env S1).bind fun xs S2 => .ok (x :: xs) S2
theorem imp_nil : Imp K W (vrs K) tNil xNil := fun φ S H env σ r e Q p => p.here r VRs.nil
theorem imp_cons {ta : TE} {tr : TA} {fa : Env → Sto → R D} {fr : Env → Sto → R (List D)} (ha : Imp K W (vr K) ta fa) (hr : Imp K W (vrs K) tr fr) : Imp K W (vrs K) (tCons ta tr) (xCons fa fr) :=
  imp_bind (tb := fun (v : V) σ H (Q : List V → Hp → Prop) => tr σ H fun vs H2 => Q (v :: vs) H2) ha fun φ S H env σ x v rl e hv Q p => hr.go rl e p fun φ1 S1 H1 xs vs f r1 _ hvs p1 => p1.here r1 (VRs.cons (VR.fut f hv) hvs)
def xTup (fa : Env → Sto → R (List D)) : Env → Sto → R D := fun env S => (fa env S).bind fun xs S1 => if xs.length ≤ 100000 then .ok (.tup xs) S1 else .bad
def xLst (fa : Env → Sto → R (List D)) : Env → Sto → R D := fun env S => (fa env S).bind fun xs S1 => if xs.length ≤ 100000 then .ok (.ref S1.length) (S1 ++ [.lst xs]) else .bad
theorem imp_tup {ta : TA} {fa : Env → Sto → R (List D)} (ha : Imp K W (vrs K) ta fa) : Imp K W (vr K) (tTup ta) (xTup fa) :=
  imp_bind (tb := fun (xs : List V) _ H (Q : VK) => xs.length ≤ sizeLine ∧ ∀ p, H p = none → Q (.ref p) (upd H p (.tup xs))) ha fun φ S H env σ x v rl e hv Q p => by
    split at p
    · rename_i hl
      refine ⟨by rw [VRs.len hv]; exact sz_of hl, fun a ha => p.tup rl ha hv⟩
    · exact p.elim
theorem or_lst {xs : List D} {vs : List V} {p : Addr} (hp : H p = none) (h : VRs K φ n H xs vs) : OR K (nxt φ n p) (n + 1) (upd H p (.lst vs)) p (.lst xs) := ⟨vs, upd_same, h.fut (Fut.new hp)⟩
theorem imp_lst {ta : TA} {fa : Env → Sto → R (List D)} (ha : Imp K W (vrs K) ta fa) : Imp K W (vr K) (tLst ta) (xLst fa) :=
  imp_bind (tb := fun (xs : List V) _ H (Q : VK) => xs.length ≤ sizeLine ∧ ∀ p, H p = none → Q (.ref p) (upd H p (.lst xs))) ha fun φ S H env σ x v rl e hv Q p => by
    split at p
    · rename_i hl
      exact ⟨by rw [VRs.len hv]; exact sz_of hl, fun a ha => p.new rl ha (or_lst ha hv)⟩
    · exact p.elim
/-! ### places in lists and tuples -/
theorem VRs.atI {xs : List D} {vs : List V} {i : Int} {x : D} (h : VRs K φ n H xs vs) (e : L2.atI xs i = some x) : ∃ v, L2.atI vs i = some v ∧ VR K φ n H x v := by
  obtain ⟨j, hj, hx⟩ := Option.bind_eq_some_iff.mp (show (ixN xs.length i).bind (fun j => xs[j]?) = some x from e)
  obtain ⟨v, hv, q⟩ := h.get hx
  refine ⟨v, ?_, q⟩
  show (ixN vs.length i).bind (fun j => vs[j]?) = some v
  rw [h.len, hj]
  exact hv
def oIxL : D → D → Sto → R D := fun x y S => match x, y with
  | .ref l, .int i => match (rdL S l).bind fun xs => atI xs i with
    | some d => .ok d S
    | none => .bad
  | _, _ => .bad
theorem oIxL_eq {l : Nat} {i : Int} {xs : List D} {d : D} (h : rdL S l = some xs) (e : atI xs i = some d) : oIxL (.ref l) (.int i) S = .ok d S := by simp [oIxL, h, e]
theorem opi_ixL : OpI K (rIxL K) oIxL := by
  intro φ S H x y v w X r hx hy Q p
  unfold oIxL at p
  split at p
  · split at p
    · rename_i d hd
      obtain ⟨xs, h1, h2⟩ := Option.bind_eq_some_iff.mp hd
      cases hx; cases hy
      obtain ⟨vs, q1, q2⟩ := r.rd h1
      obtain ⟨u, hu, q3⟩ := q2.atI h2
      exact ⟨_, vs, _, u, rfl, rfl, q1, hu, p.here r q3⟩
    · exact p.elim
  · exact p.elim
def oIxT : D → D → Sto → R D := fun x y S => match x, y with
  | .tup xs, .int i => match atI xs i with
    | some d => .ok d S
    | none => .bad
  | _, _ => .bad
theorem oIxT_eq {i : Int} {xs : List D} {d : D} (e : atI xs i = some d) : oIxT (.tup xs) (.int i) S = .ok d S := by simp [oIxT, e]
theorem opi_ixT : OpI K (rIxT K) oIxT := by
  intro φ S H x y v w X r hx hy Q p
  unfold oIxT at p
  split at p
  · split at p
    · rename_i d hd
      cases hy
      obtain ⟨a, vs, rfl, q1, q2⟩ := hx.tup_inv
      obtain ⟨u, hu, q3⟩ := q2.atI hd
      exact ⟨_, vs, _, u, rfl, rfl, q1, hu, p.here r q3⟩
    · exact p.elim
  · exact p.elim
def oIxS : D → D → Sto → R D := fun x y S => match x, y with
  | .str z, .int i => if z.length ≤ 100000 then match atI z.cps.toList i with
    | some c => .ok (.str ⟨#[c]⟩) S
    | none => .bad
    else .bad
  | _, _ => .bad
theorem oIxS_eq {z : Str} {i : Int} {c : Nat} (h : z.length ≤ 100000) (e : atI z.cps.toList i = some c) : oIxS (.str z) (.int i) S = .ok (.str ⟨#[c]⟩) S := by simp [oIxS, h, e]
theorem opi_ixS : OpI K rIxS oIxS := by
  intro φ S H x y v w X r hx hy Q p
  unfold oIxS at p
  split at p
  · split at p
    · rename_i hl
      split at p
      · rename_i c hd
        cases hx; cases hy
        exact ⟨_, _, c, rfl, rfl, sz_of hl, hd, p.here r (VR.str _)⟩
      · exact p.elim
    · exact p.elim
  · exact p.elim
/-! ### in -/
def scVs : List D → Option (List V)
  | [] => some []
  | x :: xs => (scV x).bind fun v => (scVs xs).map fun vs => v :: vs
theorem flat_of {d : D} {v : V} (h : scV d = some v) : flatV v = true := by cases d <;> simp [scV] at h <;> subst h <;> rfl
theorem scVs_eq : ∀ {xs : List D} {ws vs : List V}, scVs xs = some ws → VRs K φ n H xs vs → vs = ws ∧ ws.all flatV = true
  | [], ws, _, h, .nil => by cases h; exact ⟨rfl, rfl⟩
  | x :: xs, ws, _, h, .cons q t => by
    obtain ⟨v, h1, h2⟩ := Option.bind_eq_some_iff.mp h
    obtain ⟨us, h3, h4⟩ := Option.map_eq_some_iff.mp h2
    obtain ⟨e1, e2⟩ := scVs_eq h3 t
    subst h4
    rw [scV_eq h1 q, e1]
    exact ⟨rfl, by rw [List.all_cons, flat_of h1, e2]; rfl⟩
theorem scVs_ints : ∀ ns : List Int, scVs (ns.map D.int) = some (ns.map V.int)
  | [] => rfl
  | i :: r => by simp [scVs, scV, scVs_ints r]
theorem scVs_strs : ∀ ns : List Str, scVs (ns.map D.str) = some (ns.map V.str)
  | [] => rfl
  | i :: r => by simp [scVs, scV, scVs_strs r]
def itemsOf (S : Sto) : D → Option (List D)
  | .ref l => rdL S l
  | .tup xs => some xs
  | _ => none
@[simp] theorem itemsOf_ref {l : Nat} : itemsOf S (.ref l) = rdL S l := rfl
@[simp] theorem itemsOf_tup {l : List D} : itemsOf S (.tup l) = some l := rfl
theorem itemsOf_eq {y : D} {v : V} {xs : List D} (r : Rel K φ S H) (h : itemsOf S y = some xs) (hy : VR K φ S.length H y v) : ∃ p vs, v = .ref p ∧ (SqL K H p vs ∨ SqT K H p vs) ∧ VRs K φ S.length H xs vs := by
  cases y with
  | ref l =>
    obtain ⟨_, rfl⟩ := hy.ref_inv
    obtain ⟨vs, q1, q2⟩ := r.rd h
    exact ⟨_, vs, rfl, .inl q1, q2⟩
  | tup ys =>
    cases h
    obtain ⟨a, vs, rfl, q1, q2⟩ := hy.tup_inv
    exact ⟨_, vs, rfl, .inr q1, q2⟩
  | _ => cases h
def oIn (neg : Bool) : D → D → Sto → R D := fun x y S => match scV x, (itemsOf S y).bind scVs with
  | some u, some ws => .ok (.bl (if neg = true then !inV u ws else inV u ws)) S
  | _, _ => .bad
theorem opi_in {neg : Bool} : OpI K (rIn K neg) (oIn neg) := by
  intro φ S H x y v w X r hx hy Q p
  unfold oIn at p
  split at p
  · rename_i u ws h1 h2
    obtain ⟨xs, h3, h4⟩ := Option.bind_eq_some_iff.mp h2
    obtain ⟨a, vs, rfl, q1, q2⟩ := itemsOf_eq r h3 hy
    obtain ⟨rfl, q3⟩ := scVs_eq h4 q2
    rw [scV_eq h1 hx]
    exact ⟨a, _, rfl, q1, flat_of h1, q3, p.here r (VR.bl _)⟩
  · exact p.elim
/-! ### list + list, list * n, tuple + tuple, texts -/
def oCat : D → D → Sto → R D := fun x y S => match x, y with
  | .ref l, .ref b => match at_ S l, at_ S b with
    | some (.lst xs), some (.lst ys) => if xs.length + ys.length ≤ 100000 then .ok (.ref S.length) (S ++ [.lst (xs ++ ys)]) else .bad
    | _, _ => .bad
  | _, _ => .bad
theorem oCat_eq {l b : Nat} {xs ys : List D} (h : at_ S l = some (.lst xs)) (g : at_ S b = some (.lst ys)) (hl : xs.length + ys.length ≤ 100000) : oCat (.ref l) (.ref b) S = .ok (.ref S.length) (S ++ [.lst (xs ++ ys)]) := by simp [oCat, h, g, hl]
theorem opi_cat : OpI K rCat oCat := by
  intro φ S H x y v w X r hx hy Q p
  unfold oCat at p
  split at p
  · split at p
    · rename_i xs ys h1 h2
      split at p
      · rename_i hl
        cases hx; cases hy
        obtain ⟨vs, a1, a2⟩ := r.ob _ _ h1
        obtain ⟨us, b1, b2⟩ := r.ob _ _ h2
        exact ⟨_, _, vs, us, rfl, rfl, a1, b1, sz_of (by rw [a2.len, b2.len]; exact hl), fun a ha => p.new r ha (or_lst ha (a2.app b2))⟩
      · exact p.elim
    · exact p.elim
  · exact p.elim
def oCatT : D → D → Sto → R D := fun x y S => match x, y with
  | .tup xs, .tup ys => if xs ≠ [] ∧ xs.length + ys.length ≤ 100000 then .ok (.tup (xs ++ ys)) S else .bad
  | _, _ => .bad
def oAddS : D → D → Sto → R D := fun x y S => match x, y with
  | .str a, .str b => if a.length + b.length ≤ 100000 then .ok (.str (a ++ b)) S else .bad
  | _, _ => .bad
theorem oAddS_eq {a b : Str} (h : a.length + b.length ≤ 100000) : oAddS (.str a) (.str b) S = .ok (.str (a ++ b)) S := by simp [oAddS, h]
theorem opi_addS : OpI K (fun x y H Q => ∃ i j, x = .str i ∧ y = .str j ∧ i.length + j.length ≤ sizeLine ∧ Q (.str (i ++ j)) H) oAddS := by
  intro φ S H x y v w X r hx hy Q p
  unfold oAddS at p
  split at p
  · split at p
    · rename_i hl
      cases hx; cases hy
      exact ⟨_, _, rfl, rfl, sz_of hl, p.here r (VR.str _)⟩
    · exact p.elim
  · exact p.elim
def oLtS : D → D → Sto → R D := fun x y S => match x, y with
  | .str a, .str b => .ok (.bl (decide (a.cps.toList < b.cps.toList))) S
  | _, _ => .bad
theorem opi_ltS : OpI K (fun x y H Q => ∃ i j, x = .str i ∧ y = .str j ∧ Q (.bl (decide (i.cps.toList < j.cps.toList))) H) oLtS := by
  intro φ S H x y v w X r hx hy Q p
  unfold oLtS at p
  split at p
  · cases hx; cases hy
    exact ⟨_, _, rfl, rfl, p.here r (VR.bl _)⟩
  · exact p.elim
def oInS (neg : Bool) : D → D → Sto → R D := fun x y S => match x, y with
  | .str i, .str j => .ok (.bl (if neg = true then !(!(Builtin.Str.occurrences j i 0 j.length 1).isEmpty) else !(Builtin.Str.occurrences j i 0 j.length 1).isEmpty)) S
  | _, _ => .bad
theorem opi_inS : OpI K (fun x y H Q => ∃ i j, x = .str i ∧ y = .str j ∧ Q (.bl (!(Builtin.Str.occurrences j i 0 j.length 1).isEmpty)) H) (oInS false) := by
  intro φ S H x y v w X r hx hy Q p
  unfold oInS at p
  split at p
  · cases hx; cases hy
    exact ⟨_, _, rfl, rfl, p.here r (VR.bl _)⟩
  · exact p.elim
theorem opi_niS : OpI K (fun x y H Q => ∃ i j, x = .str i ∧ y = .str j ∧ Q (.bl (!(!(Builtin.Str.occurrences j i 0 j.length 1).isEmpty))) H) (oInS true) := by
  intro φ S H x y v w X r hx hy Q p
  unfold oInS at p
  split at p
  · cases hx; cases hy
    exact ⟨_, _, rfl, rfl, p.here r (VR.bl _)⟩
  · exact p.elim
theorem VRs.rep {xs : List D} {vs : List V} (h : VRs K φ n H xs vs) : ∀ k, VRs K φ n H (List.flatten (List.replicate k xs)) (List.flatten (List.replicate k vs))
  | 0 => .nil
  | k + 1 => by
    rw [List.replicate_succ, List.replicate_succ, List.flatten_cons, List.flatten_cons]
    exact h.app (VRs.rep h k)
/-! ### slices -/
def xNoPart : Env → Sto → R (Option Int) := fun _ S => .ok none S
def xPart (fa : Env → Sto → R D) : Env → Sto → R (Option Int) := fun env S => (fa env S).bind fun x S1 => match x with
  | .int i => .ok (some i) S1
  | _ => .bad
theorem imp_noPart : Imp K W same tNoPart xNoPart := fun φ S H env σ r e Q p => p.here r rfl
theorem imp_part {ta : TE} {fa : Env → Sto → R D} (ha : Imp K W (vr K) ta fa) : Imp K W same (tPart ta) (xPart fa) :=
  imp_bind (tb := fun (v : V) _ H (Q : Option Int → Hp → Prop) => ∃ i, v = .int i ∧ Q (some i) H) ha fun φ S H env σ x v rl e hv Q p => by
    split at p
    · cases hv
      exact ⟨_, rfl, p.here rl rfl⟩
    · exact p.elim
def SlI (K : PySem.W.Frag) (r : V → Option Int → Option Int → Hp → VK → Prop) (o : D → Option Int → Option Int → Sto → R D) : Prop := ∀ φ S H x v lo hi X, Rel K φ S H → VR K φ S.length H x v → ∀ Q, Post K (vr K) φ S.length H X (o x lo hi S) Q → r v lo hi H Q
def xSl (o : D → Option Int → Option Int → Sto → R D) (fa : Env → Sto → R D) (fl fh : Env → Sto → R (Option Int)) : Env → Sto → R D := fun env S => (fa env S).bind fun x S1 => (fl env S1).bind fun lo S2 => (fh env S2).bind fun hi S3 => o x lo hi S3
theorem imp_sl {r : V → Option Int → Option Int → Hp → VK → Prop} {o : D → Option Int → Option Int → Sto → R D} {ta : TE} {tl th : TO} {fa : Env → Sto → R D} {fl fh : Env → Sto → R (Option Int)} (hr : SlI K r o) (ha : Imp K W (vr K) ta fa) (hl : Imp K W same tl fl) (hh : Imp K W same th fh) :
    Imp K W (vr K) (tSl r ta tl th) (xSl o fa fl fh) :=
  imp_bind (tb := fun (v : V) σ H (Q : VK) => tl σ H fun l H2 => th σ H2 fun u H3 => r v l u H3 Q) ha fun φ S H env σ x v rl e hv Q p => hl.go rl e p fun φ1 S1 H1 lo lo' f r1 e1 h1 p1 => hh.go r1 e1 p1 fun φ2 S2 H2 hi hi' f2 r2 e2 h2 p2 => by
    obtain rfl : lo = lo' := h1
    obtain rfl : hi = hi' := h2
    exact hr φ2 S2 H2 x v lo hi _ r2 (VR.fut f2 (VR.fut f hv)) Q p2
/-- a slice's items -/
def cutX {α : Type} (xs : List α) (lo hi : Option Int) : List α := (xs.drop (HT.sIx xs.length 0 lo)).take (HT.sIx xs.length xs.length hi - HT.sIx xs.length 0 lo)
theorem VRs.cut {xs : List D} {vs : List V} {lo hi : Option Int} (h : VRs K φ n H xs vs) : VRs K φ n H (cutX xs lo hi) (cutV vs lo hi) := by
  unfold cutX cutV
  rw [h.len]
  exact (h.drop _).take _
def oSlL : D → Option Int → Option Int → Sto → R D := fun x lo hi S => match x with
  | .ref l => match rdL S l with
    | some xs => .ok (.ref S.length) (S ++ [.lst (cutX xs lo hi)])
    | none => .bad
  | _ => .bad
theorem oSlL_eq {l : Nat} {xs : List D} {lo hi : Option Int} (h : rdL S l = some xs) : oSlL (.ref l) lo hi S = .ok (.ref S.length) (S ++ [.lst (cutX xs lo hi)]) := by simp [oSlL, h]
theorem sli_L : SlI K (rSlL K) oSlL := by
  intro φ S H x v lo hi X r hx Q p
  unfold oSlL at p
  split at p
  · split at p
    · rename_i xs h
      cases hx
      obtain ⟨vs, q1, q2⟩ := r.rd h
      exact ⟨_, vs, rfl, q1, fun a ha => p.new r ha (or_lst ha q2.cut)⟩
    · exact p.elim
  · exact p.elim
/-! ### built-ins -/
def CallI (K : PySem.W.Frag) (r : List V → Hp → VK → Prop) (o : List D → Sto → R D) : Prop := ∀ φ S H ds vs X, Rel K φ S H → VRs K φ S.length H ds vs → ∀ Q, Post K (vr K) φ S.length H X (o ds S) Q → r vs H Q
def xCB (o : List D → Sto → R D) (fa : Env → Sto → R (List D)) : Env → Sto → R D := fun env S => (fa env S).bind o
theorem imp_cb {r : List V → Hp → VK → Prop} {o : List D → Sto → R D} {ta : TA} {fa : Env → Sto → R (List D)} (hr : CallI K r o) (ha : Imp K W (vrs K) ta fa) : Imp K W (vr K) (tCB r ta) (xCB o fa) :=
  imp_bind (tb := fun (vs : List V) _ H (Q : VK) => r vs H Q) ha fun φ S H env σ x v rl e hv Q p => hr φ S H x v _ rl hv Q p
def bLen : List D → Sto → R D := fun ds S => match ds with
  | [y] => match itemsOf S y with
    | some xs => .ok (.int xs.length) S
    | none => .bad
  | _ => .bad
theorem bLen_ref {l : Nat} {xs : List D} (h : rdL S l = some xs) : bLen [.ref l] S = .ok (.int xs.length) S := by simp [bLen, h]
@[simp] theorem bLen_tup {xs : List D} : bLen [.tup xs] S = .ok (.int xs.length) S := rfl
theorem VRs.one_inv {y : D} {vs : List V} (h : VRs K φ n H [y] vs) : ∃ v, vs = [v] ∧ VR K φ n H y v := by
  cases h with
  | cons h t => cases t; exact ⟨_, rfl, h⟩
theorem VRs.two_inv {y z : D} {vs : List V} (h : VRs K φ n H [y, z] vs) : ∃ v w, vs = [v, w] ∧ VR K φ n H y v ∧ VR K φ n H z w := by
  cases h with
  | cons h t =>
    obtain ⟨w, rfl, g⟩ := t.one_inv
    exact ⟨_, w, rfl, h, g⟩
theorem cbi_len : CallI K (rLenQ K) bLen := by
  intro φ S H ds vs X r h Q p
  unfold bLen at p
  split at p
  · split at p
    · rename_i y xs e
      obtain ⟨v, rfl, hv⟩ := h.one_inv
      obtain ⟨a, ws, rfl, q1, q2⟩ := itemsOf_eq r e hv
      refine ⟨a, ws, rfl, q1, ?_⟩
      rw [q2.len]
      exact p.here r (VR.int _)
    · exact p.elim
  · exact p.elim
def bList : List D → Sto → R D := fun ds S => match ds with
  | [y] => match itemsOf S y with
    | some xs => .ok (.ref S.length) (S ++ [.lst xs])
    | none => .bad
  | _ => .bad
theorem bList_ref {l : Nat} {xs : List D} (h : rdL S l = some xs) : bList [.ref l] S = .ok (.ref S.length) (S ++ [.lst xs]) := by simp [bList, h]
@[simp] theorem bList_tup {xs : List D} : bList [.tup xs] S = .ok (.ref S.length) (S ++ [.lst xs]) := rfl
theorem cbi_list : CallI K (rListQ K) bList := by
  intro φ S H ds vs X r h Q p
  unfold bList at p
  split at p
  · split at p
    · rename_i y xs e
      obtain ⟨v, rfl, hv⟩ := h.one_inv
      obtain ⟨a, ws, rfl, q1, q2⟩ := itemsOf_eq r e hv
      exact ⟨a, ws, rfl, q1, fun l hl => p.new r hl (or_lst hl q2)⟩
    · exact p.elim
  · exact p.elim
def bTuple : List D → Sto → R D := fun ds S => match ds with
  | [y] => match itemsOf S y with
    | some xs => .ok (.tup xs) S
    | none => .bad
  | _ => .bad
theorem bTuple_ref {l : Nat} {xs : List D} (h : rdL S l = some xs) : bTuple [.ref l] S = .ok (.tup xs) S := by simp [bTuple, h]
@[simp] theorem bTuple_tup {xs : List D} : bTuple [.tup xs] S = .ok (.tup xs) S := rfl
theorem cbi_tuple : CallI K (rTupQ K) bTuple := by
  intro φ S H ds vs X r h Q p
  unfold bTuple at p
  split at p
  · split at p
    · rename_i y xs e
      obtain ⟨v, rfl, hv⟩ := h.one_inv
      obtain ⟨a, ws, rfl, q1, q2⟩ := itemsOf_eq r e hv
      refine ⟨a, ws, rfl, ?_⟩
      rcases q1 with q1 | q1
      · exact .inl ⟨q1, fun l hl => p.tup r hl q2⟩
      · exact .inr ⟨q1, p.here r (VR.tup q1 q2)⟩
    · exact p.elim
  · exact p.elim
def bInt1 (g : Int → D) : List D → Sto → R D := fun ds S => match ds with
  | [.int i] => .ok (g i) S
  | _ => .bad
@[simp] theorem bInt1_eq {g : Int → D} {i : Int} : bInt1 g [.int i] S = .ok (g i) S := rfl
theorem cbi_abs : CallI K (fun xs H Q => ∃ i, xs = [.int i] ∧ Q (.int (if i < 0 then -i else i)) H) (bInt1 fun i => .int (if i < 0 then -i else i)) := by
  intro φ S H ds vs X r h Q p
  unfold bInt1 at p
  split at p
  · obtain ⟨v, rfl, hv⟩ := h.one_inv
    cases hv
    exact ⟨_, rfl, p.here r (VR.int _)⟩
  · exact p.elim
def bInt2 (g : Int → Int → D) : List D → Sto → R D := fun ds S => match ds with
  | [.int i, .int j] => .ok (g i j) S
  | _ => .bad
@[simp] theorem bInt2_eq {g : Int → Int → D} {i j : Int} : bInt2 g [.int i, .int j] S = .ok (g i j) S := rfl
theorem cbi_max2 : CallI K (fun xs H Q => ∃ i j, xs = [.int i, .int j] ∧ Q (.int (if j > i then j else i)) H) (bInt2 fun i j => .int (if j > i then j else i)) := by
  intro φ S H ds vs X r h Q p
  unfold bInt2 at p
  split at p
  · obtain ⟨v, w, rfl, hv, hw⟩ := h.two_inv
    cases hv; cases hw
    exact ⟨_, _, rfl, p.here r (VR.int _)⟩
  · exact p.elim
theorem cbi_min2 : CallI K (fun xs H Q => ∃ i j, xs = [.int i, .int j] ∧ Q (.int (if j < i then j else i)) H) (bInt2 fun i j => .int (if j < i then j else i)) := by
  intro φ S H ds vs X r h Q p
  unfold bInt2 at p
  split at p
  · obtain ⟨v, w, rfl, hv, hw⟩ := h.two_inv
    cases hv; cases hw
    exact ⟨_, _, rfl, p.here r (VR.int _)⟩
  · exact p.elim
def bInt : List D → Sto → R D := fun ds S => match ds with
  | [.int i] => .ok (.int i) S
  | [.bl b] => .ok (.int (if b = true then 1 else 0)) S
  | _ => .bad
@[simp] theorem bInt_int {i : Int} : bInt [.int i] S = .ok (.int i) S := rfl
@[simp] theorem bInt_bl {i : Bool} : bInt [.bl i] S = .ok (.int (if i = true then 1 else 0)) S := rfl
theorem cbi_int : CallI K (fun xs H Q => (∃ i, xs = [.int i] ∧ Q (.int i) H) ∨ ∃ k, xs = [.bl k] ∧ Q (.int (if k then 1 else 0)) H) bInt := by
  intro φ S H ds vs X r h Q p
  unfold bInt at p
  split at p
  · obtain ⟨v, rfl, hv⟩ := h.one_inv
    cases hv
    exact .inl ⟨_, rfl, p.here r (VR.int _)⟩
  · obtain ⟨v, rfl, hv⟩ := h.one_inv
    cases hv
    exact .inr ⟨_, rfl, p.here r (VR.int _)⟩
  · exact p.elim
def bLenS : List D → Sto → R D := fun ds S => match ds with
  | [.str z] => if z.length ≤ 100000 then .ok (.int z.length) S else .bad
  | _ => .bad
theorem cbi_lenS : CallI K (fun xs H Q => ∃ z, xs = [.str z] ∧ z.length ≤ sizeLine ∧ Q (.int z.length) H) bLenS := by
  intro φ S H ds vs X r h Q p
  unfold bLenS at p
  split at p
  · split at p
    · rename_i hl
      obtain ⟨v, rfl, hv⟩ := h.one_inv
      cases hv
      exact ⟨_, rfl, sz_of hl, p.here r (VR.int _)⟩
    · exact p.elim
  · exact p.elim
/-- lists of ints -/
def intsOf : List D → Option (List Int)
  | [] => some []
  | .int i :: r => (intsOf r).map fun ns => i :: ns
  | _ => none
theorem intsOf_map : ∀ ns : List Int, intsOf (ns.map D.int) = some ns
  | [] => rfl
  | i :: r => by simp [intsOf, intsOf_map r]
theorem intsOf_inv : ∀ {xs : List D} {ns : List Int}, intsOf xs = some ns → xs = ns.map D.int
  | [], _, h => by cases h; rfl
  | .int i :: r, _, h => by
    obtain ⟨ns, h1, h2⟩ := Option.map_eq_some_iff.mp (show (intsOf r).map (fun ns => i :: ns) = some _ from h)
    subst h2
    rw [intsOf_inv h1]
    rfl
  | .non :: _, _, h => by cases h
  | .bl _ :: _, _, h => by cases h
  | .str _ :: _, _, h => by cases h
  | .ref _ :: _, _, h => by cases h
  | .tup _ :: _, _, h => by cases h
def bInts (g : List Int → Sto → R D) : List D → Sto → R D := fun ds S => match ds with
  | [.ref l] => match (rdL S l).bind intsOf with
    | some ns => g ns S
    | none => .bad
  | _ => .bad
theorem bInts_eq {g : List Int → Sto → R D} {l : Nat} {ns : List Int} (h : rdL S l = some (ns.map D.int)) : bInts g [.ref l] S = g ns S := by simp [bInts, h, intsOf_map]
theorem bInts_inv {ds : List D} {vs : List V} {g : List Int → Sto → R D} {Q : VK} (r : Rel K φ S H) (h : VRs K φ S.length H ds vs) (p : Post K (vr K) φ S.length H X (bInts g ds S) Q) : ∃ (a : Addr) (ns : List Int), vs = [.ref a] ∧ SqL K H a (ns.map V.int) ∧ Post K (vr K) φ S.length H X (g ns S) Q := by
  unfold bInts at p
  split at p
  · split at p
    · rename_i ns e
      obtain ⟨xs, h1, h2⟩ := Option.bind_eq_some_iff.mp e
      obtain ⟨v, rfl, hv⟩ := h.one_inv
      cases hv
      obtain ⟨ws, q1, q2⟩ := r.rd h1
      rw [intsOf_inv h2] at q2
      rw [q2.ints_inv] at q1
      exact ⟨_, ns, rfl, q1, p⟩
    · exact p.elim
  · exact p.elim
theorem cbi_sum : CallI K (rSum K) (bInts fun ns S => .ok (.int ns.sum) S) := by
  intro φ S H ds vs X r h Q p
  obtain ⟨a, ns, rfl, q1, p⟩ := bInts_inv r h p
  exact ⟨a, ns, rfl, q1, p.here r (VR.int _)⟩
/-- the greatest, the least of some ints -/
def gMax : List Int → Int
  | [] => 0
  | i :: r => r.foldl max i
def gMin : List Int → Int
  | [] => 0
  | i :: r => r.foldl min i
theorem foldl_max : ∀ (r : List Int) (i : Int), i ≤ r.foldl max i ∧ (∀ y ∈ r, y ≤ r.foldl max i) ∧ (r.foldl max i = i ∨ r.foldl max i ∈ r)
  | [], i => ⟨Int.le_refl _, by simp, .inl rfl⟩
  | y :: r, i => by
    obtain ⟨h1, h2, h3⟩ := foldl_max r (max i y)
    rw [List.foldl_cons]
    refine ⟨by omega, fun z hz => ?_, ?_⟩
    · rcases List.mem_cons.mp hz with rfl | hz
      · omega
      · exact h2 z hz
    · rcases h3 with h3 | h3
      · by_cases hm : i ≤ y
        · exact .inr (by rw [h3]; simp [Int.max_eq_right hm])
        · exact .inl (by rw [h3]; exact Int.max_eq_left (by omega))
      · exact .inr (List.mem_cons_of_mem _ h3)
theorem foldl_min : ∀ (r : List Int) (i : Int), r.foldl min i ≤ i ∧ (∀ y ∈ r, r.foldl min i ≤ y) ∧ (r.foldl min i = i ∨ r.foldl min i ∈ r)
  | [], i => ⟨Int.le_refl _, by simp, .inl rfl⟩
  | y :: r, i => by
    obtain ⟨h1, h2, h3⟩ := foldl_min r (min i y)
    rw [List.foldl_cons]
    refine ⟨by omega, fun z hz => ?_, ?_⟩
    · rcases List.mem_cons.mp hz with rfl | hz
      · omega
      · exact h2 z hz
    · rcases h3 with h3 | h3
      · by_cases hm : i ≤ y
        · exact .inl (by rw [h3]; exact Int.min_eq_left hm)
        · exact .inr (by rw [h3]; simp [Int.min_eq_right (show y ≤ i by omega)])
      · exact .inr (List.mem_cons_of_mem _ h3)
theorem gMax_spec {ns : List Int} (h : 0 < ns.length) : gMax ns ∈ ns ∧ ∀ y ∈ ns, y ≤ gMax ns := by
  cases ns with
  | nil => cases h
  | cons i r =>
    obtain ⟨h1, h2, h3⟩ := foldl_max r i
    refine ⟨?_, fun y hy => ?_⟩
    · rcases h3 with h3 | h3
      · exact List.mem_cons.mpr (.inl h3)
      · exact List.mem_cons_of_mem _ h3
    · rcases List.mem_cons.mp hy with rfl | hy
      · exact h1
      · exact h2 y hy
theorem gMin_spec {ns : List Int} (h : 0 < ns.length) : gMin ns ∈ ns ∧ ∀ y ∈ ns, gMin ns ≤ y := by
  cases ns with
  | nil => cases h
  | cons i r =>
    obtain ⟨h1, h2, h3⟩ := foldl_min r i
    refine ⟨?_, fun y hy => ?_⟩
    · rcases h3 with h3 | h3
      · exact List.mem_cons.mpr (.inl h3)
      · exact List.mem_cons_of_mem _ h3
    · rcases List.mem_cons.mp hy with rfl | hy
      · exact h1
      · exact h2 y hy
theorem cbi_max : CallI K (rMax K) (bInts fun ns S => if 0 < ns.length then .ok (.int (gMax ns)) S else .bad) := by
  intro φ S H ds vs X r h Q p
  obtain ⟨a, ns, rfl, q1, p⟩ := bInts_inv r h p
  split at p
  · rename_i hl
    refine ⟨a, ns, rfl, q1, hl, fun m hm hle => ?_⟩
    obtain ⟨g1, g2⟩ := gMax_spec hl
    obtain rfl : m = gMax ns := Int.le_antisymm (g2 m hm) (hle _ g1)
    exact p.here r (VR.int _)
  · exact p.elim
theorem cbi_min : CallI K (rMin K) (bInts fun ns S => if 0 < ns.length then .ok (.int (gMin ns)) S else .bad) := by
  intro φ S H ds vs X r h Q p
  obtain ⟨a, ns, rfl, q1, p⟩ := bInts_inv r h p
  split at p
  · rename_i hl
    refine ⟨a, ns, rfl, q1, hl, fun m hm hle => ?_⟩
    obtain ⟨g1, g2⟩ := gMin_spec hl
    obtain rfl : m = gMin ns := Int.le_antisymm (hle _ g1) (g2 m hm)
    exact p.here r (VR.int _)
  · exact p.elim
/-! ### truth -/
def truD (S : Sto) : D → Option Bool
  | .non => some false
  | .bl b => some b
  | .int i => some (i != 0)
  | .str y => if y.length ≤ 100000 then some ((y.length : Int) != 0) else none
  | .ref l => match at_ S l with
    | some (.lst xs) => some (!xs.isEmpty)
    | some (.rol xs) => some (!xs.isEmpty)
    | some (.dK kvs) => some (!kvs.isEmpty)
    | _ => none
  | .tup xs => some (!xs.isEmpty)
theorem VRs.empty {xs : List D} {vs : List V} (h : VRs K φ n H xs vs) : vs.isEmpty = xs.isEmpty := by cases h <;> rfl
theorem truD_eq {d : D} {v : V} {k : Bool} (r : Rel K φ S H) (h : truD S d = some k) (q : VR K φ S.length H d v) : TruV K v H k := by
  cases q with
  | non => cases h; rfl
  | bl b => cases h; rfl
  | int i => cases h; rfl
  | str y =>
    simp only [truD] at h
    split at h
    · rename_i hl
      cases h
      exact ⟨sz_of hl, rfl⟩
    · cases h
  | ref hl =>
    simp only [truD] at h
    split at h
    · rename_i xs e
      cases h
      obtain ⟨vs, h1, h2⟩ := r.ob _ _ e
      exact .inl ⟨vs, sq_of h1, by rw [h2.empty]⟩
    · rename_i xs e
      cases h
      obtain ⟨vs, h1, h2⟩ := r.rd (show rdL S _ = some xs by unfold rdL; rw [e])
      exact .inl ⟨vs, h1, by rw [h2.empty]⟩
    · rename_i xs e
      cases h
      obtain ⟨vs, h1, h2⟩ := r.ob _ _ e
      exact .inr (.inr ⟨vs, h1, by cases h2 <;> rfl⟩)
    · cases h
  | tup hl t =>
    cases h
    exact .inr (.inl ⟨_, hl, by rw [t.empty]⟩)
def xTru (fa : Env → Sto → R D) : Env → Sto → R Bool := fun env S => (fa env S).bind fun x S1 => match truD S1 x with
  | some b => .ok b S1
  | none => .bad
theorem imp_tru {ta : TE} {fa : Env → Sto → R D} (ha : Imp K W (vr K) ta fa) : Imp K W same (tTru K ta) (xTru fa) :=
  imp_bind (tb := fun (v : V) _ H (Q : Bool → Hp → Prop) => ∃ k, TruV K v H k ∧ Q k H) ha fun φ S H env σ x v rl e hv Q p => by
    split at p
    · rename_i b hb
      exact ⟨b, truD_eq rl hb hv, p.here rl rfl⟩
    · exact p.elim
end
end Mi

namespace Mi
open PySem PySem.Spec PyProof.Rows L2 Evl My
section
variable {K : PySem.W.Frag} {φ φ1 φ' : Nat → Addr} {n n1 n' : Nat} {H H1 H' : Hp} {X : XK} {W W1 : WX} {S : Sto} {α β γ δ : Type} {ρ : Rl α β}
/-! ### statements -/
def PostS (K : PySem.W.Frag) (W : WX) (φ : Nat → Addr) (n : Nat) (H : Hp) (r : RS) (D : Ends) : Prop := match r with
  | .nx e S' => ∀ φ' H' σ', Fut K φ n H φ' S'.length H' → Rel K φ' S' H' → ER K φ' S'.length H' e σ' → D.nx σ' H'
  | .ret d S' => ∀ φ' H' v, Fut K φ n H φ' S'.length H' → Rel K φ' S' H' → VR K φ' S'.length H' d v → D.rt v H'
  | .bk e S' => ∀ φ' H' σ', Fut K φ n H φ' S'.length H' → Rel K φ' S' H' → ER K φ' S'.length H' e σ' → D.bk σ' H'
  | .ct e S' => ∀ φ' H' σ', Fut K φ n H φ' S'.length H' → Rel K φ' S' H' → ER K φ' S'.length H' e σ' → D.ct σ' H'
  | .exc c fs e S' => ∀ φ' H' σ' dd fv, Fut K φ n H φ' S'.length H' → Rel K φ' S' H' → ER K φ' S'.length H' e σ' → H' dd = some (.xd fv) → KR K φ' S'.length H' fs fv → W (.ref (He.ga K c)) (some dd) σ' H'
  | .bad => False
theorem PostS.fut {r : RS} {D : Ends} (f : Fut K φ n H φ1 n1 H1) (h : PostS K W φ n H r D) : PostS K W φ1 n1 H1 r D := by
  cases r with
  | nx e S' => exact fun φ' H' v f' => h φ' H' v (f.trans f')
  | ret e S' => exact fun φ' H' v f' => h φ' H' v (f.trans f')
  | bk e S' => exact fun φ' H' v f' => h φ' H' v (f.trans f')
  | ct e S' => exact fun φ' H' v f' => h φ' H' v (f.trans f')
  | exc c fs e S' => exact fun φ' H' σ' dd fv f' => h φ' H' σ' dd fv (f.trans f')
  | bad => exact h
def ImpS (K : PySem.W.Frag) (W : WX) (t : TS) (f : Env → Sto → RS) : Prop := ∀ φ S H env σ, Rel K φ S H → ER K φ S.length H env σ → ∀ D, PostS K W φ S.length H (f env S) D → t D σ H
theorem Imp.goS {ta : L2.St → Hp → (β → Hp → Prop) → Prop} {fa : Env → Sto → R α} (ha : Imp K W ρ ta fa) {env : Env} {σ : L2.St} {g : α → Sto → RS} {tb : β → Hp → Prop} (r : Rel K φ S H) (e : ER K φ S.length H env σ) {D : Ends}
    (p : PostS K W φ S.length H ((fa env S).bindS env g) D)
    (hb : ∀ φ1 S1 H1 x v, Fut K φ S.length H φ1 S1.length H1 → Rel K φ1 S1 H1 → ER K φ1 S1.length H1 env σ → ρ φ1 S1.length H1 x v → PostS K W φ1 S1.length H1 (g x S1) D → tb v H1) : ta σ H tb := by
  refine ha φ S H env σ r e _ ?_
  cases hf : fa env S with
  | ok x S1 =>
    rw [hf] at p
    exact fun φ' H' v f r' hv => hb φ' S1 H' x v f r' (e.fut f) hv (p.fut f)
  | exc c fs S1 =>
    rw [hf] at p
    exact fun φ' H' dd fv f r' hd hk => p φ' H' σ dd fv f r' (e.fut f) hd hk
  | bad =>
    rw [hf] at p
    exact p
def xNext : Env → Sto → RS := fun env S => .nx env S
def xSeq (f g : Env → Sto → RS) : Env → Sto → RS := fun env S => (f env S).seq g
def xBreak : Env → Sto → RS := fun env S => .bk env S
def xCont : Env → Sto → RS := fun env S => .ct env S
def xRetN : Env → Sto → RS := fun _ S => .ret .non S
def xRet (fa : Env → Sto → R D) : Env → Sto → RS := fun env S => (fa env S).bindS env fun d S1 => .ret d S1
def xDrop (fa : Env → Sto → R D) : Env → Sto → RS := fun env S => (fa env S).bindS env fun _ S1 => .nx env S1
def xIfS (ft : Env → Sto → R Bool) (f g : Env → Sto → RS) : Env → Sto → RS := fun env S => (ft env S).bindS env fun b S1 => if b = true then f env S1 else g env S1
theorem imp_next : ImpS K W tNext xNext := fun φ S H env σ r e D p => p φ H σ Fut.refl r e
theorem imp_break : ImpS K W tBreak xBreak := fun φ S H env σ r e D p => p φ H σ Fut.refl r e
theorem imp_cont : ImpS K W tCont xCont := fun φ S H env σ r e D p => p φ H σ Fut.refl r e
theorem imp_retN : ImpS K W tRetN xRetN := fun φ S H env σ r e D p => p φ H .non Fut.refl r VR.non
theorem imp_seq {t u : TS} {f g : Env → Sto → RS} (ht : ImpS K W t f) (hu : ImpS K W u g) : ImpS K W (tSeq t u) (xSeq f g) := by
  intro φ S H env σ r e D p
  refine ht φ S H env σ r e _ ?_
  unfold xSeq at p
  cases hf : f env S with
  | nx e1 S1 =>
    rw [hf] at p
    exact fun φ' H' σ' fu r' e' => hu φ' S1 H' e1 σ' r' e' D (PostS.fut fu p)
  | ret d S1 => rw [hf] at p; exact p
  | bk e1 S1 => rw [hf] at p; exact p
  | ct e1 S1 => rw [hf] at p; exact p
  | exc c fs e1 S1 => rw [hf] at p; exact p
  | bad => rw [hf] at p; exact p
theorem imp_ret {ta : TE} {fa : Env → Sto → R D} (ha : Imp K W (vr K) ta fa) : ImpS K W (tRet ta) (xRet fa) := by
  intro φ S H env σ r e D p
  exact ha.goS r e p fun φ1 S1 H1 x v f r1 e1 hv p1 => p1 φ1 H1 v Fut.refl r1 hv
theorem imp_drop {ta : TE} {fa : Env → Sto → R D} (ha : Imp K W (vr K) ta fa) : ImpS K W (tDrop ta) (xDrop fa) := by
  intro φ S H env σ r e D p
  exact ha.goS (tb := fun _ H1 => D.nx σ H1) r e p fun φ1 S1 H1 x v f r1 e1 hv p1 => p1 φ1 H1 σ Fut.refl r1 e1
theorem imp_ifS {tt : TT} {t u : TS} {ft : Env → Sto → R Bool} {f g : Env → Sto → RS} (htt : Imp K W same tt ft) (ht : ImpS K W t f) (hu : ImpS K W u g) : ImpS K W (tIfS tt t u) (xIfS ft f g) := by
  intro φ S H env σ r e D p
  refine htt.goS (tb := fun b H1 => if b = true then t D σ H1 else u D σ H1) r e p fun φ1 S1 H1 x v f1 r1 e1 hv p1 => ?_
  obtain rfl : x = v := hv
  cases x with
  | true => exact ht φ1 S1 H1 env σ r1 e1 D p1
  | false => exact hu φ1 S1 H1 env σ r1 e1 D p1
/-! ### targets -/
def Sets (ts : List Nat) (σ σ' : L2.St) : Prop := σ'.length = σ.length ∧ ∀ i, i ∉ ts → σ'[i]? = σ[i]?
theorem Sets.refl {ts : List Nat} {σ : L2.St} : Sets ts σ σ := ⟨rfl, fun _ _ => rfl⟩
theorem Sets.trans {ts us : List Nat} {σ σ1 σ2 : L2.St} (a : Sets ts σ σ1) (b : Sets us σ1 σ2) : Sets (ts ++ us) σ σ2 := ⟨b.1.trans a.1, fun i hi => by
  rw [List.mem_append, not_or] at hi
  rw [b.2 i hi.2, a.2 i hi.1]⟩
abbrev XG := D → Env → Sto → R Env
def PostG (K : PySem.W.Frag) (ts : List Nat) (φ : Nat → Addr) (n : Nat) (H : Hp) (σ : L2.St) (r : R Env) (Q : L2.St → Hp → Prop) : Prop := match r with
  | .ok e S' => ∀ φ' H' σ', Fut K φ n H φ' S'.length H' → Rel K φ' S' H' → ER K φ' S'.length H' e σ' → Sets ts σ σ' → Q σ' H'
  | _ => False
def ImpG (K : PySem.W.Frag) (ts : List Nat) (g : TG) (fg : XG) : Prop := ∀ φ S H env σ d v, Rel K φ S H → ER K φ S.length H env σ → VR K φ S.length H d v → ∀ Q, PostG K ts φ S.length H σ (fg d env S) Q → g v σ H Q
def gNameX (i : Nat) : XG := fun d env S => .ok (env.set i (some d)) S
theorem impg_name {i : Nat} : ImpG K [i] (gName i) (gNameX i) := fun φ S H env σ d v r e hv Q p => p φ H _ Fut.refl r (e.set i hv) ⟨List.length_set .., fun j hj => List.getElem?_set_ne (by simpa [eq_comm] using hj)⟩
abbrev XGs := List D → Env → Sto → R Env
def ImpGs (K : PySem.W.Frag) (ts : List Nat) (g : TGs) (fg : XGs) : Prop := ∀ φ S H env σ ds vs, Rel K φ S H → ER K φ S.length H env σ → VRs K φ S.length H ds vs → ∀ Q, PostG K ts φ S.length H σ (fg ds env S) Q → g vs σ H Q
def gNilX : XGs := fun ds env S => match ds with
  | [] => .ok env S
  | _ => .bad
def gConsX (f : XG) (fr : XGs) : XGs := fun ds env S => match ds with
  | d :: r => match f d env S with
    | .ok e S1 => fr r e S1
    | _ => .bad
  | _ => .bad
def gTupX (k : Nat) (f : XGs) : XG := fun d env S => match d with
  | .tup xs => if xs.length = k then f xs env S else .bad
  | _ => .bad
theorem impgs_nil : ImpGs K [] gNil gNilX := by
  intro φ S H env σ ds vs r e hv Q p
  cases hv with
  | nil => exact ⟨rfl, p φ H σ Fut.refl r e Sets.refl⟩
  | cons _ _ => exact p.elim
theorem impgs_cons {ts us : List Nat} {g : TG} {gs : TGs} {f : XG} {fr : XGs} (h : ImpG K ts g f) (hr : ImpGs K us gs fr) : ImpGs K (ts ++ us) (gCons g gs) (gConsX f fr) := by
  intro φ S H env σ ds vs r e hv Q p
  cases hv with
  | nil => exact p.elim
  | @cons x v xs vs q t =>
    refine ⟨v, vs, rfl, h φ S H env σ x v r e q _ ?_⟩
    show PostG K ts φ S.length H σ (f x env S) _
    unfold gConsX at p
    cases hf : f x env S with
    | ok e1 S1 =>
      simp only [hf] at p
      intro φ' H' σ' fu r' e' s'
      refine hr φ' S1 H' e1 σ' xs vs r' e' (VRs.fut fu t) Q ?_
      cases hg : fr xs e1 S1 with
      | ok e2 S2 =>
        rw [hg] at p
        exact fun φ2 H2 σ2 f2 r2 e2 s2 => p φ2 H2 σ2 (fu.trans f2) r2 e2 (s'.trans s2)
      | exc c fs S2 => rw [hg] at p; exact p
      | bad => rw [hg] at p; exact p
    | exc c fs S1 => simp only [hf] at p; exact p.elim
    | bad => simp only [hf] at p; exact p.elim
theorem impg_tup {ts : List Nat} {k : Nat} {gs : TGs} {f : XGs} (h : ImpGs K ts gs f) : ImpG K ts (gTup K k gs) (gTupX k f) := by
  intro φ S H env σ d v r e hv Q p
  unfold gTupX at p
  split at p
  · split at p
    · rename_i hl
      obtain ⟨a, vs, rfl, q1, q2⟩ := hv.tup_inv
      exact ⟨a, vs, rfl, q1, by rw [q2.len, hl], h φ S H env σ _ vs r e q2 Q p⟩
    · exact p.elim
  · exact p.elim
/-- x[i] = v, x a list -/
def setLX (x i v : D) (S : Sto) : Option Sto := match x, i with
  | .ref l, .int k => match at_ S l with
    | some (.lst xs) => (ixN xs.length k).map fun j => S.set l (.lst (xs.set j v))
    | _ => none
  | _, _ => none
theorem setLX_eq {l : Nat} {xs : List D} {k : Int} {j : Nat} {v : D} (h : at_ S l = some (.lst xs)) (hj : ixN xs.length k = some j) : setLX (.ref l) (.int k) v S = some (S.set l (.lst (xs.set j v))) := by simp [setLX, h, hj]
def gSubX (fo fi : Env → Sto → R D) : XG := fun d env S => (fo env S).bind fun x S1 => (fi env S1).bind fun i S2 => match setLX x i d S2 with
  | some S3 => .ok env S3
  | none => .bad
theorem Imp.noW {ta : L2.St → Hp → (β → Hp → Prop) → Prop} {fa : Env → Sto → R α} (ha : Imp K (fun _ _ _ _ => True) ρ ta fa) : Imp K (fun _ _ _ _ => True) ρ ta fa := ha
theorem impg_sub {to ti : TE} {fo fi : Env → Sto → R D} (ho : Imp K W1 (vr K) to fo) (hi : Imp K W1 (vr K) ti fi) : ImpG K [] (gSub to ti rSetL) (gSubX fo fi) := by
  intro φ S H env σ d v r e hv Q p
  unfold gSubX at p
  refine ho φ S H env σ r e _ ?_
  cases hf : fo env S with
  | ok x S1 =>
    rw [hf] at p
    intro φ1 H1 u f1 r1 hu
    refine hi φ1 S1 H1 env σ r1 (e.fut f1) _ ?_
    simp only [R.bind_ok] at p
    cases hg : fi env S1 with
    | ok y S2 =>
      rw [hg] at p
      intro φ2 H2 w f2 r2 hw
      simp only [R.bind_ok] at p
      cases hs : setLX x y d S2 with
      | none => rw [hs] at p; exact p.elim
      | some S3 =>
        rw [hs] at p
        unfold setLX at hs
        split at hs
        · split at hs
          · rename_i l k _ xs hl
            obtain ⟨j, hj, rfl⟩ := Option.map_eq_some_iff.mp hs
            obtain ⟨_, rfl⟩ := (VR.fut f2 hu).ref_inv
            cases hw
            obtain ⟨ws, q1, q2⟩ := r2.ob _ _ hl
            have hv2 := VR.fut (f1.trans f2) hv
            have fw : Fut K φ2 S2.length H2 φ2 S2.length (upd H2 (φ2 l) (.lst (ws.set j v))) := Fut.upd q1 trivial
            have q := r2.put (o' := .lst (xs.set j d)) (u := .lst (ws.set j v)) hl rfl rfl ⟨_, upd_same, (q2.set j hv2).fut fw⟩
            have fz := (f1.trans f2).trans q.2
            exact ⟨_, ws, _, j, rfl, rfl, q1, by rw [q2.len]; exact hj, p _ _ _ fz q.1 (e.fut fz) Sets.refl⟩
          · cases hs
        · cases hs
    | exc c fs S2 => rw [hg] at p; exact p.elim
    | bad => rw [hg] at p; exact p.elim
  | exc c fs S1 => rw [hf] at p; exact p.elim
  | bad => rw [hf] at p; exact p.elim
def toS (r : R Env) : RS := match r with
  | .ok e S => .nx e S
  | _ => .bad
@[simp] theorem toS_ok {e : Env} : toS (.ok e S) = .nx e S := rfl
theorem PostG.of {ts : List Nat} {σ : L2.St} {r : R Env} {D : Ends} (p : PostS K W φ n H (toS r) D) : PostG K ts φ n H σ r D.nx := by
  cases r with
  | ok e S1 => exact fun φ' H' σ' f r e _ => p φ' H' σ' f r e
  | _ => exact p
def xAsg (fa : Env → Sto → R D) (fg : XG) : Env → Sto → RS := fun env S => (fa env S).bindS env fun x S1 => toS (fg x env S1)
theorem imp_asg {ta : TE} {g : TG} {fa : Env → Sto → R D} {fg : XG} {ts : List Nat} (ha : Imp K W (vr K) ta fa) (hg : ImpG K ts g fg) : ImpS K W (tAsg ta g) (xAsg fa fg) := by
  intro φ S H env σ r e D p
  exact ha.goS r e p fun φ1 S1 H1 x v f r1 e1 hv p1 => hg φ1 S1 H1 env σ x v r1 e1 hv _ (PostG.of p1)
/-- x += e of ints -/
def xAug (i : Nat) (fa : Env → Sto → R D) (o : D → D → Sto → R D) : Env → Sto → RS := fun env S => (xVar i env S).bindS env fun x S1 => (fa env S1).bindS env fun y S2 => (o x y S2).bindS env fun z S3 => .nx (env.set i (some z)) S3
theorem imp_aug {i : Nat} {ta : TE} {fa : Env → Sto → R D} {op : Int → Int → Int} (ha : Imp K W (vr K) ta fa) : ImpS K W (tAug i ta (ipI op)) (xAug i fa (oI fun i j => .int (op i j))) := by
  intro φ S H env σ r e D p
  unfold xAug xVar at p
  cases hx : env[i]? with
  | none => simp only [hx] at p; exact p.elim
  | some o =>
    cases o with
    | none => simp only [hx] at p; exact p.elim
    | some d =>
      simp only [hx, R.bindS_ok] at p
      obtain ⟨v, hv, q⟩ := e.get hx
      refine ⟨v, hv, ha.goS r e p fun φ1 S1 H1 y w f1 r1 e1 hw p1 => ?_⟩
      unfold oI at p1
      split at p1
      · cases q
        cases hw
        exact ⟨_, _, rfl, rfl, p1 φ1 H1 _ Fut.refl r1 (e1.set i (VR.int _))⟩
      · exact p1.elim
/-! ### what is walked -/
structure Itx where
  items : List D
  ok : Sto → Prop
def itr (K : PySem.W.Frag) : Rl Itx It := fun φ n H it J => ∀ φ1 S1 H1, Fut K φ n H φ1 S1.length H1 → Rel K φ1 S1 H1 → it.ok S1 →
  (∀ i x, it.items[i]? = some x → J.go i H1 ∧ ∀ v H2, J.yld i H1 v H2 → Ex H1 H2 ∧ VR K φ1 S1.length H2 x v) ∧ J.stop it.items.length H1
/-- for x in l -/
def iL (fa : Env → Sto → R D) : Env → Sto → R Itx := fun env S => (fa env S).bind fun x S1 => match x with
  | .ref l => match rdL S1 l with
    | some xs => .ok ⟨xs, fun S => rdL S l = some xs⟩ S1
    | none => .bad
  | _ => .bad
theorem imp_iL {ta : TE} {fa : Env → Sto → R D} (ha : Imp K W (vr K) ta fa) : Imp K W (itr K) (iList K ta) (iL fa) :=
  imp_bind (tb := fun (v : V) _ H (Q : It → Hp → Prop) => ∃ a, v = .ref a ∧ (∃ xs, SqL K H a xs) ∧ Q (Itl K a) H) ha fun φ S H env σ x v rl e hv Q p => by
    split at p
    · split at p
      · rename_i l _ xs h
        obtain ⟨hl, rfl⟩ := hv.ref_inv
        obtain ⟨vs, q1, q2⟩ := rl.rd h
        refine ⟨_, rfl, ⟨vs, q1⟩, p.here rl fun φ1 S1 H1 f r1 ok => ?_⟩
        obtain ⟨ws, b1, b2⟩ := r1.rd ok
        rw [f.ag l hl] at b1
        refine ⟨fun i x hx => ?_, ws, b1, by rw [b2.len]; exact Nat.le_refl _⟩
        obtain ⟨w, hw, hr⟩ := b2.get hx
        refine ⟨⟨ws, w, b1, hw⟩, fun v H2 y => ?_⟩
        obtain ⟨rfl, y⟩ := y
        have := y ws b1
        rw [hw] at this
        cases this
        exact ⟨Ex.refl _, hr⟩
      · exact p.elim
    · exact p.elim
/-- for x in t, a tuple -/
def iT (fa : Env → Sto → R D) : Env → Sto → R Itx := fun env S => (fa env S).bind fun x S1 => match x with
  | .tup xs => .ok ⟨xs, fun _ => True⟩ S1
  | _ => .bad
theorem imp_iT {ta : TE} {fa : Env → Sto → R D} (ha : Imp K W (vr K) ta fa) : Imp K W (itr K) (iTup K ta) (iT fa) :=
  imp_bind (tb := fun (v : V) _ H (Q : It → Hp → Prop) => ∃ a, v = .ref a ∧ (∃ xs, SqT K H a xs) ∧ Q (Itt K a) H) ha fun φ S H env σ x v rl e hv Q p => by
    split at p
    · rename_i xs
      obtain ⟨a, vs, rfl, q1, q2⟩ := hv.tup_inv
      refine ⟨a, rfl, ⟨vs, q1⟩, p.here rl fun φ1 S1 H1 f r1 ok => ?_⟩
      have b1 := f.tp _ _ q1
      have b2 := VRs.fut f q2
      refine ⟨fun i x hx => ?_, vs, b1, by rw [b2.len]; exact Nat.le_refl _⟩
      obtain ⟨w, hw, hr⟩ := b2.get hx
      refine ⟨⟨vs, w, b1, hw⟩, fun v H2 y => ?_⟩
      obtain ⟨rfl, y⟩ := y
      have := y vs b1
      rw [hw] at this
      cases this
      exact ⟨Ex.refl _, hr⟩
    · exact p.elim
/-- the items of a range -/
def rngD (lo : Int) (k : Nat) : List D := (List.range k).map fun (i : Nat) => .int (lo + (i : Int))
@[simp] theorem rngD_len {lo : Int} {k : Nat} : (rngD lo k).length = k := by simp [rngD]
theorem rngD_get {lo : Int} {k i : Nat} {x : D} (h : (rngD lo k)[i]? = some x) : i < k ∧ x = .int (lo + (i : Int)) := by
  have hi := (List.getElem?_eq_some_iff.mp h).1
  rw [rngD_len] at hi
  rw [rngD, List.getElem?_map, List.getElem?_range hi] at h
  exact ⟨hi, (Option.some.inj h).symm⟩
def RngOk (i : Int) : Prop := -(2 ^ 62) ≤ i ∧ i < 2 ^ 62
theorem rngOk {i : Int} (h : -1000000000 ≤ i ∧ i ≤ 1000000000) : RngOk i := by unfold RngOk; omega
open Classical in
noncomputable def iR1 (fa : Env → Sto → R (List D)) : Env → Sto → R Itx := fun env S => (fa env S).bind fun ds S1 => match ds with
  | [.int j] => if RngOk j then .ok ⟨rngD 0 j.toNat, fun _ => True⟩ S1 else .bad
  | _ => .bad
open Classical in
noncomputable def iR2 (fa : Env → Sto → R (List D)) : Env → Sto → R Itx := fun env S => (fa env S).bind fun ds S1 => match ds with
  | [.int i, .int j] => if RngOk i ∧ RngOk j then .ok ⟨rngD i (j - i).toNat, fun _ => True⟩ S1 else .bad
  | _ => .bad
theorem itr_rng {lo : Int} {k : Nat} : itr K φ n H ⟨rngD lo k, fun _ => True⟩ (Itr lo k) := fun φ1 S1 H1 f r1 _ => ⟨fun i x hx => by
    obtain ⟨hi, rfl⟩ := rngD_get hx
    refine ⟨hi, fun v H2 y => ?_⟩
    obtain ⟨rfl, rfl⟩ := y
    exact ⟨Ex.refl _, VR.int _⟩, by
    show k ≤ (rngD lo k).length
    rw [rngD_len]
    exact Nat.le_refl _⟩
theorem imp_iR1 {ta : TA} {fa : Env → Sto → R (List D)} (ha : Imp K W (vrs K) ta fa) : Imp K W (itr K) (iRng1 ta) (iR1 fa) :=
  imp_bind (tb := fun (vs : List V) _ H (Q : It → Hp → Prop) => ∃ j : Int, vs = [.int j] ∧ -(2 ^ 62) ≤ j ∧ j < 2 ^ 62 ∧ Q (Itr 0 j.toNat) H) ha fun φ S H env σ x v rl e hv Q p => by
    split at p
    · rename_i j
      obtain ⟨w, rfl, hw⟩ := hv.one_inv
      cases hw
      split at p
      · rename_i hb
        exact ⟨j, rfl, hb.1, hb.2, p.here rl itr_rng⟩
      · exact p.elim
    · exact p.elim
theorem imp_iR2 {ta : TA} {fa : Env → Sto → R (List D)} (ha : Imp K W (vrs K) ta fa) : Imp K W (itr K) (iRng2 ta) (iR2 fa) :=
  imp_bind (tb := fun (vs : List V) _ H (Q : It → Hp → Prop) => ∃ i j : Int, vs = [.int i, .int j] ∧ (-(2 ^ 62) ≤ i ∧ i < 2 ^ 62 ∧ -(2 ^ 62) ≤ j ∧ j < 2 ^ 62) ∧ Q (Itr i (j - i).toNat) H) ha fun φ S H env σ x v rl e hv Q p => by
    split at p
    · rename_i i j
      obtain ⟨w, u, rfl, hw, hu⟩ := hv.two_inv
      cases hw; cases hu
      split at p
      · rename_i hb
        exact ⟨i, j, rfl, ⟨hb.1.1, hb.1.2, hb.2.1, hb.2.2⟩, p.here rl itr_rng⟩
      · exact p.elim
    · exact p.elim
/-- items with their places -/
def enumD : Nat → List D → List D
  | _, [] => []
  | k, x :: r => .tup [.int (k : Int), x] :: enumD (k + 1) r
theorem enumD_get : ∀ {xs : List D} {k i : Nat} {x : D}, (enumD k xs)[i]? = some x → ∃ y, xs[i]? = some y ∧ x = .tup [.int ((k + i : Nat) : Int), y]
  | [], _, _, _, h => by cases h
  | y :: r, k, 0, x, h => ⟨y, rfl, by cases h; rfl⟩
  | y :: r, k, i + 1, x, h => by
    obtain ⟨z, h1, h2⟩ := enumD_get (xs := r) (k := k + 1) (i := i) h
    exact ⟨z, h1, by rw [h2, show k + 1 + i = k + (i + 1) by omega]⟩
@[simp] theorem enumD_len : ∀ {xs : List D} {k : Nat}, (enumD k xs).length = xs.length
  | [], _ => rfl
  | _ :: r, k => congrArg Nat.succ (enumD_len (xs := r))
def iE (fa : Env → Sto → R (List D)) : Env → Sto → R Itx := fun env S => (fa env S).bind fun ds S1 => match ds with
  | [.ref l] => match rdL S1 l with
    | some xs => .ok ⟨enumD 0 xs, fun S => rdL S l = some xs⟩ S1
    | none => .bad
  | _ => .bad
theorem imp_iE {ta : TA} {fa : Env → Sto → R (List D)} (ha : Imp K W (vrs K) ta fa) : Imp K W (itr K) (iEnum K ta) (iE fa) :=
  imp_bind (tb := fun (vs : List V) _ H (Q : It → Hp → Prop) => ∃ a xs, vs = [.ref a] ∧ SqL K H a xs ∧ Q (Ite K a) H) ha fun φ S H env σ x v rl e hv Q p => by
    split at p
    · split at p
      · rename_i l _ xs h
        obtain ⟨z, rfl, hz⟩ := hv.one_inv
        obtain ⟨hl, rfl⟩ := hz.ref_inv
        obtain ⟨vs, q1, q2⟩ := rl.rd h
        refine ⟨_, vs, rfl, q1, p.here rl fun φ1 S1 H1 f r1 ok => ?_⟩
        obtain ⟨ws, b1, b2⟩ := r1.rd ok
        rw [f.ag l hl] at b1
        refine ⟨fun i x hx => ?_, ws, b1, by rw [b2.len, enumD_len]; exact Nat.le_refl _⟩
        obtain ⟨y, hy, rfl⟩ := enumD_get hx
        obtain ⟨w, hw, hr⟩ := b2.get hy
        refine ⟨⟨ws, w, b1, hw⟩, fun v H2 yy => ?_⟩
        obtain ⟨T, x', rfl, hT, rfl, f1⟩ := yy
        have := f1 ws b1
        rw [hw] at this
        cases this
        refine ⟨Ex.new hT, VR.tup (st_of upd_same) (.cons ?_ (.cons (VR.fut (Fut.ex (Ex.new hT)) hr) .nil))⟩
        rw [Nat.zero_add]
        exact VR.int _
      · exact p.elim
    · exact p.elim
/-- items by two -/
def zipD : List D → List D → List D
  | x :: r, y :: s => .tup [x, y] :: zipD r s
  | _, _ => []
theorem zipD_get : ∀ {xs ys : List D} {i : Nat} {z : D}, (zipD xs ys)[i]? = some z → ∃ x y, xs[i]? = some x ∧ ys[i]? = some y ∧ z = .tup [x, y]
  | x :: r, y :: s, 0, _, h => ⟨x, y, rfl, rfl, by cases h; rfl⟩
  | x :: r, y :: s, i + 1, _, h => zipD_get (xs := r) (ys := s) (i := i) h
  | [], _, _, _, h => by simp [zipD] at h
  | _ :: _, [], _, _, h => by simp [zipD] at h
theorem zipD_len : ∀ {xs ys : List D}, (zipD xs ys).length = min xs.length ys.length
  | x :: r, y :: s => by simp [zipD, zipD_len (xs := r) (ys := s)]
  | [], _ => by simp [zipD]
  | _ :: _, [] => by simp [zipD]
def iZ (fa : Env → Sto → R (List D)) : Env → Sto → R Itx := fun env S => (fa env S).bind fun ds S1 => match ds with
  | [.ref l, .ref m] => match rdL S1 l, rdL S1 m with
    | some xs, some ys => .ok ⟨zipD xs ys, fun S => rdL S l = some xs ∧ rdL S m = some ys⟩ S1
    | _, _ => .bad
  | _ => .bad
theorem imp_iZ {ta : TA} {fa : Env → Sto → R (List D)} (ha : Imp K W (vrs K) ta fa) : Imp K W (itr K) (iZip K ta) (iZ fa) :=
  imp_bind (tb := fun (vs : List V) _ H (Q : It → Hp → Prop) => ∃ a b xs ys, vs = [.ref a, .ref b] ∧ SqL K H a xs ∧ SqL K H b ys ∧ Q (Itz K a b) H) ha fun φ S H env σ x v rl e hv Q p => by
    split at p
    · split at p
      · rename_i l m _ _ xs ys h g
        obtain ⟨z1, z2, rfl, hz1, hz2⟩ := hv.two_inv
        obtain ⟨hl, rfl⟩ := hz1.ref_inv
        obtain ⟨hm, rfl⟩ := hz2.ref_inv
        obtain ⟨vs, q1, q2⟩ := rl.rd h
        obtain ⟨us, q3, q4⟩ := rl.rd g
        refine ⟨_, _, vs, us, rfl, q1, q3, p.here rl fun φ1 S1 H1 f r1 ok => ?_⟩
        obtain ⟨ws, b1, b2⟩ := r1.rd ok.1
        obtain ⟨ts, c1, c2⟩ := r1.rd ok.2
        rw [f.ag l hl] at b1
        rw [f.ag m hm] at c1
        refine ⟨fun i x hx => ?_, ws, ts, b1, c1, by rw [b2.len, c2.len, zipD_len]; omega⟩
        obtain ⟨y, z, hy, hz, rfl⟩ := zipD_get hx
        obtain ⟨w, hw, hr⟩ := b2.get hy
        obtain ⟨t, ht, hs⟩ := c2.get hz
        refine ⟨⟨ws, ts, w, t, b1, c1, hw, ht⟩, fun v H2 yy => ?_⟩
        obtain ⟨T, x', y', rfl, hT, rfl, f1, f2⟩ := yy
        have e1 := f1 ws b1
        have e2 := f2 ts c1
        rw [hw] at e1
        rw [ht] at e2
        cases e1; cases e2
        exact ⟨Ex.new hT, VR.tup (st_of upd_same) (.cons (VR.fut (Fut.ex (Ex.new hT)) hr) (.cons (VR.fut (Fut.ex (Ex.new hT)) hs) .nil))⟩
      · exact p.elim
    · exact p.elim
/-! ### for -/
open Classical in
noncomputable def loopX (ok : Sto → Prop) (fg : XG) (fb : Env → Sto → RS) : List D → Env → Sto → RS
  | [], env, S => if ok S then .nx env S else .bad
  | x :: r, env, S => if ok S then (match fg x env S with
      | .ok e1 S1 => match fb e1 S1 with
        | .nx e S' => loopX ok fg fb r e S'
        | .ct e S' => loopX ok fg fb r e S'
        | q => q
      | _ => .bad) else .bad
def finX : RS → RS
  | .bk e S => .nx e S
  | .ct _ _ => .bad
  | r => r
noncomputable def xFor (fi : Env → Sto → R Itx) (fg : XG) (fb : Env → Sto → RS) : Env → Sto → RS := fun env S => (fi env S).bindS env fun it S1 => finX (loopX it.ok fg fb it.items env S1)
noncomputable def xForE (fi : Env → Sto → R Itx) (fg : XG) (fb fe : Env → Sto → RS) : Env → Sto → RS := fun env S => (fi env S).bindS env fun it S1 => match loopX it.ok fg fb it.items env S1 with
  | .nx e S2 => fe e S2
  | r => finX r
theorem PostS.body {r : RS} {D : Ends} {N : L2.St → Hp → Prop} {g : RS → RS} (p : PostS K W φ n H (g r) D)
    (h1 : ∀ e S1, r = .nx e S1 ∨ r = .ct e S1 → ∀ φ' H' σ', Fut K φ n H φ' S1.length H' → Rel K φ' S1 H' → ER K φ' S1.length H' e σ' → N σ' H')
    (h2 : ∀ e S1, r = .bk e S1 → g r = .nx e S1) (h3 : ∀ d S1, r = .ret d S1 → g r = r) (h4 : ∀ c fs e S1, r = .exc c fs e S1 → g r = r) (h5 : r = .bad → g r = .bad) : PostS K W φ n H r { D with nx := N, ct := N, bk := D.nx } := by
  cases r with
  | nx e S1 => exact h1 e S1 (.inl rfl)
  | ct e S1 => exact h1 e S1 (.inr rfl)
  | bk e S1 => rw [h2 e S1 rfl] at p; exact p
  | ret d S1 => rw [h3 d S1 rfl] at p; exact p
  | exc c fs e S1 => rw [h4 c fs e S1 rfl] at p; exact p
  | bad => rw [h5 rfl] at p; exact p
/-- the turns of a for -/
theorem for_core {J : It} {it : Itx} {g : TG} {fg : XG} {ts : List Nat} {tb : TS} {fb : Env → Sto → RS} {u : TS} {D : Ends} {fin : RS → RS} (hg : ImpG K ts g fg) (hb : ImpS K W tb fb) (hJ : itr K φ n H it J) {env : Env} {σ : L2.St} (r : Rel K φ S H) (e : ER K φ S.length H env σ) (hn : n = S.length)
    (p : PostS K W φ S.length H (fin (loopX it.ok fg fb it.items env S)) D)
    (fnx : ∀ φ' S' H' env' σ', Rel K φ' S' H' → ER K φ' S'.length H' env' σ' → PostS K W φ' S'.length H' (fin (.nx env' S')) D → u D σ' H')
    (fbk : ∀ e S, fin (.bk e S) = .nx e S) (fret : ∀ d S, fin (.ret d S) = .ret d S) (fexc : ∀ c fs e S, fin (.exc c fs e S) = .exc c fs e S) (fbad : fin .bad = .bad) :
    ∃ Wv : Nat → Nat → L2.St → Hp → Prop, (∃ m, Wv 0 m σ H) ∧ ∀ i m σ H, Wv i m σ H →
      (J.stop i H ∧ u D σ H) ∨ (J.go i H ∧ ∃ N : L2.St → Hp → Prop, (∀ σ' H', N σ' H' → ∃ m', m' < m ∧ Wv (i + 1) m' σ' H') ∧ ∀ x H', J.yld i H x H' → g x σ H' fun σ2 H2 => tb { D with nx := N, ct := N, bk := D.nx } σ2 H2) := by
  subst hn
  refine ⟨fun i m σ' H' => m = it.items.length - i ∧ i ≤ it.items.length ∧ ∃ φ' S' env', Fut K φ S.length H φ' S'.length H' ∧ Rel K φ' S' H' ∧ ER K φ' S'.length H' env' σ' ∧ PostS K W φ' S'.length H' (fin (loopX it.ok fg fb (it.items.drop i) env' S')) D,
    ⟨it.items.length, rfl, Nat.zero_le _, φ, S, env, Fut.refl, r, e, p⟩, ?_⟩
  rintro i m σ' H' ⟨rfl, hi, φ', S', env', f', r', e', p'⟩
  by_cases hlt : i < it.items.length
  · rw [List.drop_eq_getElem_cons hlt, loopX] at p'
    split at p'
    · rename_i hok
      obtain ⟨a1, _⟩ := hJ φ' S' H' f' r' hok
      obtain ⟨b1, b2⟩ := a1 i _ (List.getElem?_eq_getElem hlt)
      refine .inr ⟨b1, fun σ2 H2 => ∃ φ2 S2 env2, Fut K φ S.length H φ2 S2.length H2 ∧ Rel K φ2 S2 H2 ∧ ER K φ2 S2.length H2 env2 σ2 ∧ PostS K W φ2 S2.length H2 (fin (loopX it.ok fg fb (it.items.drop (i + 1)) env2 S2)) D,
        fun σ2 H2 q => ⟨it.items.length - (i + 1), by omega, rfl, hlt, q⟩, fun v H2 y => ?_⟩
      obtain ⟨ex, hv⟩ := b2 v H2 y
      have fx : Fut K φ' S'.length H' φ' S'.length H2 := Fut.ex ex
      refine hg φ' S' H2 env' σ' _ v (r'.ex ex) (e'.fut fx) hv _ ?_
      cases hgx : fg it.items[i] env' S' with
      | ok e1 S1 =>
        simp only [hgx] at p'
        intro φ2 H3 σ2 f2 r2 e2 _
        refine hb φ2 S1 H3 e1 σ2 r2 e2 _ ?_
        have p2 := p'.fut (fx.trans f2)
        refine PostS.body (g := fun q => fin (match q with
          | .nx e S' => loopX it.ok fg fb (it.items.drop (i + 1)) e S'
          | .ct e S' => loopX it.ok fg fb (it.items.drop (i + 1)) e S'
          | q => q)) p2 ?_ ?_ ?_ ?_ ?_
        · intro e3 S3 hr φ3 H4 σ3 f3 r3 e3'
          refine ⟨φ3, S3, e3, ((f'.trans fx).trans f2).trans f3, r3, e3', ?_⟩
          rcases hr with hr | hr <;> (rw [hr] at p2; exact p2.fut f3)
        · intro e3 S3 hr
          simp only [hr, fbk]
        · intro d S3 hr
          simp only [hr, fret]
        · intro c fs e3 S3 hr
          simp only [hr, fexc]
        · intro hr
          simp only [hr, fbad]
      | exc c fs S1 => simp only [hgx, fbad] at p'; exact p'.elim
      | bad => simp only [hgx, fbad] at p'; exact p'.elim
    · rw [fbad] at p'
      exact p'.elim
  · have hd : it.items.drop i = [] := List.drop_eq_nil_of_le (by omega)
    rw [hd, loopX] at p'
    split at p'
    · rename_i hok
      obtain ⟨_, a2⟩ := hJ φ' S' H' f' r' hok
      have : i = it.items.length := by omega
      subst this
      exact .inl ⟨a2, fnx φ' S' H' env' σ' r' e' p'⟩
    · rw [fbad] at p'
      exact p'.elim
theorem imp_for {wi : TI} {fi : Env → Sto → R Itx} {g : TG} {fg : XG} {ts : List Nat} {tb : TS} {fb : Env → Sto → RS} (hi : Imp K W (itr K) wi fi) (hg : ImpG K ts g fg) (hb : ImpS K W tb fb) : ImpS K W (tFor wi g tb) (xFor fi fg fb) := by
  intro φ S H env σ r e D p
  refine hi.goS r e p fun φ1 S1 H1 it J f1 r1 e1 hJ p1 => ?_
  exact for_core (u := tNext) (fin := finX) hg hb hJ r1 e1 rfl p1 (fun φ' S' H' env' σ' r' e' q => q φ' H' σ' Fut.refl r' e') (fun _ _ => rfl) (fun _ _ => rfl) (fun _ _ _ _ => rfl) rfl
theorem imp_forE {wi : TI} {fi : Env → Sto → R Itx} {g : TG} {fg : XG} {ts : List Nat} {tb u : TS} {fb fu : Env → Sto → RS} (hi : Imp K W (itr K) wi fi) (hg : ImpG K ts g fg) (hb : ImpS K W tb fb) (hu : ImpS K W u fu) : ImpS K W (tForE wi g tb u) (xForE fi fg fb fu) := by
  intro φ S H env σ r e D p
  refine hi.goS r e p fun φ1 S1 H1 it J f1 r1 e1 hJ p1 => ?_
  exact for_core (u := u) (fin := fun r => match r with
    | .nx e S2 => fu e S2
    | r => finX r) hg hb hJ r1 e1 rfl p1 (fun φ' S' H' env' σ' r' e' q => hu φ' S' H' env' σ' r' e' D q) (fun _ _ => rfl) (fun _ _ => rfl) (fun _ _ _ _ => rfl) rfl
end
end Mi

namespace Mi
open PySem PySem.Spec PyProof.Rows L2 Evl My
section
variable {K : PySem.W.Frag} {φ φ1 φ' : Nat → Addr} {n n1 n' : Nat} {H H1 H' : Hp} {X : XK} {W W1 W2 : WX} {S : Sto} {α β γ δ : Type} {ρ : Rl α β}
/-! ### while -/
def whileX (ft : Env → Sto → R Bool) (fb : Env → Sto → RS) : Nat → Env → Sto → RS
  | 0, _, _ => .bad
  | k + 1, env, S => (ft env S).bindS env fun b S1 => if b = true then (match fb env S1 with
      | .nx e S2 => whileX ft fb k e S2
      | .ct e S2 => whileX ft fb k e S2
      | r => r) else .nx env S1
open Classical in
noncomputable def xWhile (ft : Env → Sto → R Bool) (fb : Env → Sto → RS) : Env → Sto → RS := fun env S => if h : ∃ k, whileX ft fb k env S ≠ .bad then finX (whileX ft fb h.choose env S) else .bad
theorem whileX_more {ft : Env → Sto → R Bool} {fb : Env → Sto → RS} : ∀ {k : Nat} {env : Env} {S : Sto}, whileX ft fb k env S ≠ .bad → whileX ft fb (k + 1) env S = whileX ft fb k env S
  | 0, _, _, h => absurd rfl h
  | k + 1, env, S, h => by
    rw [whileX]
    conv => rhs; rw [whileX]
    rw [whileX] at h
    cases ht : ft env S with
    | ok b S1 =>
      rw [ht] at h
      simp only [R.bindS_ok] at h ⊢
      cases b with
      | false => rfl
      | true =>
        simp only [if_true] at h ⊢
        cases hb : fb env S1 with
        | nx e S2 =>
          simp only [hb] at h ⊢
          exact whileX_more h
        | ct e S2 =>
          simp only [hb] at h ⊢
          exact whileX_more h
        | _ => rfl
    | _ => rfl
theorem whileX_le {ft : Env → Sto → R Bool} {fb : Env → Sto → RS} {k j : Nat} {env : Env} {S : Sto} (h : whileX ft fb k env S ≠ .bad) (l : k ≤ j) : whileX ft fb j env S = whileX ft fb k env S := by
  induction l with
  | refl => rfl
  | step _ ih => rw [whileX_more (by rw [ih]; exact h), ih]
theorem xWhile_eq {ft : Env → Sto → R Bool} {fb : Env → Sto → RS} {k : Nat} {env : Env} {S : Sto} {r : RS} (h : whileX ft fb k env S = r) (hr : r ≠ .bad) : xWhile ft fb env S = finX r := by
  have hk : whileX ft fb k env S ≠ .bad := by rw [h]; exact hr
  have he : ∃ k, whileX ft fb k env S ≠ .bad := ⟨k, hk⟩
  unfold xWhile
  rw [dif_pos he]
  have hc := he.choose_spec
  rcases Nat.le_total k he.choose with l | l
  · rw [whileX_le hk l, h]
  · rw [← whileX_le hc l, h]
theorem imp_while {tt : TT} {tb : TS} {ft : Env → Sto → R Bool} {fb : Env → Sto → RS} (ht : Imp K W same tt ft) (hb : ImpS K W tb fb) : ImpS K W (tWhile tt tb) (xWhile ft fb) := by
  intro φ S H env σ r e D p
  unfold xWhile at p
  split at p
  · rename_i he
    refine ⟨fun m σ' H' => ∃ φ' S' env', Rel K φ' S' H' ∧ ER K φ' S'.length H' env' σ' ∧ PostS K W φ' S'.length H' (finX (whileX ft fb m env' S')) D, ⟨_, φ, S, env, r, e, p⟩, ?_⟩
    rintro m σ' H' ⟨φ', S', env', r', e', p'⟩
    cases m with
    | zero => exact p'.elim
    | succ m =>
      rw [whileX] at p'
      refine ht φ' S' H' env' σ' r' e' _ ?_
      cases hf : ft env' S' with
      | ok b S1 =>
        rw [hf] at p'
        simp only [R.bindS_ok] at p'
        intro φ2 H2 v f2 r2 hv
        obtain rfl : b = v := hv
        have p2 := p'.fut f2
        cases b with
        | false => exact p2 φ2 H2 σ' Fut.refl r2 (e'.fut f2)
        | true =>
          refine ⟨fun σ3 H3 => ∃ φ' S' env', Rel K φ' S' H3 ∧ ER K φ' S'.length H3 env' σ3 ∧ PostS K W φ' S'.length H3 (finX (whileX ft fb m env' S')) D, fun σ3 H3 q => ⟨m, Nat.lt_succ_self _, q⟩, hb φ2 S1 H2 env' σ' r2 (e'.fut f2) _ ?_⟩
          simp only [if_true] at p2
          refine PostS.body (g := fun q => finX (match q with
            | .nx e S2 => whileX ft fb m e S2
            | .ct e S2 => whileX ft fb m e S2
            | r => r)) p2 ?_ ?_ ?_ ?_ ?_
          · intro e3 S3 hr φ3 H4 σ3 f3 r3 e3'
            refine ⟨φ3, S3, e3, r3, e3', ?_⟩
            rcases hr with hr | hr <;> (rw [hr] at p2; exact p2.fut f3)
          · intro e3 S3 hr
            simp only [hr]
            rfl
          · intro d S3 hr
            simp only [hr]
            rfl
          · intro c fs e3 S3 hr
            simp only [hr]
            rfl
          · intro hr
            simp only [hr]
            rfl
      | exc c fs S1 =>
        rw [hf] at p'
        exact fun φ2 H2 dd fv f2 r2 hd hk => p' φ2 H2 σ' dd fv f2 r2 (e'.fut f2) hd hk
      | bad => rw [hf] at p'; exact p'
  · exact p.elim
/-! ### comprehensions -/
def nox {α : Type} (r : R α) : R α := match r with
  | .ok d S => .ok d S
  | _ => .bad
@[simp] theorem nox_ok {α : Type} {d : α} {S : Sto} : nox (.ok d S) = .ok d S := rfl
@[simp] theorem nox_bad {α : Type} : nox (R.bad : R α) = .bad := rfl
theorem nox_inv {ρ : Rl α β} {r : R α} {Q : β → Hp → Prop} (p : Post K ρ φ n H X (nox r) Q) : ∃ d S1, r = .ok d S1 ∧ Post K ρ φ n H X (.ok d S1) Q := by
  cases r with
  | ok d S1 => exact ⟨d, S1, rfl, p⟩
  | exc c fs S1 => exact p.elim
  | bad => exact p.elim
open Classical in
/-- the turns of a comprehension: the new list lies at l -/
noncomputable def compX (ok : Sto → Prop) (fg : XG) (ft : Env → Sto → R Bool) (fe : Env → Sto → R D) (env0 : Env) (l : Nat) : List D → Sto → R D
  | [], S => if ok S then .ok (.ref l) S else .bad
  | x :: r, S => if ok S then (match fg x env0 S with
      | .ok e1 S1 => match ft e1 S1 with
        | .ok true S2 => match fe e1 S2 with
          | .ok y S3 => match at_ S3 l with
            | some (.lst acc) => if acc.length < 100000 then compX ok fg ft fe env0 l r (S3.set l (.lst (acc ++ [y]))) else .bad
            | _ => .bad
          | _ => .bad
        | .ok false S2 => compX ok fg ft fe env0 l r S2
        | _ => .bad
      | _ => .bad) else .bad
noncomputable def xLc (fi : Env → Sto → R Itx) (fg : XG) (ft : Env → Sto → R Bool) (fe : Env → Sto → R D) (vs : List Nat) : Env → Sto → R D := fun env S => (fi env S).bind fun it S1 => compX it.ok fg ft fe (wipeE env vs) S1.length it.items (S1 ++ [.lst []])
theorem wipe_get {σ : L2.St} {i : Nat} : ∀ {vs : List Nat}, i ∈ vs → i < σ.length → (wipe σ vs)[i]? = some none
  | [], h, _ => by cases h
  | v :: vs, h, hl => by
    unfold wipe
    by_cases hv : v = i
    · subst hv
      rw [List.getElem?_set_self (by rw [wipe_length]; exact hl)]
    · rw [List.getElem?_set_ne hv]
      rcases List.mem_cons.mp h with h | h
      · exact absurd h.symm hv
      · exact wipe_get h hl
theorem wipe_sets {σ σ2 : L2.St} {ts vs : List Nat} (h : Sets ts (wipe σ vs) σ2) (hs : ∀ i ∈ ts, i ∈ vs) : wipe σ2 vs = wipe σ vs := by
  obtain ⟨hl, hg⟩ := h
  rw [wipe_length] at hl
  refine List.ext_getElem? fun i => ?_
  by_cases hi : i ∈ vs
  · by_cases hlt : i < σ.length
    · rw [wipe_get hi (by omega), wipe_get hi hlt]
    · rw [List.getElem?_eq_none (by rw [wipe_length]; omega), List.getElem?_eq_none (by rw [wipe_length]; omega)]
  · rw [wipe_out hi]
    exact hg i fun z => hi (hs i z)
theorem imp_lc {wi : TI} {fi : Env → Sto → R Itx} {g : TG} {fg : XG} {ts : List Nat} {tt : TT} {ft : Env → Sto → R Bool} {te : TE} {fe : Env → Sto → R D} {vs : List Nat} (hi : Imp K W (itr K) wi fi) (hg : ImpG K ts g fg) (ht : Imp K W1 same tt ft) (he : Imp K W2 (vr K) te fe) (hs : ∀ i ∈ ts, i ∈ vs) :
    Imp K W (vr K) (tLc wi g tt te vs) (xLc fi fg ft fe vs) :=
  imp_bind (tb := fun (J : It) σ H1 (Q : VK) => ∀ D, H1 D = none → ∃ W : Nat → Nat → Hp → Prop, (∃ m, W 0 m (upd H1 D (.lst []))) ∧ ∀ i m H, W i m H →
  (J.stop i H ∧ Q (.ref D) H) ∨ (J.go i H ∧ ∃ Nx : Hp → Prop, (∀ H', Nx H' → ∃ m', m' < m ∧ W (i + 1) m' H') ∧ ∀ x H', J.yld i H x H' → g x (wipe σ vs) H' fun σ2 H2 => wipe σ2 vs = wipe σ vs ∧ tt σ2 H2 fun b H3 =>
    if b = true then te σ2 H3 fun y H4 => ∃ acc, H4 D = some (.lst acc) ∧ acc.length < sizeLine ∧ Nx (upd H4 D (.lst (acc ++ [y]))) else Nx H3)) hi fun φ S H env σ it J rl e hJ Q p Dl hD => by
    have hn : OR K (nxt φ S.length Dl) (S.length + 1) (upd H Dl (.lst [])) Dl (.lst []) := ⟨[], upd_same, .nil⟩
    have f0 : Fut K φ S.length H (nxt φ S.length Dl) (S ++ [O.lst []]).length (upd H Dl (.lst [])) := by
      rw [List.length_append]
      exact Fut.new hD
    have r0 := rl.new hD hn
    have e0 := ((e.wipe vs)).fut f0
    have p0 := p.fut f0
    refine ⟨fun i m H' => m = it.items.length - i ∧ i ≤ it.items.length ∧ ∃ φ' S', Fut K (nxt φ S.length Dl) (S ++ [O.lst []]).length (upd H Dl (.lst [])) φ' S'.length H' ∧ Rel K φ' S' H' ∧ Post K (vr K) φ' S'.length H' (fun c d h => W c d σ h) (compX it.ok fg ft fe (wipeE env vs) S.length (it.items.drop i) S') Q,
      ⟨it.items.length, rfl, Nat.zero_le _, _, _, Fut.refl, r0, p0⟩, ?_⟩
    rintro i m H' ⟨rfl, hle, φ', S', f', r', p'⟩
    have hφ : φ' S.length = Dl := by
      rw [f'.ag _ (by simp)]
      exact nxt_at
    by_cases hlt : i < it.items.length
    · rw [List.drop_eq_getElem_cons hlt, compX] at p'
      split at p'
      · rename_i hok
        obtain ⟨a1, _⟩ := hJ φ' S' H' (f0.trans f') r' hok
        obtain ⟨b1, b2⟩ := a1 i _ (List.getElem?_eq_getElem hlt)
        refine .inr ⟨b1, fun H2 => ∃ φ2 S2, Fut K (nxt φ S.length Dl) (S ++ [O.lst []]).length (upd H Dl (.lst [])) φ2 S2.length H2 ∧ Rel K φ2 S2 H2 ∧ Post K (vr K) φ2 S2.length H2 (fun c d h => W c d σ h) (compX it.ok fg ft fe (wipeE env vs) S.length (it.items.drop (i + 1)) S2) Q,
          fun H2 q => ⟨it.items.length - (i + 1), by omega, rfl, hlt, q⟩, fun v H2 y => ?_⟩
        obtain ⟨ex, hv⟩ := b2 v H2 y
        have fx : Fut K φ' S'.length H' φ' S'.length H2 := Fut.ex ex
        refine hg φ' S' H2 (wipeE env vs) (wipe σ vs) _ v (r'.ex ex) (e0.fut (f'.trans fx)) hv _ ?_
        cases hgx : fg it.items[i] (wipeE env vs) S' with
        | ok e1 S1 =>
          simp only [hgx] at p'
          intro φ2 H3 σ2 f2 r2 e2 s2
          refine ⟨wipe_sets s2 hs, ht φ2 S1 H3 e1 σ2 r2 e2 _ ?_⟩
          cases htx : ft e1 S1 with
          | ok b S2 =>
            simp only [htx] at p'
            intro φ3 H4 b' f3 r3 hb
            obtain rfl : b = b' := hb
            have f4 := ((f'.trans fx).trans f2).trans f3
            cases b with
            | false => exact ⟨φ3, S2, f4, r3, p'.fut ((fx.trans f2).trans f3)⟩
            | true =>
              refine he φ3 S2 H4 e1 σ2 r3 (e2.fut f3) _ ?_
              simp only at p'
              cases hex : fe e1 S2 with
              | ok y S3 =>
                simp only [hex] at p'
                intro φ4 H5 v f5 r5 hv5
                have f6 := f4.trans f5
                split at p'
                · rename_i acc hacc
                  split at p'
                  · rename_i hal
                    obtain ⟨us, u1, u2⟩ := r5.ob _ _ hacc
                    have hφ4 : φ4 S.length = Dl := by
                      rw [f6.ag _ (by simp)]
                      exact nxt_at
                    have fw : Fut K φ4 S3.length H5 φ4 S3.length (upd H5 (φ4 S.length) (.lst (us ++ [v]))) := Fut.upd u1 trivial
                    obtain ⟨q1, q2⟩ := r5.put (o' := .lst (acc ++ [y])) (u := .lst (us ++ [v])) hacc rfl rfl ⟨_, upd_same, (u2.app (.one hv5)).fut fw⟩
                    rw [hφ4] at u1 q1 q2
                    exact ⟨us, u1, sz_lt (by rw [u2.len]; exact hal), φ4, _, f6.trans q2, q1, p'.fut ((((fx.trans f2).trans f3).trans f5).trans q2)⟩
                  · exact p'.elim
                · exact p'.elim
              | exc c fs S3 => simp only [hex] at p'; exact p'.elim
              | bad => simp only [hex] at p'; exact p'.elim
          | exc c fs S2 => simp only [htx] at p'; exact p'.elim
          | bad => simp only [htx] at p'; exact p'.elim
        | exc c fs S1 => simp only [hgx] at p'; exact p'.elim
        | bad => simp only [hgx] at p'; exact p'.elim
      · exact p'.elim
    · have hd : it.items.drop i = [] := List.drop_eq_nil_of_le (by omega)
      rw [hd, compX] at p'
      split at p'
      · rename_i hok
        obtain ⟨_, a2⟩ := hJ φ' S' H' (f0.trans f') r' hok
        have : i = it.items.length := by omega
        subst this
        refine .inl ⟨a2, ?_⟩
        have q := p' φ' H' (.ref (φ' S.length)) Fut.refl r' (VR.ref (Nat.lt_of_lt_of_le (by simp) f'.le))
        rw [hφ] at q
        exact q
      · exact p'.elim
/-! ### list methods -/
def MtI (K : PySem.W.Frag) (r : V → List V → Hp → VK → Prop) (o : D → List D → Sto → R D) : Prop := ∀ φ S H x v ds vs X, Rel K φ S H → VR K φ S.length H x v → VRs K φ S.length H ds vs → ∀ Q, Post K (vr K) φ S.length H X (o x ds S) Q → r v vs H Q
def isLst (S : Sto) : D → Bool
  | .ref l => (rdL S l).isSome
  | _ => false
def xBM (o : D → List D → Sto → R D) (fo : Env → Sto → R D) (fa : Env → Sto → R (List D)) : Env → Sto → R D := fun env S => (fo env S).bind fun x S1 => if isLst S1 x = true then (fa env S1).bind fun ds S2 => o x ds S2 else .bad
theorem isLst_ty {x : D} {v : V} (r : Rel K φ S H) (h : isLst S x = true) (hv : VR K φ S.length H x v) : tyV K "list" v H := by
  cases x with
  | ref l =>
    obtain ⟨xs, hx⟩ := Option.isSome_iff_exists.mp h
    obtain ⟨_, rfl⟩ := hv.ref_inv
    obtain ⟨vs, q, _⟩ := r.rd hx
    exact .inl ⟨rfl, vs, q⟩
  | _ => cases h
theorem imp_bm {r : V → List V → Hp → VK → Prop} {o : D → List D → Sto → R D} {to : TE} {ta : TA} {fo : Env → Sto → R D} {fa : Env → Sto → R (List D)} (hr : MtI K r o) (ho : Imp K W (vr K) to fo) (ha : Imp K W (vrs K) ta fa) : Imp K W (vr K) (tBM K "list" r to ta) (xBM o fo fa) :=
  imp_bind (tb := fun (v : V) σ H (Q : VK) => tyV K "list" v H ∧ ta σ H fun xs H2 => r v xs H2 Q) ho fun φ S H env σ x v rl e hv Q p => by
    split at p
    · rename_i hl
      exact ⟨isLst_ty rl hl hv, ha.go rl e p fun φ1 S1 H1 ds vs f r1 _ hvs p1 => hr φ1 S1 H1 x v ds vs _ r1 (VR.fut f hv) hvs Q p1⟩
    · exact p.elim
theorem imp_bm0 {r : V → List V → Hp → VK → Prop} {o : D → List D → Sto → R D} {to : TE} {fo : Env → Sto → R D} (hr : MtI K r o) (ho : Imp K W (vr K) to fo) : Imp K W (vr K) (tBM0 K "list" r to) (xBM o fo xNil) :=
  imp_bind (tb := fun (v : V) σ H (Q : VK) => tyV K "list" v H ∧ r v [] H Q) ho fun φ S H env σ x v rl e hv Q p => by
    split at p
    · rename_i hl
      exact ⟨isLst_ty rl hl hv, hr φ S H x v [] [] _ rl hv .nil Q p⟩
    · exact p.elim
/-- a method that changes its list -/
def mL (g : List D → List D → Option (D × List D)) : D → List D → Sto → R D := fun x ds S => match x with
  | .ref l => match at_ S l with
    | some (.lst xs) => match g xs ds with
      | some (d, ys) => .ok d (S.set l (.lst ys))
      | none => .bad
    | _ => .bad
  | _ => .bad
theorem mL_eq {g : List D → List D → Option (D × List D)} {l : Nat} {xs ys ds : List D} {d : D} (h : at_ S l = some (.lst xs)) (e : g xs ds = some (d, ys)) : mL g (.ref l) ds S = .ok d (S.set l (.lst ys)) := by simp [mL, h, e]
theorem mL_inv {g : List D → List D → Option (D × List D)} {x : D} {v : V} {ds : List D} {Q : VK} (r : Rel K φ S H) (hv : VR K φ S.length H x v) (p : Post K (vr K) φ S.length H X (mL g x ds S) Q) :
    ∃ l xs ws d ys, v = .ref (φ l) ∧ at_ S l = some (.lst xs) ∧ H (φ l) = some (.lst ws) ∧ VRs K φ S.length H xs ws ∧ g xs ds = some (d, ys) ∧ ∀ w us, VR K φ S.length H d w → VRs K φ S.length H ys us → Q w (upd H (φ l) (.lst us)) := by
  unfold mL at p
  split at p
  · split at p
    · rename_i l _ xs hl
      split at p
      · rename_i d ys hg
        obtain ⟨_, rfl⟩ := hv.ref_inv
        obtain ⟨ws, q1, q2⟩ := r.ob _ _ hl
        refine ⟨l, xs, ws, d, ys, rfl, hl, q1, q2, hg, fun w us hw hu => ?_⟩
        have fw : Fut K φ S.length H φ S.length (upd H (φ l) (.lst us)) := Fut.upd q1 trivial
        exact p.put r hl rfl rfl ⟨us, upd_same, hu.fut fw⟩ (VR.fut fw hw)
      · exact p.elim
    · exact p.elim
  · exact p.elim
def gAppend : List D → List D → Option (D × List D) := fun xs ds => match ds with
  | [y] => if xs.length < 100000 then some (.non, xs ++ [y]) else none
  | _ => none
theorem gAppend_eq {xs : List D} {y : D} (h : xs.length < 100000) : gAppend xs [y] = some (.non, xs ++ [y]) := by simp [gAppend, h]
theorem mti_append : MtI K rAppend (mL gAppend) := by
  intro φ S H x v ds vs X r hx hd Q p
  obtain ⟨l, xs, ws, d, ys, rfl, hl, q1, q2, hg, q⟩ := mL_inv r hx p
  unfold gAppend at hg
  split at hg
  · split at hg
    · rename_i hz
      cases hg
      obtain ⟨u, rfl, hu⟩ := hd.one_inv
      exact ⟨_, ws, u, rfl, rfl, q1, sz_lt (by rw [q2.len]; exact hz), q _ _ VR.non (q2.app (.one hu))⟩
    · cases hg
  · cases hg
def gClear : List D → List D → Option (D × List D) := fun _ ds => match ds with
  | [] => some (.non, [])
  | _ => none
@[simp] theorem gClear_eq {xs : List D} : gClear xs [] = some (.non, []) := rfl
theorem mti_clear : MtI K rClear (mL gClear) := by
  intro φ S H x v ds vs X r hx hd Q p
  obtain ⟨l, xs, ws, d, ys, rfl, hl, q1, q2, hg, q⟩ := mL_inv r hx p
  unfold gClear at hg
  split at hg
  · cases hg
    cases hd
    exact ⟨_, ws, rfl, rfl, q1, q _ _ VR.non .nil⟩
  · cases hg
def gReverse : List D → List D → Option (D × List D) := fun xs ds => match ds with
  | [] => some (.non, xs.reverse)
  | _ => none
@[simp] theorem gReverse_eq {xs : List D} : gReverse xs [] = some (.non, xs.reverse) := rfl
theorem mti_reverse : MtI K rReverse (mL gReverse) := by
  intro φ S H x v ds vs X r hx hd Q p
  obtain ⟨l, xs, ws, d, ys, rfl, hl, q1, q2, hg, q⟩ := mL_inv r hx p
  unfold gReverse at hg
  split at hg
  · cases hg
    cases hd
    exact ⟨_, ws, rfl, rfl, q1, q _ _ VR.non q2.reverse⟩
  · cases hg
def gPop : List D → List D → Option (D × List D) := fun xs ds => match ds with
  | [] => (xs[xs.length - 1]?).map fun y => (y, xs.dropLast)
  | _ => none
theorem gPop_eq {xs : List D} {y : D} (h : xs[xs.length - 1]? = some y) : gPop xs [] = some (y, xs.dropLast) := by simp [gPop, h]
theorem mti_pop : MtI K rPop (mL gPop) := by
  intro φ S H x v ds vs X r hx hd Q p
  obtain ⟨l, xs, ws, d, ys, rfl, hl, q1, q2, hg, q⟩ := mL_inv r hx p
  unfold gPop at hg
  split at hg
  · obtain ⟨y, h1, h2⟩ := Option.map_eq_some_iff.mp hg
    cases h2
    cases hd
    obtain ⟨u, g1, g2⟩ := q2.get h1
    exact ⟨_, ws, u, rfl, rfl, q1, by rw [q2.len]; exact g1, q _ _ g2 q2.dropLast⟩
  · cases hg
def PopOk (i : Int) : Prop := -(2 ^ 63) ≤ i ∧ i < 2 ^ 63
open Classical in
noncomputable def gPopAt : List D → List D → Option (D × List D) := fun xs ds => match ds with
  | [.int i] => if PopOk i then (seqIndex? i xs.length).bind fun k => (xs[k]?).map fun y => (y, xs.eraseIdx k) else none
  | _ => none
open Classical in
theorem gPopAt_eq {xs : List D} {i : Int} {k : Nat} {y : D} (h1 : PopOk i) (h2 : seqIndex? i xs.length = some k) (h3 : xs[k]? = some y) : gPopAt xs [.int i] = some (y, xs.eraseIdx k) := by
  show (if _ then _ else _) = _
  rw [if_pos h1, h2]
  simp [h3]
open Classical in
theorem mti_popAt : MtI K rPopAt (mL gPopAt) := by
  intro φ S H x v ds vs X r hx hd Q p
  obtain ⟨l, xs, ws, d, ys, rfl, hl, q1, q2, hg, q⟩ := mL_inv r hx p
  unfold gPopAt at hg
  split at hg
  · split at hg
    · rename_i hb
      obtain ⟨k, h1, h2⟩ := Option.bind_eq_some_iff.mp hg
      obtain ⟨y, h3, h4⟩ := Option.map_eq_some_iff.mp h2
      cases h4
      obtain ⟨w, rfl, hw⟩ := hd.one_inv
      cases hw
      obtain ⟨u, g1, g2⟩ := q2.get h3
      exact ⟨_, ws, _, k, u, rfl, rfl, q1, hb.1, hb.2, by rw [q2.len]; exact h1, g1, q _ _ g2 (q2.eraseIdx k)⟩
    · cases hg
  · cases hg
/-- extend by another list -/
def mExtend : D → List D → Sto → R D := fun x ds S => match x, ds with
  | .ref l, [.ref b] => match at_ S l, at_ S b with
    | some (.lst xs), some (.lst zs) => if xs.length + zs.length ≤ 100000 then .ok .non (S.set l (.lst (xs ++ zs))) else .bad
    | _, _ => .bad
  | _, _ => .bad
theorem mExtend_eq {l b : Nat} {xs zs : List D} (h : at_ S l = some (.lst xs)) (g : at_ S b = some (.lst zs)) (hl : xs.length + zs.length ≤ 100000) : mExtend (.ref l) [.ref b] S = .ok .non (S.set l (.lst (xs ++ zs))) := by simp [mExtend, h, g, hl]
theorem mti_extend : MtI K rExtend mExtend := by
  intro φ S H x v ds vs X r hx hd Q p
  unfold mExtend at p
  split at p
  · split at p
    · rename_i l b _ _ xs zs h1 h2
      split at p
      · rename_i hz
        obtain ⟨_, rfl⟩ := hx.ref_inv
        obtain ⟨w, rfl, hw⟩ := hd.one_inv
        obtain ⟨_, rfl⟩ := hw.ref_inv
        obtain ⟨ws, a1, a2⟩ := r.ob _ _ h1
        obtain ⟨us, b1, b2⟩ := r.ob _ _ h2
        have fw : Fut K φ S.length H φ S.length (upd H (φ l) (.lst (ws ++ us))) := Fut.upd a1 trivial
        exact ⟨_, _, ws, us, rfl, rfl, a1, b1, sz_of (by rw [a2.len, b2.len]; exact hz), p.put r h1 rfl rfl ⟨_, upd_same, (a2.app b2).fut fw⟩ VR.non⟩
      · exact p.elim
    · exact p.elim
  · exact p.elim
/-! ### calls of defs -/
/-- a def that does what f says -/
def spF (K : PySem.W.Frag) (f : List D → Sto → R D) : Sp := fun vs H Q E => ∃ φ S ds, Rel K φ S H ∧ VRs K φ S.length H ds vs ∧ Post K (vr K) φ S.length H E (f ds S) Q
theorem Post.anyX {X' : XK} {ρ : Rl α β} {d : α} {S1 : Sto} {Q : β → Hp → Prop} (p : Post K ρ φ n H X (.ok d S1) Q) : Post K ρ φ n H X' (.ok d S1) Q := p
def xCall (f : List D → Sto → R D) (fa : Env → Sto → R (List D)) : Env → Sto → R D := fun env S => (fa env S).bind fun ds S1 => nox (f ds S1)
theorem imp_call {f : List D → Sto → R D} {ta : TA} {fa : Env → Sto → R (List D)} {E : XK} (ha : Imp K W (vrs K) ta fa) : Imp K W (vr K) (tCall (spF K f) [] E ta) (xCall f fa) :=
  imp_bind (tb := fun (vs : List V) _ H (Q : VK) => spF K f (vs ++ []) H Q E) ha fun φ S H env σ x v rl e hv Q p => by
    rw [List.append_nil]
    obtain ⟨d, S1, hf, p⟩ := nox_inv p
    exact ⟨φ, S, x, rl, hv, by rw [hf]; exact p⟩
/-- a call that an error may leave -/
def xCallX (f : List D → Sto → R D) (fa : Env → Sto → R (List D)) : Env → Sto → R D := fun env S => (fa env S).bind fun ds S1 => f ds S1
theorem imp_callX {f : List D → Sto → R D} {ta : TA} {fa : Env → Sto → R (List D)} (ha : Imp K W (vrs K) ta fa) : Imp K W (vr K) (tCallS (spF K f) (WE W) ta) (xCallX f fa) :=
  imp_bind (tb := fun (vs : List V) σ H (Q : VK) => spF K f vs H Q (WE W σ)) ha fun φ S H env σ x v rl e hv Q p => ⟨φ, S, x, rl, hv, p⟩
/-- a def's body as a function of its arguments: m parameters, k slots behind them -/
def defX (m k : Nat) (f : Env → Sto → RS) : List D → Sto → R D := fun ds S => if ds.length = m then (match f (ds.map some ++ List.replicate k none) S with
    | .nx _ S1 => .ok .non S1
    | .ret d S1 => .ok d S1
    | .exc c fs _ S1 => .exc c fs S1
    | _ => .bad) else .bad
theorem spF_len {m k : Nat} {f : Env → Sto → RS} {ps : List Str} (hp : ps.length = m) : ∀ vs H Q E, spF K (defX m k f) vs H Q E → vs.length = ps.length := fun vs H Q E ⟨φ, S, ds, r, hv, p⟩ => by
  unfold defX at p
  split at p
  · rename_i h
    rw [hv.len, h, hp]
  · exact p.elim
theorem body_of {m k : Nat} {f : Env → Sto → RS} {t : TS} {N : List Str} {vs : List V} {H : Hp} {Q : VK} {E : XK} (hN : N.length = m + k) (hs : spF K (defX m k f) vs H Q E) (hf : ImpS K (fun c d _ h => E c d h) t f) : t { nx := fun _ H' => Q .non H', rt := Q } (L2.start N vs) H := by
  obtain ⟨φ, S, ds, r, hv, p⟩ := hs
  unfold defX at p
  split at p
  · rename_i hl
    have he : ER K φ S.length H (ds.map some ++ List.replicate k none) (L2.start N vs) := by
      unfold L2.start
      rw [hv.len, hN, hl, Nat.add_sub_cancel_left]
      exact ER.ofs k hv
    refine hf φ S H _ _ r he _ ?_
    split at p
    · rename_i e1 S1 h1
      rw [h1]
      exact fun φ' H' σ' f' r' e' => p φ' H' .non f' r' VR.non
    · rename_i d S1 h1
      rw [h1]
      exact p
    · rename_i c fs e1 S1 h1
      rw [h1]
      exact fun φ' H' σ' dd fv f' r' e' hd hk => p φ' H' dd fv f' r' hd hk
    · exact p.elim
  · exact p.elim
end
end Mi

namespace Mi
open PySem PySem.Spec PyProof.Rows L2 Evl My
/-! ### set(a list of ints), k in it, len -/
def dedupL (ns : List Int) : List Int := ns.foldl step_dedup []
theorem firstMet_dedup (ns : List Int) : firstMet (fun i => ns.getD i 0) ns.length = dedupL ns := by
  unfold firstMet dedupL
  congr 1
  refine List.ext_getElem? fun i => ?_
  rw [List.getElem?_map]
  by_cases h : i < ns.length
  · rw [List.getElem?_range h, List.getElem?_eq_getElem h]
    simp [List.getD, h]
  · rw [List.getElem?_eq_none (by simpa using h), List.getElem?_eq_none (by omega)]
    rfl
theorem dedup_any (ns : List Int) (k : Int) : (dedupL ns).any (· == k) = ns.any (· == k) := by
  rw [← firstMet_dedup, firstMet_any]
  congr 1
  refine List.ext_getElem? fun i => ?_
  rw [List.getElem?_map]
  by_cases h : i < ns.length
  · rw [List.getElem?_range h, List.getElem?_eq_getElem h]
    simp [List.getD, h]
  · rw [List.getElem?_eq_none (by simpa using h), List.getElem?_eq_none (by omega)]
    rfl
theorem dedup_len (ns : List Int) : (dedupL ns).length ≤ ns.length := by
  rw [← firstMet_dedup]
  exact firstMet_length_le _ _
/-- k is in ns -/
def memI (ns : List Int) (k : Int) : Bool := ns.any (· == k)
theorem memI_iff {ns : List Int} {k : Int} : memI ns k = true ↔ k ∈ ns := by simp [memI]
theorem inV_ints {ns : List Int} {k : Int} : inV (.int k) (ns.map V.int) = memI ns k := by simp [inV, eqV, memI, List.any_map, Function.comp_def]
def rSetI (K : PySem.W.Frag) : List V → Hp → VK → Prop := fun xs H Q => ∃ (l : Addr) (ns : List Int), xs = [.ref l] ∧ SqL K H l (ns.map V.int) ∧ ns.length ≤ 4000 ∧ ∀ a, H a = none → Q (.ref a) (upd H a (.set (fun k => ns.any (· == k)) (dedupL ns).length))
section
variable {X : Cx}
theorem cr_setI (K : PySem.W.Frag) (hc : X.calm = true) (hK : X.K = K := by rfl) : CallR X (.type "set") (rSetI K) := by
  subst hK
  intro pins s σ H xs us Q I r h
  obtain ⟨l, ns, rfl, hl, hz, q⟩ := h
  rw [Vals.ref1 r]
  obtain ⟨its, rv, pl, _⟩ := I.list hl
  have hlen : its.toArray.size = ns.length := by rw [List.size_toArray, ← rv.length, List.length_map]
  have hn : H s.heap.objs.size = none := I.hok.fresh (Nat.le_refl _)
  refine call_set_list (I.ok.hd hc) pl.isList (by simpa using RZ.intsAre_vals rv) (by rw [hlen]; unfold scanBound; omega) fun h' tk hS hk => ?_
  rw [hlen, firstMet_dedup] at hS
  have e : (fun k' => (dedupL ns).any (· == k')) = fun k => ns.any (· == k) := funext fun k => dedup_any ns k
  rw [e] at hS
  exact ⟨.ref s.heap.objs.size, upd H s.heap.objs.size (.set (fun k => ns.any (· == k)) (dedupL ns).length), I.laid (t' := tk) (fun b o e => hk b o (Heap.lt_size e) e) (Nat.le_refl _) hS, rfl, q _ hn⟩
def rSetIn (neg : Bool) : R2 := fun x y H Q => ∃ k a S n, x = .int k ∧ y = .ref a ∧ H a = some (.set S n) ∧ Q (.bl (if neg then !S k else S k)) H
theorem or_setIn : OpR X (compareOp .In) (rSetIn false) := by
  intro pins s σ H x y v u Q I rx ry h
  obtain ⟨k, a, S, n, rfl, rfl, ha, q⟩ := h
  obtain ⟨tk, rfl⟩ := rx
  cases ry
  exact wpAny_inSet_of (intKind_is _ _ _ _) rfl (I.hok a _ ha) ⟨.bl (S k), H, I.tok _, rfl, q⟩
theorem or_setNin : OpR X (compareOp .NotIn) (rSetIn true) := by
  intro pins s σ H x y v u Q I rx ry h
  obtain ⟨k, a, S, n, rfl, rfl, ha, q⟩ := h
  obtain ⟨tk, rfl⟩ := rx
  cases ry
  exact wpAny_notInSet_of (intKind_is _ _ _ _) rfl (I.hok a _ ha) ⟨.bl (!S k), H, I.tok _, rfl, q⟩
def rSetLen : List V → Hp → VK → Prop := fun xs H Q => ∃ a S n, xs = [.ref a] ∧ H a = some (.set S n) ∧ n ≤ 4000 ∧ Q (.int (n : Int)) H
theorem cr_setLen : CallR X (.builtin "len") rSetLen := by
  intro pins s σ H xs us Q I r h
  obtain ⟨a, S, n, rfl, ha, hz, q⟩ := h
  rw [Vals.ref1 r]
  obtain ⟨o, es, ep, t, ho, hex, hd, _, _, _, hf, hn⟩ := (show s.heap.SetOf (intKind X.prog X.w) a S n from I.hok a _ ha)
  refine call_len_set ho hex hd hf (by rw [hn] <;> omega) ⟨.int n, H, (I.tok _), ⟨_, by rw [hn]⟩, q⟩
end
section
variable {K : PySem.W.Frag} {φ φ1 φ' : Nat → Addr} {n n1 n' : Nat} {H H1 H' : Hp} {X : XK} {W W1 : WX} {S : Sto} {α β γ δ : Type} {ρ : Rl α β}
def bSet : List D → Sto → R D := bInts fun ns S => if ns.length ≤ 4000 then .ok (.ref S.length) (S ++ [.set (memI ns) (dedupL ns).length]) else .bad
theorem cbi_set : CallI K (rSetI K) bSet := by
  intro φ S H ds vs X r h Q p
  obtain ⟨a, ns, rfl, q1, p⟩ := bInts_inv r h p
  split at p
  · rename_i hz
    exact ⟨a, ns, rfl, q1, hz, fun b hb => p.new r hb upd_same⟩
  · exact p.elim
def oInSet (neg : Bool) : D → D → Sto → R D := fun x y S => match x, y with
  | .int k, .ref l => match at_ S l with
    | some (.set f _) => .ok (.bl (if neg = true then !f k else f k)) S
    | _ => .bad
  | _, _ => .bad
theorem oInSet_eq {neg : Bool} {k : Int} {l : Nat} {f : Int → Bool} {m : Nat} (h : at_ S l = some (.set f m)) : oInSet neg (.int k) (.ref l) S = .ok (.bl (if neg = true then !f k else f k)) S := by simp [oInSet, h]
theorem opi_inSet {neg : Bool} : OpI K (rSetIn neg) (oInSet neg) := by
  intro φ S H x y v w X r hx hy Q p
  unfold oInSet at p
  split at p
  · split at p
    · rename_i k l _ f m e
      cases hx
      obtain ⟨_, rfl⟩ := hy.ref_inv
      exact ⟨k, _, f, m, rfl, rfl, r.ob _ _ e, p.here r (VR.bl _)⟩
    · exact p.elim
  · exact p.elim
def bLenSet : List D → Sto → R D := fun ds S => match ds with
  | [.ref l] => match at_ S l with
    | some (.set _ m) => if m ≤ 4000 then .ok (.int (m : Int)) S else .bad
    | _ => .bad
  | _ => .bad
theorem bLenSet_eq {l : Nat} {f : Int → Bool} {m : Nat} (h : at_ S l = some (.set f m)) (hm : m ≤ 4000) : bLenSet [.ref l] S = .ok (.int (m : Int)) S := by simp [bLenSet, h, hm]
theorem cbi_lenSet : CallI K rSetLen bLenSet := by
  intro φ S H ds vs X r h Q p
  unfold bLenSet at p
  split at p
  · split at p
    · rename_i l _ f m e
      split at p
      · rename_i hm
        obtain ⟨v, rfl, hv⟩ := h.one_inv
        obtain ⟨_, rfl⟩ := hv.ref_inv
        exact ⟨_, f, m, rfl, r.ob _ _ e, hm, p.here r (VR.int _)⟩
      · exact p.elim
    · exact p.elim
  · exact p.elim
/-! ### assert; what is never reached -/
def xAssert (ft : Env → Sto → R Bool) : Env → Sto → RS := fun env S => (ft env S).bindS env fun b S1 => if b = true then .nx env S1 else .bad
theorem imp_assert {tt : TT} {ft : Env → Sto → R Bool} (ht : Imp K W same tt ft) : ImpS K W (tAssert tt) (xAssert ft) := by
  intro φ S H env σ r e D p
  refine ht.goS (tb := fun b H1 => b = true ∧ D.nx σ H1) r e p fun φ1 S1 H1 x v f1 r1 e1 hv p1 => ?_
  obtain rfl : x = v := hv
  cases x with
  | true => exact ⟨rfl, p1 φ1 H1 σ Fut.refl r1 e1⟩
  | false => exact p1.elim
def xNever : Env → Sto → RS := fun _ _ => .bad
theorem imp_never : ImpS K W tNever xNever := fun φ S H env σ r e D p => p
/-! ### dicts with ints and texts as keys -/
def valX {κ α : Type} [DecidableEq κ] (kvs : List (κ × α)) (k : κ) : Option α := (kvs.find? fun kv => decide (kv.1 = k)).map (·.2)
def putX {κ α : Type} [DecidableEq κ] (kvs : List (κ × α)) (k : κ) (v : α) : List (κ × α) := if (kvs.any fun kv => decide (kv.1 = k)) = true then kvs.map (fun kv => if kv.1 = k then (kv.1, v) else kv) else kvs ++ [(k, v)]
theorem valX_cons {κ α : Type} [DecidableEq κ] {kvs : List (κ × α)} {k k' : κ} {v : α} : valX ((k', v) :: kvs) k = if k' = k then some v else valX kvs k := by
  unfold valX
  rw [List.find?_cons]
  by_cases h : k' = k <;> simp [h]
theorem KR.len {κ : Type} : ∀ {kvs : List (κ × D)} {kws : List (κ × V)}, KR K φ n H kvs kws → kws.length = kvs.length
  | _, _, .nil => rfl
  | _, _, .cons _ t => congrArg Nat.succ (KR.len t)
theorem KR.val {κ : Type} [DecidableEq κ] {k : κ} : ∀ {kvs : List (κ × D)} {kws : List (κ × V)} {d : D}, KR K φ n H kvs kws → valX kvs k = some d → ∃ v, valV kws k = some v ∧ VR K φ n H d v
  | _, _, _, .nil, h => by cases h
  | (k', x) :: r, _, d, .cons h t, e => by
    rw [valX_cons] at e
    split at e
    · rename_i hk
      cases e
      exact ⟨_, valV_pos hk, h⟩
    · rename_i hk
      obtain ⟨v, h1, h2⟩ := KR.val t e
      exact ⟨v, by rw [valV_neg hk]; exact h1, h2⟩
theorem KR.val_none {κ : Type} [DecidableEq κ] {k : κ} : ∀ {kvs : List (κ × D)} {kws : List (κ × V)}, KR K φ n H kvs kws → valX kvs k = none → valV kws k = none
  | _, _, .nil, _ => rfl
  | (k', x) :: r, _, .cons h t, e => by
    rw [valX_cons] at e
    split at e
    · cases e
    · rename_i hk
      rw [valV_neg hk]
      exact KR.val_none t e
theorem KR.any {κ : Type} [DecidableEq κ] {k : κ} : ∀ {kvs : List (κ × D)} {kws : List (κ × V)}, KR K φ n H kvs kws → (kws.any fun kv => decide (kv.1 = k)) = (kvs.any fun kv => decide (kv.1 = k))
  | _, _, .nil => rfl
  | _, _, .cons _ t => by rw [List.any_cons, List.any_cons, KR.any t]
theorem KR.mapPut {κ : Type} [DecidableEq κ] {k : κ} {d : D} {v : V} (hv : VR K φ n H d v) : ∀ {kvs : List (κ × D)} {kws : List (κ × V)}, KR K φ n H kvs kws → KR K φ n H (kvs.map fun kv => if kv.1 = k then (kv.1, d) else kv) (kws.map fun kv => if kv.1 = k then (kv.1, v) else kv)
  | _, _, .nil => .nil
  | (k', x) :: r, (_, _) :: _, .cons h t => by
    rw [List.map_cons, List.map_cons]
    by_cases hk : k' = k
    · rw [if_pos hk, if_pos hk]
      exact .cons hv (KR.mapPut hv t)
    · rw [if_neg hk, if_neg hk]
      exact .cons h (KR.mapPut hv t)
theorem KR.app {κ : Type} : ∀ {kvs lvs : List (κ × D)} {kws lws : List (κ × V)}, KR K φ n H kvs kws → KR K φ n H lvs lws → KR K φ n H (kvs ++ lvs) (kws ++ lws)
  | _, _, _, _, .nil, h => h
  | _, _, _, _, .cons a t, h => .cons a (KR.app t h)
theorem KR.put {κ : Type} [DecidableEq κ] {k : κ} {d : D} {v : V} {kvs : List (κ × D)} {kws : List (κ × V)} (h : KR K φ n H kvs kws) (hv : VR K φ n H d v) : KR K φ n H (putX kvs k d) (putK kws k v) := by
  unfold putX putK
  rw [h.any]
  split
  · exact h.mapPut hv
  · exact h.app (.cons hv .nil)
def keyD : D → Option Key
  | .int i => some (.inl i)
  | .str s => some (.inr s)
  | _ => none
@[simp] theorem keyD_int {i : Int} : keyD (.int i) = some (.inl i) := rfl
@[simp] theorem keyD_str {i : Str} : keyD (.str i) = some (.inr i) := rfl
theorem keyD_eq {d : D} {v : V} {k : Key} (h : keyD d = some k) (q : VR K φ n H d v) : v = kV k := by
  cases d <;> simp [keyD] at h <;> subst h <;> cases q <;> rfl
def getDX (S : Sto) (x y : D) : Option (Option D) := match x, keyD y with
  | .ref l, some k => match at_ S l with
    | some (.dK kvs) => some (valX kvs k)
    | _ => none
  | _, _ => none
theorem getDX_eq {l : Nat} {kvs : List (Key × D)} {y : D} {k : Key} (h : at_ S l = some (.dK kvs)) (hy : keyD y = some k) : getDX S (.ref l) y = some (valX kvs k) := by simp [getDX, h, hy]
theorem getDX_inv {x y : D} {v w : V} {o : Option D} (r : Rel K φ S H) (h : getDX S x y = some o) (hx : VR K φ S.length H x v) (hy : VR K φ S.length H y w) : ∃ a kws k, v = .ref a ∧ w = kV k ∧ H a = some (.dK kws) ∧ (∀ d, o = some d → ∃ u, valV kws k = some u ∧ VR K φ S.length H d u) ∧ (o = none → valV kws k = none) := by
  unfold getDX at h
  split at h
  · split at h
    · rename_i l k hk _ kvs e
      cases h
      obtain ⟨_, rfl⟩ := hx.ref_inv
      obtain ⟨kws, q1, q2⟩ := r.ob _ _ e
      exact ⟨_, kws, k, rfl, keyD_eq hk hy, q1, fun d hd => q2.val hd, fun hn => q2.val_none hn⟩
    · cases h
  · cases h
def oDGet : D → D → Sto → R D := fun x y S => match getDX S x y with
  | some (some d) => .ok d S
  | _ => .bad
def xDGet (fo fi : Env → Sto → R D) : Env → Sto → R D := xOp oDGet fo fi
theorem oDGet_eq {l : Nat} {kvs : List (Key × D)} {y d : D} {k : Key} (h : at_ S l = some (.dK kvs)) (hy : keyD y = some k) (hd : valX kvs k = some d) : oDGet (.ref l) y S = .ok d S := by simp [oDGet, getDX_eq h hy, hd]
theorem imp_dget {to ti : TE} {fo fi : Env → Sto → R D} (ho : Imp K W (vr K) to fo) (hi : Imp K W (vr K) ti fi) : Imp K W (vr K) (tDGet to ti) (xDGet fo fi) :=
  imp_op (r := fun x y H Q => ∃ a v, x = .ref a ∧ DGet H a y (some v) ∧ Q v H) (fun φ S H x y v w X r hx hy Q p => by
    unfold oDGet at p
    split at p
    · rename_i d e
      obtain ⟨a, kws, k, rfl, rfl, q1, q2, _⟩ := getDX_inv r e hx hy
      obtain ⟨u, h1, h2⟩ := q2 d rfl
      exact ⟨a, u, rfl, .inl ⟨kws, k, .inl q1, rfl, h1.symm⟩, p.here r h2⟩
    · exact p.elim) ho hi
def oDIn (neg : Bool) : D → D → Sto → R D := fun y x S => match getDX S x y with
  | some o => .ok (.bl (if neg = true then !o.isSome else o.isSome)) S
  | _ => .bad
theorem oDIn_eq {neg : Bool} {l : Nat} {kvs : List (Key × D)} {y : D} {k : Key} (h : at_ S l = some (.dK kvs)) (hy : keyD y = some k) : oDIn neg y (.ref l) S = .ok (.bl (if neg = true then !(valX kvs k).isSome else (valX kvs k).isSome)) S := by simp [oDIn, getDX_eq h hy]
def xDIn (neg : Bool) (fi fo : Env → Sto → R D) : Env → Sto → R D := xOp (oDIn neg) fi fo
theorem getDX_dget {x y : D} {v w : V} {o : Option D} (r : Rel K φ S H) (h : getDX S x y = some o) (hx : VR K φ S.length H x v) (hy : VR K φ S.length H y w) : ∃ a o', v = .ref a ∧ DGet H a w o' ∧ o'.isSome = o.isSome ∧ (∀ d, o = some d → ∃ u, o' = some u ∧ VR K φ S.length H d u) := by
  obtain ⟨a, kws, k, rfl, rfl, q1, q2, q3⟩ := getDX_inv r h hx hy
  cases o with
  | none => exact ⟨a, none, rfl, .inl ⟨kws, k, .inl q1, rfl, (q3 rfl).symm⟩, rfl, fun d hd => by cases hd⟩
  | some d =>
    obtain ⟨u, h1, h2⟩ := q2 d rfl
    exact ⟨a, some u, rfl, .inl ⟨kws, k, .inl q1, rfl, h1.symm⟩, rfl, fun d' hd => by cases hd; exact ⟨u, rfl, h2⟩⟩
theorem imp_din {to ti : TE} {fo fi : Env → Sto → R D} (hi : Imp K W (vr K) ti fi) (ho : Imp K W (vr K) to fo) : Imp K W (vr K) (tDIn ti to) (xDIn false fi fo) :=
  imp_op (r := fun y x H Q => ∃ a o, x = .ref a ∧ DGet H a y o ∧ Q (.bl o.isSome) H) (fun φ S H y x w v X r hy hx Q p => by
    unfold oDIn at p
    split at p
    · rename_i o e
      obtain ⟨a, o', rfl, q1, q2, _⟩ := getDX_dget r e hx hy
      exact ⟨a, o', rfl, q1, by rw [q2]; exact p.here r (VR.bl _)⟩
    · exact p.elim) hi ho
theorem imp_dnotin {to ti : TE} {fo fi : Env → Sto → R D} (hi : Imp K W (vr K) ti fi) (ho : Imp K W (vr K) to fo) : Imp K W (vr K) (tDNotIn ti to) (xDIn true fi fo) :=
  imp_op (r := fun y x H Q => ∃ a o, x = .ref a ∧ DGet H a y o ∧ Q (.bl (!o.isSome)) H) (fun φ S H y x w v X r hy hx Q p => by
    unfold oDIn at p
    split at p
    · rename_i o e
      obtain ⟨a, o', rfl, q1, q2, _⟩ := getDX_dget r e hx hy
      exact ⟨a, o', rfl, q1, by rw [q2]; exact p.here r (VR.bl _)⟩
    · exact p.elim) hi ho
/-- d[k] = v -/
def putDX (x y v : D) (S : Sto) : Option Sto := match x, keyD y with
  | .ref l, some k => match at_ S l with
    | some (.dK kvs) => if kvs.length < 100000 then some (S.set l (.dK (putX kvs k v))) else none
    | _ => none
  | _, _ => none
theorem putDX_eq {l : Nat} {kvs : List (Key × D)} {y v : D} {k : Key} (h : at_ S l = some (.dK kvs)) (hy : keyD y = some k) (hl : kvs.length < 100000) : putDX (.ref l) y v S = some (S.set l (.dK (putX kvs k v))) := by simp [putDX, h, hy, hl]
def xDPut (fo fi fv : Env → Sto → R D) : Env → Sto → RS := fun env S => (fv env S).bindS env fun v S1 => (fo env S1).bindS env fun x S2 => (fi env S2).bindS env fun y S3 => match putDX x y v S3 with
  | some S4 => .nx env S4
  | none => .bad
theorem imp_dput {to ti tv : TE} {fo fi fv : Env → Sto → R D} (ho : Imp K W (vr K) to fo) (hi : Imp K W (vr K) ti fi) (hv : Imp K W (vr K) tv fv) : ImpS K W (sDPut to ti tv) (xDPut fo fi fv) := by
  intro φ S H env σ r e D p
  refine hv.goS r e p fun φ1 S1 H1 v v' f1 r1 e1 hv1 p1 => ho.goS r1 e1 p1 fun φ2 S2 H2 x x' f2 r2 e2 hx p2 => hi.goS r2 e2 p2 fun φ3 S3 H3 y y' f3 r3 e3 hy p3 => ?_
  split at p3
  · rename_i S4 hp
    unfold putDX at hp
    split at hp
    · split at hp
      · rename_i l k hk _ kvs el
        split at hp
        · rename_i hz
          cases hp
          obtain ⟨_, rfl⟩ := (VR.fut f3 hx).ref_inv
          obtain ⟨kws, q1, q2⟩ := r3.ob _ _ el
          have hv3 := VR.fut (f2.trans f3) hv1
          have fw : Fut K φ3 S3.length H3 φ3 S3.length (upd H3 (φ3 l) (.dK (putK kws k v'))) := Fut.upd q1 trivial
          have q := r3.put (o' := .dK (putX kvs k v)) (u := .dK (putK kws k v')) el rfl rfl ⟨_, upd_same, (q2.put hv3).fut fw⟩
          exact ⟨_, _, rfl, .inl ⟨kws, k, q1, keyD_eq hk hy, sz_lt (by rw [q2.len]; exact hz), rfl⟩, p3 _ _ σ q.2 q.1 (e3.fut q.2)⟩
        · cases hp
      · cases hp
    · cases hp
  · exact p3.elim
/-- d.get(k) -/
def xDGet1 (fo fi : Env → Sto → R D) : Env → Sto → R D := fun env S => (fo env S).bind fun x S1 => match x with
  | .ref l => match at_ S1 l with
    | some (.dK _) => (fi env S1).bind fun y S2 => match getDX S2 (.ref l) y with
      | some o => .ok (o.getD .non) S2
      | none => .bad
    | _ => .bad
  | _ => .bad
theorem imp_dget1 {to ti : TE} {fo fi : Env → Sto → R D} (ho : Imp K W (vr K) to fo) (hi : Imp K W (vr K) ti fi) : Imp K W (vr K) (tDGet1 to ti) (xDGet1 fo fi) :=
  imp_bind (tb := fun (x : V) σ H1 (Q : VK) => ∃ a, x = .ref a ∧ IsD H1 a ∧ ti σ H1 fun y H2 => ∃ o, DGet H2 a y o ∧ Q (o.getD .non) H2) ho fun φ S H env σ x v rl e hv Q p => by
    split at p
    · split at p
      · rename_i l _ kvs el
        obtain ⟨hl, rfl⟩ := hv.ref_inv
        obtain ⟨kws, q1, _⟩ := rl.ob _ _ el
        refine ⟨_, rfl, .inl ⟨kws, .inl q1⟩, hi.go rl e p fun φ1 S1 H1 y w f r1 _ hw p1 => ?_⟩
        split at p1
        · rename_i o eo
          obtain ⟨a, o', ea, b1, b2, b3⟩ := getDX_dget r1 eo (VR.ref (Nat.lt_of_lt_of_le hl f.le)) hw
          rw [f.ag _ hl] at ea
          cases ea
          refine ⟨o', b1, ?_⟩
          cases o with
          | none =>
            cases o' with
            | none => exact p1.here r1 VR.non
            | some u => cases b2
          | some d =>
            obtain ⟨u, rfl, hu⟩ := b3 d rfl
            exact p1.here r1 hu
        · exact p1.elim
      · exact p.elim
    · exact p.elim
def bLenD : List D → Sto → R D := fun ds S => match ds with
  | [.ref l] => match at_ S l with
    | some (.dK kvs) => .ok (.int (kvs.length : Int)) S
    | _ => .bad
  | _ => .bad
theorem cbi_lenD : CallI K (fun xs H Q => ∃ a kvs, xs = [V.ref a] ∧ H a = some (.dK kvs) ∧ Q (.int kvs.length) H) bLenD := by
  intro φ S H ds vs X r h Q p
  unfold bLenD at p
  split at p
  · split at p
    · rename_i l _ kvs e
      obtain ⟨v, rfl, hv⟩ := h.one_inv
      obtain ⟨_, rfl⟩ := hv.ref_inv
      obtain ⟨kws, q1, q2⟩ := r.ob _ _ e
      exact ⟨_, kws, rfl, q1, by rw [q2.len]; exact p.here r (VR.int _)⟩
    · exact p.elim
  · exact p.elim
def xDNew : Env → Sto → R D := fun _ S => .ok (.ref S.length) (S ++ [.dK []])
theorem imp_dnew : Imp K W (vr K) tDNewK xDNew := fun φ S H env σ r e Q p a ha => p.new r ha ⟨[], upd_same, .nil⟩
/-! displays -/
def prs (K : PySem.W.Frag) : Rl (List (D × D)) (List (V × V)) := fun φ n H ds vs => Paired (fun p q => VR K φ n H p.1 q.1 ∧ VR K φ n H p.2 q.2) ds vs
def xPNil : Env → Sto → R (List (D × D)) := fun _ S => .ok [] S
def xPCons (fk fv : Env → Sto → R D) (fr : Env → Sto → R (List (D × D))) : Env → Sto → R (List (D × D)) := fun env S => (fk env S).bind fun x S1 => (fv env S1).bind fun y S2 => (fr env S2).bind fun ps S3 => .ok ((x, y) :: ps) S3
theorem impp_nil : Imp K W (prs K) (tPairs []) xPNil := fun φ S H env σ r e Q p => p.here r Paired.nil
theorem impp_cons {tk tv : TE} {trs : List (TE × TE)} {fk fv : Env → Sto → R D} {fr : Env → Sto → R (List (D × D))} (hk : Imp K W (vr K) tk fk) (hv : Imp K W (vr K) tv fv) (hr : Imp K W (prs K) (tPairs trs) fr) : Imp K W (prs K) (tPairs ((tk, tv) :: trs)) (xPCons fk fv fr) :=
  imp_bind (tb := fun (x : V) σ H1 (Q : List (V × V) → Hp → Prop) => tv σ H1 fun y H2 => tPairs trs σ H2 fun ps H3 => Q ((x, y) :: ps) H3) hk fun φ S H env σ x v rl e hx Q p =>
    hv.go rl e p fun φ1 S1 H1 y w f1 r1 e1 hy p1 => hr.go r1 e1 p1 fun φ2 S2 H2 ps qs f2 r2 e2 hp p2 => p2.here r2 (Paired.cons ⟨VR.fut f2 (VR.fut f1 hx), VR.fut f2 hy⟩ hp)
def keysX : List (D × D) → Option (List (Key × D))
  | [] => some []
  | (k, v) :: r => (keyD k).bind fun k' => (keysX r).map fun r' => (k', v) :: r'
def mergeX (kvs more : List (Key × D)) : List (Key × D) := more.foldl (fun acc kv => putX acc kv.1 kv.2) kvs
theorem keysX_inv : ∀ {ds : List (D × D)} {ks : List (Key × D)} {vs : List (V × V)}, keysX ds = some ks → Paired (fun p q => VR K φ n H p.1 q.1 ∧ VR K φ n H p.2 q.2) ds vs → ∃ kws : List (Key × V), vs = kws.map (fun kv => (kV kv.1, kv.2)) ∧ KR K φ n H ks kws ∧ kws.length = ks.length
  | [], _, _, h, .nil => by cases h; exact ⟨[], rfl, .nil, rfl⟩
  | (k, v) :: r, _, _, h, .cons (b := b) q t => by
    obtain ⟨k', h1, h2⟩ := Option.bind_eq_some_iff.mp h
    obtain ⟨r', h3, h4⟩ := Option.map_eq_some_iff.mp h2
    obtain ⟨kws, e1, e2, e3⟩ := keysX_inv h3 t
    cases h4
    obtain ⟨b1, b2⟩ := b
    have := keyD_eq h1 q.1
    dsimp only at this
    subst this
    exact ⟨(k', b2) :: kws, by rw [e1]; rfl, .cons q.2 e2, congrArg Nat.succ e3⟩
theorem KR.merge : ∀ {more : List (Key × D)} {mw : List (Key × V)} {kvs : List (Key × D)} {kws : List (Key × V)}, KR K φ n H more mw → KR K φ n H kvs kws → KR K φ n H (mergeX kvs more) (mergeK kws mw)
  | _, _, _, _, .nil, h => h
  | (k, x) :: r, (_, v) :: vs, _, _, .cons q t, h => KR.merge (more := r) (mw := vs) t (h.put q)
def xDisp (fp : Env → Sto → R (List (D × D))) : Env → Sto → R D := fun env S => (fp env (S ++ [.dK []])).bind fun ps S1 => match at_ S1 S.length, keysX ps with
  | some (.dK []), some ks => if ks.length ≤ 15 then .ok (.ref S.length) (S1.set S.length (.dK (mergeX [] ks))) else .bad
  | _, _ => .bad
theorem imp_disp {trs : List (TE × TE)} {fp : Env → Sto → R (List (D × D))} (hp : Imp K W (prs K) (tPairs trs) fp) : Imp K W (vr K) (tDisp trs) (xDisp fp) := by
  intro φ S H env σ r e Q p a ha
  have r0 : Rel K (nxt φ S.length a) (S ++ [.dK []]) (upd H a (.dK [])) := r.new ha ⟨[], upd_same, .nil⟩
  have f0 : Fut K φ S.length H (nxt φ S.length a) (S ++ [O.dK []]).length (upd H a (.dK [])) := by
    rw [List.length_append]
    exact Fut.new ha
  refine hp.go r0 (e.fut f0) (p.fut f0) fun φ1 S1 H1 ps qs f1 r1 e1 hq p1 => ?_
  split at p1
  · rename_i ks h1 h2
    split at p1
    · rename_i hl
      obtain ⟨kws, e1', e2, e3⟩ := keysX_inv h2 hq
      obtain ⟨zs, q1, q2⟩ := r1.ob _ _ h1
      cases q2
      have hφ : φ1 S.length = a := by
        rw [f1.ag _ (by simp)]
        exact nxt_at
      have fw : Fut K φ1 S1.length H1 φ1 S1.length (upd H1 (φ1 S.length) (.dK (mergeK [] kws))) := Fut.upd q1 trivial
      have q := r1.put (o' := .dK (mergeX [] ks)) (u := .dK (mergeK [] kws)) h1 rfl rfl ⟨_, upd_same, (e2.merge .nil).fut fw⟩
      have fin := p1 φ1 _ (.ref (φ1 S.length)) q.2 q.1 (VR.ref (by
        rw [List.length_set]
        exact (List.getElem?_eq_some_iff.mp h1).1))
      rw [hφ] at q1 fin
      exact ⟨q1, kws, e1', by rw [e3]; exact hl, fin⟩
    · exact p1.elim
  · exact p1.elim
/-! ### instances -/
def lkX {α : Type} (f : Str) (fs : List (Str × α)) : Option α := fs.lookup f
theorem KR.lookup {f : Str} : ∀ {fs : List (Str × D)} {fv : List (Str × V)} {d : D}, KR K φ n H fs fv → fs.lookup f = some d → ∃ v, fv.lookup f = some v ∧ VR K φ n H d v
  | _, _, _, .nil, h => by cases h
  | (k, x) :: r, _, d, .cons h t, e => by
    rw [List.lookup_cons] at e ⊢
    cases hk : f == k with
    | true =>
      rw [hk] at e
      cases e
      exact ⟨_, rfl, h⟩
    | false =>
      rw [hk] at e
      exact KR.lookup t e
theorem KR.lookup_none {f : Str} : ∀ {fs : List (Str × D)} {fv : List (Str × V)}, KR K φ n H fs fv → fs.lookup f = none → fv.lookup f = none
  | _, _, .nil, _ => rfl
  | (k, x) :: r, _, .cons h t, e => by
    rw [List.lookup_cons] at e ⊢
    cases hk : f == k with
    | true =>
      rw [hk] at e
      cases e
    | false =>
      rw [hk] at e
      exact KR.lookup_none t e
def putFX (f : Str) (v : D) : List (Str × D) → List (Str × D)
  | [] => [(f, v)]
  | (g, x) :: r => if g = f then (g, v) :: r else (g, x) :: putFX f v r
theorem KR.putF {f : Str} {d : D} {v : V} (hv : VR K φ n H d v) : ∀ {fs : List (Str × D)} {fv : List (Str × V)}, KR K φ n H fs fv → KR K φ n H (putFX f d fs) (L2.putF f v fv)
  | _, _, .nil => .cons hv .nil
  | (g, x) :: r, (_, _) :: _, .cons h t => by
    unfold putFX L2.putF
    by_cases hg : g = f
    · rw [if_pos hg, if_pos hg]
      exact .cons hv t
    · rw [if_neg hg, if_neg hg]
      exact .cons h (KR.putF hv t)
def insX (S : Sto) (C : Str) : D → Option (Nat × List (Str × D))
  | .ref l => match at_ S l with
    | some (.ins C' fs) => if C' = C then some (l, fs) else none
    | _ => none
  | _ => none
theorem insX_eq {l : Nat} {C : Str} {fs : List (Str × D)} (h : at_ S l = some (.ins C fs)) : insX S C (.ref l) = some (l, fs) := by simp [insX, h]
theorem insX_inv {x : D} {v : V} {C : Str} {l : Nat} {fs : List (Str × D)} (r : Rel K φ S H) (h : insX S C x = some (l, fs)) (hv : VR K φ S.length H x v) : x = .ref l ∧ v = .ref (φ l) ∧ at_ S l = some (.ins C fs) ∧ ∃ dx fv, H (φ l) = some (.ins (He.ga K C) dx fv) ∧ KR K φ S.length H fs fv := by
  unfold insX at h
  split at h
  · split at h
    · rename_i l' _ C' fs' e
      split at h
      · rename_i hc
        cases h
        subst hc
        obtain ⟨_, rfl⟩ := hv.ref_inv
        exact ⟨rfl, rfl, e, r.ob _ _ e⟩
      · cases h
    · cases h
  · cases h
def xFld (C f : Str) (fa : Env → Sto → R D) : Env → Sto → R D := fun env S => (fa env S).bind fun x S1 => match (insX S1 C x).bind fun p => p.2.lookup f with
  | some d => .ok d S1
  | none => .bad
theorem imp_fld {C f : Str} {ta : TE} {fa : Env → Sto → R D} (c : Cls K (He.ga K C)) (na : NoAttr K (He.ga K C) f) (ha : Imp K W (vr K) ta fa) : Imp K W (vr K) (tFld K ta f) (xFld C f fa) :=
  imp_bind (tb := fun (x : V) _ H1 (Q : VK) => ∃ a C dx fs v, x = .ref a ∧ H1 a = some (.ins C dx fs) ∧ Cls K C ∧ NoAttr K C f ∧ fs.lookup f = some v ∧ Q v H1) ha fun φ S H env σ x v rl e hv Q p => by
    split at p
    · rename_i d hd
      obtain ⟨⟨l, fs⟩, h1, h2⟩ := Option.bind_eq_some_iff.mp hd
      obtain ⟨_, rfl, _, dx, fv, q1, q2⟩ := insX_inv rl h1 hv
      obtain ⟨u, h3, h4⟩ := q2.lookup h2
      exact ⟨_, _, dx, fv, u, rfl, q1, c, na, h3, p.here rl h4⟩
    · exact p.elim
def setFX (C f : Str) (x y : D) (S : Sto) : Option Sto := (insX S C x).bind fun p => if p.2.length < 900 then some (S.set p.1 (.ins C (putFX f y p.2))) else none
theorem setFX_eq {C f : Str} {l : Nat} {fs : List (Str × D)} {y : D} (h : at_ S l = some (.ins C fs)) (hl : fs.length < 900) : setFX C f (.ref l) y S = some (S.set l (.ins C (putFX f y fs))) := by simp [setFX, insX_eq h, hl]
theorem setFX_inv {C f : Str} {x y : D} {v w : V} {S' : Sto} (r : Rel K φ S H) (h : setFX C f x y S = some S') (hx : VR K φ S.length H x v) (hy : VR K φ S.length H y w) :
    ∃ l dx fv, x = .ref l ∧ v = .ref (φ l) ∧ H (φ l) = some (.ins (He.ga K C) dx fv) ∧ fv.length < 900 ∧ Rel K φ S' (upd H (φ l) (.ins (He.ga K C) dx (L2.putF f w fv))) ∧ Fut K φ S.length H φ S'.length (upd H (φ l) (.ins (He.ga K C) dx (L2.putF f w fv))) := by
  obtain ⟨⟨l, fs⟩, h1, h2⟩ := Option.bind_eq_some_iff.mp h
  split at h2
  · rename_i hl
    cases h2
    obtain ⟨rfl, rfl, el, dx, fv, q1, q2⟩ := insX_inv r h1 hx
    have fw : Fut K φ S.length H φ S.length (upd H (φ l) (.ins (He.ga K C) dx (L2.putF f w fv))) := Fut.upd q1 trivial
    have q := r.put (o' := .ins C (putFX f y fs)) (u := .ins (He.ga K C) dx (L2.putF f w fv)) el rfl rfl ⟨dx, _, upd_same, (q2.putF hy).fut fw⟩
    exact ⟨l, dx, fv, rfl, rfl, q1, by rw [q2.len]; exact hl, q.1, q.2⟩
  · cases h2
def xSetF (C f : Str) (fo fv : Env → Sto → R D) : Env → Sto → RS := fun env S => (fv env S).bindS env fun y S1 => (fo env S1).bindS env fun x S2 => match setFX C f x y S2 with
  | some S3 => .nx env S3
  | none => .bad
theorem imp_setF {C f : Str} {to tv : TE} {fo fv : Env → Sto → R D} (c : Cls K (He.ga K C)) (na : NoAttr K (He.ga K C) f) (ho : Imp K W (vr K) to fo) (hv : Imp K W (vr K) tv fv) : ImpS K W (sFld K to tv f) (xSetF C f fo fv) := by
  intro φ S H env σ r e D p
  refine hv.goS r e p fun φ1 S1 H1 y y' f1 r1 e1 hy p1 => ho.goS r1 e1 p1 fun φ2 S2 H2 x x' f2 r2 e2 hx p2 => ?_
  split at p2
  · rename_i S3 hs
    obtain ⟨l, dx, fv, rfl, rfl, q1, q2, q3, q4⟩ := setFX_inv r2 hs hx (VR.fut f2 hy)
    exact ⟨_, _, dx, fv, rfl, q1, c, na, by omega, p2 _ _ σ q4 q3 (e2.fut q4)⟩
  · exact p2.elim
def xAugF (C f : Str) (fo fv : Env → Sto → R D) (o : D → D → Sto → R D) : Env → Sto → RS := fun env S => (fo env S).bindS env fun x S1 => match (insX S1 C x).bind fun p => p.2.lookup f with
  | some d => (fv env S1).bindS env fun y S2 => (o d y S2).bindS env fun z S3 => match setFX C f x z S3 with
    | some S4 => .nx env S4
    | none => .bad
  | none => .bad
theorem imp_augF {C f : Str} {to tv : TE} {fo fv : Env → Sto → R D} {op : Int → Int → Int} (c : Cls K (He.ga K C)) (na : NoAttr K (He.ga K C) f) (ho : Imp K W (vr K) to fo) (hv : Imp K W (vr K) tv fv) :
    ImpS K W (sFldAug K to tv (fun x y H Q => ∃ i j, x = .int i ∧ y = .int j ∧ Q (.int (op i j)) H) f) (xAugF C f fo fv (oI fun i j => .int (op i j))) := by
  intro φ S H env σ r e D p
  refine ho.goS r e p fun φ1 S1 H1 x x' f1 r1 e1 hx p1 => ?_
  split at p1
  · rename_i d hd
    obtain ⟨⟨l, fs⟩, h1, h2⟩ := Option.bind_eq_some_iff.mp hd
    obtain ⟨rfl, rfl, _, dx, fv1, q1, q2⟩ := insX_inv r1 h1 hx
    obtain ⟨u, h3, h4⟩ := q2.lookup h2
    refine ⟨_, _, dx, fv1, u, rfl, q1, c, na, h3, hv.goS r1 e1 p1 fun φ2 S2 H2 y y' f2 r2 e2 hy p2 => ?_⟩
    unfold oI at p2
    split at p2
    · cases VR.fut f2 h4
      cases hy
      simp only [R.bindS_ok] at p2
      split at p2
      · rename_i S4 hs
        obtain ⟨l', dx', fv', e', ev, q3, q4, q5, q6⟩ := setFX_inv r2 hs (VR.fut f2 hx) (VR.int _)
        cases e'
        injection ev with ev
        rw [ev]
        exact ⟨_, _, rfl, rfl, dx', fv', q3, by omega, p2 _ _ σ q6 q5 (e2.fut q6)⟩
      · exact p2.elim
    · exact p2.elim
  · exact p1.elim
theorem imp_augF_add {C f : Str} {to tv : TE} {fo fv : Env → Sto → R D} (c : Cls K (He.ga K C)) (na : NoAttr K (He.ga K C) f) (ho : Imp K W (vr K) to fo) (hv : Imp K W (vr K) tv fv) : ImpS K W (sFldAug K to tv rAdd f) (xAugF C f fo fv (oI fun i j => .int (i + j))) := imp_augF c na ho hv
theorem imp_augF_sub {C f : Str} {to tv : TE} {fo fv : Env → Sto → R D} (c : Cls K (He.ga K C)) (na : NoAttr K (He.ga K C) f) (ho : Imp K W (vr K) to fo) (hv : Imp K W (vr K) tv fv) : ImpS K W (sFldAug K to tv rSub f) (xAugF C f fo fv (oI fun i j => .int (i - j))) := imp_augF c na ho hv
/-- o.m(..) -/
def xMeth (C m : Str) (f : List D → Sto → R D) (fo : Env → Sto → R D) (fa : Env → Sto → R (List D)) : Env → Sto → R D := fun env S => (fo env S).bind fun x S1 => match insX S1 C x with
  | some (_, fs) => match fs.lookup m with
    | none => (fa env S1).bind fun ds S2 => nox (f (x :: ds) S2)
    | some _ => .bad
  | none => .bad
theorem imp_meth {C m : Str} {f : List D → Sto → R D} {to : TE} {ta : TA} {fo : Env → Sto → R D} {fa : Env → Sto → R (List D)} {E : XK} (ho : Imp K W (vr K) to fo) (ha : Imp K W (vrs K) ta fa) : Imp K W (vr K) (tMeth (He.ga K C) m (spF K f) [] E to ta) (xMeth C m f fo fa) :=
  imp_bind (tb := fun (x : V) σ H1 (Q : VK) => ∃ a dx fs, x = .ref a ∧ H1 a = some (.ins (He.ga K C) dx fs) ∧ fs.lookup m = none ∧ ta σ H1 fun vs H2 => spF K f (x :: (vs ++ [])) H2 Q E) ho fun φ S H env σ x v rl e hv Q p => by
    split at p
    · rename_i l fs hi
      split at p
      · rename_i hm
        obtain ⟨rfl, rfl, _, dx, fv, q1, q2⟩ := insX_inv rl hi hv
        refine ⟨_, dx, fv, rfl, q1, q2.lookup_none hm, ha.go rl e p fun φ1 S1 H1 ds vs f1 r1 _ hvs p1 => ?_⟩
        rw [List.append_nil]
        obtain ⟨d, S2, hf, p1⟩ := nox_inv p1
        exact ⟨φ1, S1, _, r1, .cons (VR.fut f1 hv) hvs, by rw [hf]; exact p1⟩
      · exact p.elim
    · exact p.elim
def xMethX (C m : Str) (f : List D → Sto → R D) (fo : Env → Sto → R D) (fa : Env → Sto → R (List D)) : Env → Sto → R D := fun env S => (fo env S).bind fun x S1 => match insX S1 C x with
  | some (_, fs) => match fs.lookup m with
    | none => (fa env S1).bind fun ds S2 => f (x :: ds) S2
    | some _ => .bad
  | none => .bad
theorem imp_methX {C m : Str} {f : List D → Sto → R D} {to : TE} {ta : TA} {fo : Env → Sto → R D} {fa : Env → Sto → R (List D)} (ho : Imp K W (vr K) to fo) (ha : Imp K W (vrs K) ta fa) : Imp K W (vr K) (tMethS (He.ga K C) m (spF K f) (WE W) to ta) (xMethX C m f fo fa) :=
  imp_bind (tb := fun (x : V) σ H1 (Q : VK) => ∃ a dx fs, x = .ref a ∧ H1 a = some (.ins (He.ga K C) dx fs) ∧ fs.lookup m = none ∧ ta σ H1 fun vs H2 => spF K f (x :: vs) H2 Q (WE W σ)) ho fun φ S H env σ x v rl e hv Q p => by
    split at p
    · rename_i l fs hi
      split at p
      · rename_i hm
        obtain ⟨rfl, rfl, _, dx, fv, q1, q2⟩ := insX_inv rl hi hv
        exact ⟨_, dx, fv, rfl, q1, q2.lookup_none hm, ha.go rl e p fun φ1 S1 H1 ds vs f1 r1 _ hvs p1 => ⟨φ1, S1, _, r1, .cons (VR.fut f1 hv) hvs, p1⟩⟩
      · exact p.elim
    · exact p.elim
/-- C(..) -/
def xMake (C : Str) (f : List D → Sto → R D) (fa : Env → Sto → R (List D)) : Env → Sto → R D := fun env S => (fa env S).bind fun ds S1 => match f (.ref S1.length :: ds) (S1 ++ [.ins C []]) with
  | .ok .non S2 => .ok (.ref S1.length) S2
  | _ => .bad
theorem imp_make {C : Str} {f : List D → Sto → R D} {ta : TA} {fa : Env → Sto → R (List D)} {E : XK} (ha : Imp K W (vrs K) ta fa) : Imp K W (vr K) (tMake (He.ga K C) (spF K f) [] E ta) (xMake C f fa) :=
  imp_bind (tb := fun (vs : List V) _ H1 (Q : VK) => ∀ x dx, H1 x = none → H1 dx = none → dx ≠ x → spF K f (.ref x :: (vs ++ [])) (upd (upd H1 dx (.own x)) x (.ins (He.ga K C) dx [])) (fun v H2 => v = .non ∧ Q (.ref x) H2) E) ha fun φ S H env σ ds vs rl e hv Q p x dx hx hd ne => by
    split at p
    · rename_i S2 hf
      have e1 : Ex H (upd H dx (.own x)) := Ex.new hd
      have hx1 : (upd H dx (.own x)) x = none := by rw [upd_ne ne.symm]; exact hx
      have r1 := (rl.ex e1).new (o := .ins C []) (u := .ins (He.ga K C) dx []) hx1 ⟨dx, [], upd_same, .nil⟩
      have f1 : Fut K φ S.length H (nxt φ S.length x) (S ++ [O.ins C []]).length (upd (upd H dx (.own x)) x (.ins (He.ga K C) dx [])) := by
        rw [List.length_append]
        exact (Fut.ex e1).trans (Fut.new hx1)
      have hr := VR.ref (K := K) (φ := nxt φ S.length x) (n := (S ++ [O.ins C []]).length) (H := upd (upd H dx (.own x)) x (.ins (He.ga K C) dx [])) (l := S.length) (by simp)
      rw [nxt_at] at hr
      refine ⟨_, _, _, r1, .cons hr (by rw [List.append_nil]; exact hv.fut f1), ?_⟩
      rw [hf]
      intro φ' H' v f' r' hv'
      cases hv'
      refine ⟨rfl, ?_⟩
      have q := p φ' H' (.ref (φ' S.length)) (f1.trans f') r' (VR.ref (Nat.lt_of_lt_of_le (by simp) f'.le))
      rw [f'.ag _ (by simp), nxt_at] at q
      exact q
    · exact p.elim
end
end Mi

namespace Mi
open PySem PySem.Spec PyProof.Rows L2 Evl My
/-! ### the first part first -/
def RS.turn (r : RS) (g : Env → Sto → RS) : RS := match r with
  | .nx e S => g e S
  | .ct e S => g e S
  | q => q
def R.bindE (r : R Env) (g : Env → Sto → RS) : RS := match r with
  | .ok e S => g e S
  | _ => .bad
@[simp] theorem turn_nx {e : Env} {S : Sto} {g : Env → Sto → RS} : (RS.nx e S).turn g = g e S := rfl
@[simp] theorem turn_ct {e : Env} {S : Sto} {g : Env → Sto → RS} : (RS.ct e S).turn g = g e S := rfl
@[simp] theorem turn_ret {d : D} {S : Sto} {g : Env → Sto → RS} : (RS.ret d S).turn g = .ret d S := rfl
@[simp] theorem turn_bk {e : Env} {S : Sto} {g : Env → Sto → RS} : (RS.bk e S).turn g = .bk e S := rfl
@[simp] theorem turn_exc {c : Str} {fs : List (Str × D)} {e : Env} {S : Sto} {g : Env → Sto → RS} : (RS.exc c fs e S).turn g = .exc c fs e S := rfl
@[simp] theorem bindE_ok {e : Env} {S : Sto} {g : Env → Sto → RS} : (R.ok e S).bindE g = g e S := rfl
open Classical in
theorem loopX_cons {ok : Sto → Prop} {fg : XG} {fb : Env → Sto → RS} {x : D} {r : List D} {env : Env} {S : Sto} (h : ok S) : loopX ok fg fb (x :: r) env S = (fg x env S).bindE fun e1 S1 => (fb e1 S1).turn (loopX ok fg fb r) := by
  rw [loopX, if_pos h]
  cases fg x env S with
  | ok e1 S1 =>
    simp only [bindE_ok]
    cases fb e1 S1 <;> rfl
  | _ => rfl
open Classical in
theorem loopX_nil {ok : Sto → Prop} {fg : XG} {fb : Env → Sto → RS} {env : Env} {S : Sto} (h : ok S) : loopX ok fg fb [] env S = .nx env S := by rw [loopX, if_pos h]
theorem whileX_succ {ft : Env → Sto → R Bool} {fb : Env → Sto → RS} {k : Nat} {env : Env} {S : Sto} : whileX ft fb (k + 1) env S = (ft env S).bindS env fun b S1 => if b = true then (fb env S1).turn (whileX ft fb k) else .nx env S1 := by
  rw [whileX]
  congr 1
/-! ### reckoning in the store -/
theorem str_beq (a b : Str) : (a == b) = decide (a = b) := by rw [Bool.eq_iff_iff]; simp
section
variable {S S' : Sto} {l i : Nat} {o : O} {xs : List D}
theorem at_set {j : Nat} : at_ (S.set i o) j = if i = j then (if i < S.length then some o else none) else at_ S j := by
  unfold at_
  rw [List.getElem?_set]
theorem at_set_eq (h : i < S.length) : at_ (S.set i o) i = some o := List.getElem?_set_self h
theorem at_set_ne (h : i ≠ l) : at_ (S.set i o) l = at_ S l := List.getElem?_set_ne h
theorem at_app (h : at_ S l = some o) {T : Sto} : at_ (S ++ T) l = some o := by
  unfold at_ at *
  rw [List.getElem?_append_left (List.getElem?_eq_some_iff.mp h).1]
  exact h
theorem at_app_lt (h : l < S.length) {T : Sto} : at_ (S ++ T) l = at_ S l := List.getElem?_append_left h
theorem at_new {T : Sto} : at_ (S ++ o :: T) S.length = some o := by simp [at_]
theorem rdL_at : rdL S l = (match at_ S l with
  | some (.lst xs) => some xs
  | some (.rol xs) => some xs
  | _ => none) := rfl
theorem rdL_lst (h : at_ S l = some (.lst xs)) : rdL S l = some xs := by simp [rdL, h]
theorem rdL_set_ne (h : i ≠ l) : rdL (S.set i o) l = rdL S l := by unfold rdL; rw [at_set_ne h]
theorem rdL_set_eq (h : i < S.length) : rdL (S.set i (.lst xs)) i = some xs := rdL_lst (at_set_eq h)
theorem rdL_app (h : rdL S l = some xs) {T : Sto} : rdL (S ++ T) l = some xs := by
  unfold rdL at h ⊢
  rw [at_app_lt (rdL_lt (S := S) (l := l) (xs := xs) (by unfold rdL; exact h))]
  exact h
theorem rdL_new {T : Sto} : rdL (S ++ O.lst xs :: T) S.length = some xs := rdL_lst at_new
theorem rdL_of_at {S' : Sto} (e : at_ S' l = at_ S l) (h : rdL S l = some xs) : rdL S' l = some xs := by
  unfold rdL at h ⊢
  rw [e]
  exact h
theorem at_app_ge {T : Sto} {k : Nat} : at_ (S ++ T) (S.length + k) = at_ T k := by
  unfold at_
  rw [List.getElem?_append_right (by omega), Nat.add_sub_cancel_left]
theorem at_app_self {T : Sto} : at_ (S ++ T) S.length = at_ T 0 := at_app_ge (k := 0)
theorem at_zero {T : Sto} : at_ (o :: T) 0 = some o := rfl
theorem at_succ {T : Sto} {k : Nat} : at_ (o :: T) (k + 1) = at_ T k := by simp [at_]
theorem rdL_app_ge {T : Sto} {k : Nat} : rdL (S ++ T) (S.length + k) = rdL T k := by unfold rdL; rw [at_app_ge]
theorem rdL_app_self {T : Sto} : rdL (S ++ T) S.length = rdL T 0 := rdL_app_ge (k := 0)
theorem rdL_zero {T : Sto} : rdL (.lst xs :: T) 0 = some xs := rfl
theorem rdL_succ {T : Sto} {k : Nat} : rdL (o :: T) (k + 1) = rdL T k := by unfold rdL; rw [at_succ]
theorem rdL_app_lt (h : l < S.length) {T : Sto} : rdL (S ++ T) l = rdL S l := by unfold rdL; rw [at_app_lt h]
/-- all below n but what lies in [b, b + k) is as it was -/
structure Frm (b k : Nat) (S S' : Sto) : Prop where
  le : S.length ≤ S'.length
  eq : ∀ i, i < S.length → ¬ (b ≤ i ∧ i < b + k) → at_ S' i = at_ S i
theorem Frm.refl {b k : Nat} : Frm b k S S := ⟨Nat.le_refl _, fun _ _ _ => rfl⟩
theorem Frm.trans {b k : Nat} {S1 S2 : Sto} (a : Frm b k S S1) (c : Frm b k S1 S2) : Frm b k S S2 := ⟨Nat.le_trans a.le c.le, fun i h n => (c.eq i (Nat.lt_of_lt_of_le h a.le) n).trans (a.eq i h n)⟩
theorem Frm.set {b k j : Nat} (h : b ≤ j ∧ j < b + k) : Frm b k S (S.set j o) := ⟨by simp, fun i _ n => List.getElem?_set_ne (fun z => n (by rw [← z]; exact h))⟩
theorem Frm.app {b k : Nat} {T : Sto} : Frm b k S (S ++ T) := ⟨by simp, fun i h _ => List.getElem?_append_left h⟩
theorem Frm.get {b k : Nat} (f : Frm b k S S') (h : at_ S l = some o) (n : ¬ (b ≤ l ∧ l < b + k)) : at_ S' l = some o := by rw [f.eq l (at_lt h) n]; exact h
theorem Frm.rd {b k : Nat} (f : Frm b k S S') (h : rdL S l = some xs) (n : ¬ (b ≤ l ∧ l < b + k)) : rdL S' l = some xs := rdL_of_at (f.eq l (rdL_lt h) n) h
end
/-! ### comprehensions that leave the store -/
theorem lc_pure {ok : Sto → Prop} {fg : XG} {ft : Env → Sto → R Bool} {fe : Env → Sto → R D} {env0 : Env} {S : Sto} (g : D → Option D) : ∀ (items : List D) (acc : List D), (∀ acc, ok (S ++ [.lst acc])) →
    (∀ x ∈ items, ∀ acc, ∃ e1, fg x env0 (S ++ [.lst acc]) = .ok e1 (S ++ [.lst acc]) ∧ (match g x with
      | some y => ft e1 (S ++ [.lst acc]) = .ok true (S ++ [.lst acc]) ∧ fe e1 (S ++ [.lst acc]) = .ok y (S ++ [.lst acc])
      | none => ft e1 (S ++ [.lst acc]) = .ok false (S ++ [.lst acc]))) →
    acc.length + items.length < 100000 → compX ok fg ft fe env0 S.length items (S ++ [.lst acc]) = .ok (.ref S.length) (S ++ [.lst (acc ++ items.filterMap g)])
  | [], acc, hok, _, _ => by simp [compX, hok]
  | x :: r, acc, hok, ht, hl => by
    obtain ⟨e1, h1, h2⟩ := ht x List.mem_cons_self acc
    rw [List.length_cons] at hl
    have ht' : ∀ y ∈ r, _ := fun y hy => ht y (List.mem_cons_of_mem _ hy)
    rw [compX, if_pos (hok acc), h1]
    cases hg : g x with
    | none =>
      rw [hg] at h2
      simp only [h2]
      rw [lc_pure g r acc hok ht' (by omega), List.filterMap_cons_none hg]
    | some y =>
      rw [hg] at h2
      simp only [h2.1, h2.2]
      have hs : at_ (S ++ [O.lst acc]) S.length = some (.lst acc) := by simp [at_]
      have hset : (S ++ [O.lst acc]).set S.length (.lst (acc ++ [y])) = S ++ [.lst (acc ++ [y])] := by simp
      rw [hs]
      simp only
      rw [if_pos (by omega), hset, lc_pure g r (acc ++ [y]) hok ht' (by simp; omega), List.filterMap_cons_some hg]
      simp
/-- .. each item gives one -/
theorem lc_map {ok : Sto → Prop} {fg : XG} {fe : Env → Sto → R D} {env0 : Env} {S : Sto} (g : D → D) (items : List D) (hok : ∀ acc, ok (S ++ [.lst acc]))
    (ht : ∀ x ∈ items, ∀ acc, ∃ e1, fg x env0 (S ++ [.lst acc]) = .ok e1 (S ++ [.lst acc]) ∧ fe e1 (S ++ [.lst acc]) = .ok (g x) (S ++ [.lst acc])) (hl : items.length < 100000) :
    compX ok fg xYes fe env0 S.length items (S ++ [.lst []]) = .ok (.ref S.length) (S ++ [.lst (items.map g)]) := by
  have := lc_pure (ok := ok) (fg := fg) (ft := xYes) (fe := fe) (env0 := env0) (S := S) (fun x => some (g x)) items [] hok (fun x hx acc => by
    obtain ⟨e1, h1, h2⟩ := ht x hx acc
    exact ⟨e1, h1, rfl, h2⟩) (by simpa using hl)
  rw [this]
  simp
theorem rngD_mem {lo : Int} {k : Nat} {x : D} (h : x ∈ rngD lo k) : ∃ i : Nat, i < k ∧ x = .int (lo + (i : Int)) := by
  obtain ⟨i, hi, rfl⟩ := List.mem_map.mp h
  exact ⟨i, List.mem_range.mp hi, rfl⟩
/-! ### loops by a word -/
def Exits : RS → Prop
  | .ret _ _ => True
  | .bk _ _ => True
  | .exc _ _ _ _ => True
  | _ => False
theorem loop_run {ok : Sto → Prop} {fg : XG} {fb : Env → Sto → RS} (I : Nat → Env → Sto → Prop) (F : RS → Prop) : ∀ (items : List D) (k : Nat) (env : Env) (S : Sto), (∀ i env S, i ≤ k + items.length → I i env S → ok S) →
    (∀ (i : Nat) x env S, items[i]? = some x → I (k + i) env S → ∃ e1 S1, fg x env S = .ok e1 S1 ∧ ((∃ e S', (fb e1 S1 = .nx e S' ∨ fb e1 S1 = .ct e S') ∧ I (k + i + 1) e S') ∨ (F (fb e1 S1) ∧ Exits (fb e1 S1)))) → I k env S →
    (∃ e S', loopX ok fg fb items env S = .nx e S' ∧ I (k + items.length) e S') ∨ (F (loopX ok fg fb items env S) ∧ Exits (loopX ok fg fb items env S))
  | [], k, env, S, hok, _, h => .inl ⟨env, S, by rw [loopX, if_pos (hok k env S (by simp) h)], h⟩
  | x :: r, k, env, S, hok, turn, h => by
    rw [loopX, if_pos (hok k env S (by simp) h)]
    obtain ⟨e1, S1, h1, h2⟩ := turn 0 x env S rfl h
    rw [h1]
    simp only
    have next : ∀ e S', I (k + 1) e S' → (∃ e2 S2, loopX ok fg fb r e S' = .nx e2 S2 ∧ I (k + (x :: r).length) e2 S2) ∨ (F (loopX ok fg fb r e S') ∧ Exits (loopX ok fg fb r e S')) := fun e S' hI => by
      have := loop_run I F r (k + 1) e S' (fun i env S hi => hok i env S (by rw [List.length_cons]; omega)) (fun i y env S hy hI => by
        have := turn (i + 1) y env S hy (by rw [show k + (i + 1) = k + 1 + i by omega]; exact hI)
        rw [show k + (i + 1) = k + 1 + i by omega] at this
        exact this) hI
      rw [show k + (x :: r).length = k + 1 + r.length by rw [List.length_cons]; omega]
      exact this
    rcases h2 with ⟨e, S', h3, h4⟩ | ⟨h3, h4⟩
    · rcases h3 with h3 | h3
      · rw [h3]
        exact next e S' h4
      · rw [h3]
        exact next e S' h4
    · cases hb : fb e1 S1 with
      | nx e S' => rw [hb] at h4; exact h4.elim
      | ct e S' => rw [hb] at h4; exact h4.elim
      | bad => rw [hb] at h4; exact h4.elim
      | ret d S' => rw [hb] at h3; exact .inr ⟨h3, trivial⟩
      | bk e S' => rw [hb] at h3; exact .inr ⟨h3, trivial⟩
      | exc c fs e S' => rw [hb] at h3; exact .inr ⟨h3, trivial⟩
/-- no way out within -/
theorem loop_all {ok : Sto → Prop} {fg : XG} {fb : Env → Sto → RS} {items : List D} {env : Env} {S : Sto} (I : Nat → Env → Sto → Prop) (hok : ∀ i env S, i ≤ items.length → I i env S → ok S)
    (turn : ∀ (i : Nat) x env S, items[i]? = some x → I i env S → ∃ e1 S1, fg x env S = .ok e1 S1 ∧ ∃ e S', (fb e1 S1 = .nx e S' ∨ fb e1 S1 = .ct e S') ∧ I (i + 1) e S') (h : I 0 env S) :
    ∃ e S', loopX ok fg fb items env S = .nx e S' ∧ I items.length e S' := by
  rcases loop_run (ok := ok) (fg := fg) (fb := fb) I (fun _ => False) items 0 env S (fun i env S hi => hok i env S (by omega)) (fun i x env S hx hI => by
    rw [Nat.zero_add] at hI
    obtain ⟨e1, S1, h1, h2⟩ := turn i x env S hx hI
    exact ⟨e1, S1, h1, .inl (by rw [Nat.zero_add]; exact h2)⟩) h with h1 | h1
  · rw [Nat.zero_add] at h1
    exact h1
  · exact h1.1.elim
/-- some way out -/
theorem loop_or {ok : Sto → Prop} {fg : XG} {fb : Env → Sto → RS} {items : List D} {env : Env} {S : Sto} (I : Nat → Env → Sto → Prop) (F : RS → Prop) (hok : ∀ i env S, i ≤ items.length → I i env S → ok S)
    (turn : ∀ (i : Nat) x env S, items[i]? = some x → I i env S → ∃ e1 S1, fg x env S = .ok e1 S1 ∧ ((∃ e S', (fb e1 S1 = .nx e S' ∨ fb e1 S1 = .ct e S') ∧ I (i + 1) e S') ∨ (F (fb e1 S1) ∧ Exits (fb e1 S1)))) (h : I 0 env S) :
    (∃ e S', loopX ok fg fb items env S = .nx e S' ∧ I items.length e S') ∨ (F (loopX ok fg fb items env S) ∧ Exits (loopX ok fg fb items env S)) := by
  have := loop_run (ok := ok) (fg := fg) (fb := fb) I F items 0 env S (fun i env S hi => hok i env S (by omega)) (fun i x env S hx hI => by
    rw [Nat.zero_add] at hI
    rw [Nat.zero_add]
    exact turn i x env S hx hI) h
  rw [Nat.zero_add] at this
  exact this
theorem atI_of {α : Type} {xs : List α} {i : Int} {x : α} (h0 : 0 ≤ i) (h : xs[i.toNat]? = some x) : atI xs i = some x := by
  have := (List.getElem?_eq_some_iff.mp h).1
  unfold atI ixN
  rw [if_pos h0, if_pos (by omega)]
  exact h
theorem ixN_of {n : Nat} {i : Int} (h0 : 0 ≤ i) (h : i < n) : ixN n i = some i.toNat := by
  unfold ixN
  rw [if_pos h0, if_pos h]
theorem erase_map {α β : Type} {f : α → β} : ∀ {l : List α} {i : Nat}, (l.map f).eraseIdx i = (l.eraseIdx i).map f
  | [], _ => by simp
  | _ :: _, 0 => rfl
  | _ :: r, i + 1 => by simp [List.eraseIdx_cons_succ, erase_map (l := r) (i := i)]
theorem seqIx {n : Nat} {i : Int} (h0 : 0 ≤ i) (h : i < n) : seqIndex? i n = some i.toNat := by
  unfold seqIndex?
  have h1 : ¬ i < 0 := by omega
  simp [h1, h0, h]
end Mi

namespace Mi
open PySem PySem.Spec PyProof.Rows L2 Evl My
/-! ### the law itself -/
theorem law_in {K : PySem.W.Frag} {f : List D → Sto → R D} (h : ∀ (o : O) (ns : List Int), (o = .lst (ns.map .int) ∨ o = .rol (ns.map .int)) → ns.length ≤ 63 → ∃ S', f [.ref 0] [o] = .ok (.bl true) S') : ∀ vs H Q E, My.spLaw K vs H Q E → spF K f vs H Q E := fun vs H Q E ⟨a, ns, hv, hS, hl, q⟩ => by
  subst hv
  have go : ∀ o : O, (o = .lst (ns.map .int) ∨ o = .rol (ns.map .int)) → OR K (fun _ => a) 1 H a o → spF K f [.ref a] H Q E := fun o ho hO => by
    obtain ⟨S', hf⟩ := h o ns ho hl
    refine ⟨fun _ => a, [o], [.ref 0], ⟨fun i j oi oj hi hj _ _ _ => ?_, fun l oo hl => ?_⟩, .cons (.ref (l := 0) (by simp)) .nil, ?_⟩
    · have h1 := (List.getElem?_eq_some_iff.mp hi).1
      have h2 := (List.getElem?_eq_some_iff.mp hj).1
      simp at h1 h2
      omega
    · have h1 := (List.getElem?_eq_some_iff.mp hl).1
      simp at h1
      subst h1
      cases hl
      exact hO
    · rw [hf]
      intro φ' H' v _ _ hv
      cases hv
      exact q H'
  rcases hS with (hS | ⟨o, hS⟩) | hS
  · exact go (.lst (ns.map .int)) (.inl rfl) ⟨_, hS, VRs.ints ns⟩
  · exact go (.rol (ns.map .int)) (.inr rfl) ⟨_, .inl ⟨o, hS⟩, VRs.ints ns⟩
  · exact go (.rol (ns.map .int)) (.inr rfl) ⟨_, .inr fun H' => .inr hS, VRs.ints ns⟩
end Mi

namespace Law
open PySem PySem.Spec PyProof.Rows L2 Evl My
def top (i : Nat) : Stmt := PySem.Challenge.pw_lentpages_k22_chooser_clock.main.body.getD i (.Pass ⟨0, 0, 0, 0⟩)
abbrev s_zeros : Stmt := top 1
abbrev s_Chooser___init__ : Stmt := inClass (top 3) 0
abbrev s_Chooser_filled : Stmt := inClass (top 3) 1
abbrev s_Chooser_touched : Stmt := inClass (top 3) 2
abbrev s_Chooser_emptied : Stmt := inClass (top 3) 3
abbrev s_Chooser_choose : Stmt := inClass (top 3) 4
abbrev s_Chooser_turn_pointer : Stmt := inClass (top 3) 5
abbrev s_l_number : Stmt := top 5
abbrev s_l_is_whole : Stmt := top 6
abbrev s_l_same : Stmt := top 7
abbrev s_l_chooser_new : Stmt := top 8
abbrev s_l_chooser_tell : Stmt := top 9
abbrev s_l_chooser_pick : Stmt := top 10
abbrev s_l_chooser_told : Stmt := top 11
abbrev s_l_chooser_call : Stmt := top 12
abbrev s_law : Stmt := top 13
def dd_zeros : He.DefD := ⟨("zeros", none), "zeros", "zeros", defArgs s_zeros, defBody s_zeros, defScope s_zeros, [], []⟩
def dd_Chooser___init__ : He.DefD := ⟨("Chooser", some "__init__"), "__init__", "Chooser.__init__", defArgs s_Chooser___init__, defBody s_Chooser___init__, defScope s_Chooser___init__, [], []⟩
def dd_Chooser_filled : He.DefD := ⟨("Chooser", some "filled"), "filled", "Chooser.filled", defArgs s_Chooser_filled, defBody s_Chooser_filled, defScope s_Chooser_filled, [], []⟩
def dd_Chooser_touched : He.DefD := ⟨("Chooser", some "touched"), "touched", "Chooser.touched", defArgs s_Chooser_touched, defBody s_Chooser_touched, defScope s_Chooser_touched, [], []⟩
def dd_Chooser_emptied : He.DefD := ⟨("Chooser", some "emptied"), "emptied", "Chooser.emptied", defArgs s_Chooser_emptied, defBody s_Chooser_emptied, defScope s_Chooser_emptied, [], []⟩
def dd_Chooser_choose : He.DefD := ⟨("Chooser", some "choose"), "choose", "Chooser.choose", defArgs s_Chooser_choose, defBody s_Chooser_choose, defScope s_Chooser_choose, [], []⟩
def dd_Chooser_turn_pointer : He.DefD := ⟨("Chooser", some "turn_pointer"), "turn_pointer", "Chooser.turn_pointer", defArgs s_Chooser_turn_pointer, defBody s_Chooser_turn_pointer, defScope s_Chooser_turn_pointer, [], []⟩
def dd_l_number : He.DefD := ⟨("_law_number", none), "_law_number", "_law_number", defArgs s_l_number, defBody s_l_number, defScope s_l_number, [], []⟩
def dd_l_is_whole : He.DefD := ⟨("_law_is_whole", none), "_law_is_whole", "_law_is_whole", defArgs s_l_is_whole, defBody s_l_is_whole, defScope s_l_is_whole, [], []⟩
def dd_l_same : He.DefD := ⟨("_law_same", none), "_law_same", "_law_same", defArgs s_l_same, defBody s_l_same, defScope s_l_same, [], []⟩
def dd_l_chooser_new : He.DefD := ⟨("_law_chooser_new", none), "_law_chooser_new", "_law_chooser_new", defArgs s_l_chooser_new, defBody s_l_chooser_new, defScope s_l_chooser_new, [], []⟩
def dd_l_chooser_tell : He.DefD := ⟨("_law_chooser_tell", none), "_law_chooser_tell", "_law_chooser_tell", defArgs s_l_chooser_tell, defBody s_l_chooser_tell, defScope s_l_chooser_tell, [], []⟩
def dd_l_chooser_pick : He.DefD := ⟨("_law_chooser_pick", none), "_law_chooser_pick", "_law_chooser_pick", defArgs s_l_chooser_pick, defBody s_l_chooser_pick, defScope s_l_chooser_pick, [], []⟩
def dd_l_chooser_told : He.DefD := ⟨("_law_chooser_told", none), "_law_chooser_told", "_law_chooser_told", defArgs s_l_chooser_told, defBody s_l_chooser_told, defScope s_l_chooser_told, [], []⟩
def dd_l_chooser_call : He.DefD := ⟨("_law_chooser_call", none), "_law_chooser_call", "_law_chooser_call", defArgs s_l_chooser_call, defBody s_l_chooser_call, defScope s_l_chooser_call, [], []⟩
def dd_law : He.DefD := ⟨("law", none), "law", "law", defArgs s_law, defBody s_law, defScope s_law, [], []⟩
def fns : List He.DefD := [dd_zeros, dd_Chooser___init__, dd_Chooser_filled, dd_Chooser_touched, dd_Chooser_emptied, dd_Chooser_choose, dd_Chooser_turn_pointer, dd_l_number, dd_l_is_whole, dd_l_same, dd_l_chooser_new, dd_l_chooser_tell, dd_l_chooser_pick, dd_l_chooser_told, dd_l_chooser_call, dd_law]
def fas : List He.Fa := [.free "range", .free "min", .free "max", .free "set", .free "len", .free "abs", .free "int", .free "isinstance", .free "bool", .free "str", .free "list", .free "tuple", .glo "zeros", .glo "_law_number", .glo "_law_is_whole", .glo "_law_same", .glo "_law_chooser_new", .glo "_law_chooser_tell", .glo "_law_chooser_pick", .glo "_law_chooser_told", .glo "_law_chooser_call", .glo "law", .glo "Chooser", .cls "Chooser", .mkr "Chooser", .meth "Chooser" "filled", .meth "Chooser" "touched", .meth "Chooser" "emptied", .meth "Chooser" "choose", .meth "Chooser" "turn_pointer", .noat "Chooser" "kind", .noat "Chooser" "time", .noat "Chooser" "filled_at", .noat "Chooser" "used_at", .noat "Chooser" "bits", .noat "Chooser" "pointer"]
def fxs : List Fx := []
abbrev TX (K : PySem.W.Frag) (mg : Str → Option Value) : Prop := My.TxE fas fns fxs K mg
section
variable {K : PySem.W.Frag} {mg : Str → Option Value}
theorem fr_range (T : TX K mg) : mg "range" = none := T.tx.fre "range" (T.tx.says.fact 0 rfl)
theorem fr_min (T : TX K mg) : mg "min" = none := T.tx.fre "min" (T.tx.says.fact 1 rfl)
theorem fr_max (T : TX K mg) : mg "max" = none := T.tx.fre "max" (T.tx.says.fact 2 rfl)
theorem fr_set (T : TX K mg) : mg "set" = none := T.tx.fre "set" (T.tx.says.fact 3 rfl)
theorem fr_len (T : TX K mg) : mg "len" = none := T.tx.fre "len" (T.tx.says.fact 4 rfl)
theorem fr_abs (T : TX K mg) : mg "abs" = none := T.tx.fre "abs" (T.tx.says.fact 5 rfl)
theorem fr_int (T : TX K mg) : mg "int" = none := T.tx.fre "int" (T.tx.says.fact 6 rfl)
theorem fr_isinstance (T : TX K mg) : mg "isinstance" = none := T.tx.fre "isinstance" (T.tx.says.fact 7 rfl)
theorem fr_bool (T : TX K mg) : mg "bool" = none := T.tx.fre "bool" (T.tx.says.fact 8 rfl)
theorem fr_str (T : TX K mg) : mg "str" = none := T.tx.fre "str" (T.tx.says.fact 9 rfl)
theorem fr_list (T : TX K mg) : mg "list" = none := T.tx.fre "list" (T.tx.says.fact 10 rfl)
theorem fr_tuple (T : TX K mg) : mg "tuple" = none := T.tx.fre "tuple" (T.tx.says.fact 11 rfl)
theorem gl_zeros (T : TX K mg) : mg "zeros" = some (.ref (He.ga K "zeros")) := T.tx.glo "zeros" (T.tx.says.fact 12 rfl)
theorem gl_l_number (T : TX K mg) : mg "_law_number" = some (.ref (He.ga K "_law_number")) := T.tx.glo "_law_number" (T.tx.says.fact 13 rfl)
theorem gl_l_is_whole (T : TX K mg) : mg "_law_is_whole" = some (.ref (He.ga K "_law_is_whole")) := T.tx.glo "_law_is_whole" (T.tx.says.fact 14 rfl)
theorem gl_l_same (T : TX K mg) : mg "_law_same" = some (.ref (He.ga K "_law_same")) := T.tx.glo "_law_same" (T.tx.says.fact 15 rfl)
theorem gl_l_chooser_new (T : TX K mg) : mg "_law_chooser_new" = some (.ref (He.ga K "_law_chooser_new")) := T.tx.glo "_law_chooser_new" (T.tx.says.fact 16 rfl)
theorem gl_l_chooser_tell (T : TX K mg) : mg "_law_chooser_tell" = some (.ref (He.ga K "_law_chooser_tell")) := T.tx.glo "_law_chooser_tell" (T.tx.says.fact 17 rfl)
theorem gl_l_chooser_pick (T : TX K mg) : mg "_law_chooser_pick" = some (.ref (He.ga K "_law_chooser_pick")) := T.tx.glo "_law_chooser_pick" (T.tx.says.fact 18 rfl)
theorem gl_l_chooser_told (T : TX K mg) : mg "_law_chooser_told" = some (.ref (He.ga K "_law_chooser_told")) := T.tx.glo "_law_chooser_told" (T.tx.says.fact 19 rfl)
theorem gl_l_chooser_call (T : TX K mg) : mg "_law_chooser_call" = some (.ref (He.ga K "_law_chooser_call")) := T.tx.glo "_law_chooser_call" (T.tx.says.fact 20 rfl)
theorem gl_law (T : TX K mg) : mg "law" = some (.ref (He.ga K "law")) := T.tx.glo "law" (T.tx.says.fact 21 rfl)
theorem gl_Chooser (T : TX K mg) : mg "Chooser" = some (.ref (He.ga K "Chooser")) := T.tx.glo "Chooser" (T.tx.says.fact 22 rfl)
theorem cls_Chooser (T : TX K mg) : Cls K (He.ga K "Chooser") := He.cls_ok (T.tx.says.fact 23 rfl)
theorem mkr_Chooser (T : TX K mg) : Mk K (He.ga K "Chooser") (He.ma K (He.ga K "Chooser") "__init__") := He.mkr_ok (T.tx.says.fact 24 rfl)
theorem meth_Chooser_filled (T : TX K mg) : Meth K (He.ga K "Chooser") "filled" (He.ma K (He.ga K "Chooser") "filled") := He.meth_ok (T.tx.says.fact 25 rfl)
theorem meth_Chooser_touched (T : TX K mg) : Meth K (He.ga K "Chooser") "touched" (He.ma K (He.ga K "Chooser") "touched") := He.meth_ok (T.tx.says.fact 26 rfl)
theorem meth_Chooser_emptied (T : TX K mg) : Meth K (He.ga K "Chooser") "emptied" (He.ma K (He.ga K "Chooser") "emptied") := He.meth_ok (T.tx.says.fact 27 rfl)
theorem meth_Chooser_choose (T : TX K mg) : Meth K (He.ga K "Chooser") "choose" (He.ma K (He.ga K "Chooser") "choose") := He.meth_ok (T.tx.says.fact 28 rfl)
theorem meth_Chooser_turn_pointer (T : TX K mg) : Meth K (He.ga K "Chooser") "turn_pointer" (He.ma K (He.ga K "Chooser") "turn_pointer") := He.meth_ok (T.tx.says.fact 29 rfl)
theorem na_Chooser_kind (T : TX K mg) : NoAttr K (He.ga K "Chooser") "kind" := He.noat_ok (T.tx.says.fact 30 rfl)
theorem na_Chooser_time (T : TX K mg) : NoAttr K (He.ga K "Chooser") "time" := He.noat_ok (T.tx.says.fact 31 rfl)
theorem na_Chooser_filled_at (T : TX K mg) : NoAttr K (He.ga K "Chooser") "filled_at" := He.noat_ok (T.tx.says.fact 32 rfl)
theorem na_Chooser_used_at (T : TX K mg) : NoAttr K (He.ga K "Chooser") "used_at" := He.noat_ok (T.tx.says.fact 33 rfl)
theorem na_Chooser_bits (T : TX K mg) : NoAttr K (He.ga K "Chooser") "bits" := He.noat_ok (T.tx.says.fact 34 rfl)
theorem na_Chooser_pointer (T : TX K mg) : NoAttr K (He.ga K "Chooser") "pointer" := He.noat_ok (T.tx.says.fact 35 rfl)
theorem fd_zeros (T : TX K mg) : ∃ fd, FunD K "zeros" "zeros" (defArgs s_zeros) (defBody s_zeros) (defScope s_zeros) [] [] (He.ga K "zeros") fd := T.tx.says.def_ 0 (d := dd_zeros) rfl
theorem fd_Chooser___init__ (T : TX K mg) : ∃ fd, FunD K "__init__" "Chooser.__init__" (defArgs s_Chooser___init__) (defBody s_Chooser___init__) (defScope s_Chooser___init__) [] [] (He.ma K (He.ga K "Chooser") "__init__") fd := T.tx.says.def_ 1 (d := dd_Chooser___init__) rfl
theorem fd_Chooser_filled (T : TX K mg) : ∃ fd, FunD K "filled" "Chooser.filled" (defArgs s_Chooser_filled) (defBody s_Chooser_filled) (defScope s_Chooser_filled) [] [] (He.ma K (He.ga K "Chooser") "filled") fd := T.tx.says.def_ 2 (d := dd_Chooser_filled) rfl
theorem fd_Chooser_touched (T : TX K mg) : ∃ fd, FunD K "touched" "Chooser.touched" (defArgs s_Chooser_touched) (defBody s_Chooser_touched) (defScope s_Chooser_touched) [] [] (He.ma K (He.ga K "Chooser") "touched") fd := T.tx.says.def_ 3 (d := dd_Chooser_touched) rfl
theorem fd_Chooser_emptied (T : TX K mg) : ∃ fd, FunD K "emptied" "Chooser.emptied" (defArgs s_Chooser_emptied) (defBody s_Chooser_emptied) (defScope s_Chooser_emptied) [] [] (He.ma K (He.ga K "Chooser") "emptied") fd := T.tx.says.def_ 4 (d := dd_Chooser_emptied) rfl
theorem fd_Chooser_choose (T : TX K mg) : ∃ fd, FunD K "choose" "Chooser.choose" (defArgs s_Chooser_choose) (defBody s_Chooser_choose) (defScope s_Chooser_choose) [] [] (He.ma K (He.ga K "Chooser") "choose") fd := T.tx.says.def_ 5 (d := dd_Chooser_choose) rfl
theorem fd_Chooser_turn_pointer (T : TX K mg) : ∃ fd, FunD K "turn_pointer" "Chooser.turn_pointer" (defArgs s_Chooser_turn_pointer) (defBody s_Chooser_turn_pointer) (defScope s_Chooser_turn_pointer) [] [] (He.ma K (He.ga K "Chooser") "turn_pointer") fd := T.tx.says.def_ 6 (d := dd_Chooser_turn_pointer) rfl
theorem fd_l_number (T : TX K mg) : ∃ fd, FunD K "_law_number" "_law_number" (defArgs s_l_number) (defBody s_l_number) (defScope s_l_number) [] [] (He.ga K "_law_number") fd := T.tx.says.def_ 7 (d := dd_l_number) rfl
theorem fd_l_is_whole (T : TX K mg) : ∃ fd, FunD K "_law_is_whole" "_law_is_whole" (defArgs s_l_is_whole) (defBody s_l_is_whole) (defScope s_l_is_whole) [] [] (He.ga K "_law_is_whole") fd := T.tx.says.def_ 8 (d := dd_l_is_whole) rfl
theorem fd_l_same (T : TX K mg) : ∃ fd, FunD K "_law_same" "_law_same" (defArgs s_l_same) (defBody s_l_same) (defScope s_l_same) [] [] (He.ga K "_law_same") fd := T.tx.says.def_ 9 (d := dd_l_same) rfl
theorem fd_l_chooser_new (T : TX K mg) : ∃ fd, FunD K "_law_chooser_new" "_law_chooser_new" (defArgs s_l_chooser_new) (defBody s_l_chooser_new) (defScope s_l_chooser_new) [] [] (He.ga K "_law_chooser_new") fd := T.tx.says.def_ 10 (d := dd_l_chooser_new) rfl
theorem fd_l_chooser_tell (T : TX K mg) : ∃ fd, FunD K "_law_chooser_tell" "_law_chooser_tell" (defArgs s_l_chooser_tell) (defBody s_l_chooser_tell) (defScope s_l_chooser_tell) [] [] (He.ga K "_law_chooser_tell") fd := T.tx.says.def_ 11 (d := dd_l_chooser_tell) rfl
theorem fd_l_chooser_pick (T : TX K mg) : ∃ fd, FunD K "_law_chooser_pick" "_law_chooser_pick" (defArgs s_l_chooser_pick) (defBody s_l_chooser_pick) (defScope s_l_chooser_pick) [] [] (He.ga K "_law_chooser_pick") fd := T.tx.says.def_ 12 (d := dd_l_chooser_pick) rfl
theorem fd_l_chooser_told (T : TX K mg) : ∃ fd, FunD K "_law_chooser_told" "_law_chooser_told" (defArgs s_l_chooser_told) (defBody s_l_chooser_told) (defScope s_l_chooser_told) [] [] (He.ga K "_law_chooser_told") fd := T.tx.says.def_ 13 (d := dd_l_chooser_told) rfl
theorem fd_l_chooser_call (T : TX K mg) : ∃ fd, FunD K "_law_chooser_call" "_law_chooser_call" (defArgs s_l_chooser_call) (defBody s_l_chooser_call) (defScope s_l_chooser_call) [] [] (He.ga K "_law_chooser_call") fd := T.tx.says.def_ 14 (d := dd_l_chooser_call) rfl
theorem fd_law (T : TX K mg) : ∃ fd, FunD K "law" "law" (defArgs s_law) (defBody s_law) (defScope s_law) [] [] (He.ga K "law") fd := T.tx.says.def_ 15 (d := dd_law) rfl
end
/-! ### _law_number -/
def lnIt : Nat → Int → Int
  | 0, r => r
  | n + 1, r => lnIt n r / 1000
theorem lnIt_zero {n : Nat} {r : Int} (h : lnIt n r = 0) : ∀ m, n ≤ m → lnIt m r = 0 := fun m l => by
  induction l with
  | refl => exact h
  | step _ ih =>
    show lnIt _ r / 1000 = 0
    rw [ih]
    rfl
theorem lnIt_nn {r : Int} (h : 0 ≤ r) : ∀ n, 0 ≤ lnIt n r
  | 0 => h
  | n + 1 => by
    have := lnIt_nn h n
    show 0 ≤ lnIt n r / 1000
    omega
def lnAbs (i : Int) : Int := if i < 0 then -i else i
def lnCell (ns : List Int) (a : Int) : Int := if ns.length = 0 then 0 else lnAbs (ns.getD (a % (ns.length : Int)).toNat 0)
def lnTurn (ns : List Int) (a : Int) : Int := if ns.length = 0 then a else a / (ns.length : Int)
def lnEnd (m p sz : Int) : Int :=
  let m1 := (m + 7919 * p + 13) % 2147483647
  let m2 := (m1 * (m1 + 48271)) % 2147483629
  let m3 := (m2 * (m2 + 69621) + 31 * p) % 2147483647
  (m3 / 9) % sz
@[irreducible] def lawNum (ns : List Int) (a k sz : Int) : Int :=
  if 10 ^ 18 ≤ lnCell ns a ∧ 0 < lnIt (k + 16 * lnTurn ns a).toNat (lnCell ns a / 10 ^ 18) then (lnIt (k + 16 * lnTurn ns a).toNat (lnCell ns a / 10 ^ 18) % 1000) % sz
  else lnEnd (lnCell ns a) (k + 16 * lnTurn ns a) sz
theorem lawNum_nn (ns : List Int) (a k sz : Int) (h : 0 < sz) : 0 ≤ lawNum ns a k sz := by
  unfold lawNum lnEnd
  split <;> exact Int.emod_nonneg _ (by omega)
theorem lawNum_lt (ns : List Int) (a k sz : Int) (h : 0 < sz) : lawNum ns a k sz < sz := by
  unfold lawNum lnEnd
  split <;> exact Int.emod_lt_of_pos _ h
def NumOk (a k sz : Int) : Prop := -1000000 ≤ a ∧ a ≤ 1000000 ∧ -1000000 ≤ k ∧ k ≤ 1000000 ∧ 0 < sz
def spNum (K : PySem.W.Frag) : Sp := fun vs H Q _ => ∃ (s : Addr) (ns : List Int) (a k sz : Int), vs = [.ref s, .int a, .int k, .int sz] ∧ SqL K H s (ns.map V.int) ∧ ns.length ≤ 63 ∧ NumOk a k sz ∧ RetV (.int (lawNum ns a k sz)) H Q
theorem sv_num {K : PySem.W.Frag} {H : Hp} {s : Addr} {ns : List Int} {a k sz : Int} (h : SqL K H s (ns.map V.int)) (hl : ns.length ≤ 63) (ok : NumOk a k sz) : SpV (spNum K) [.ref s, .int a, .int k, .int sz] H (.int (lawNum ns a k sz)) :=
  fun H1 e Q q E => ⟨s, ns, a, k, sz, rfl, ex_l e h, hl, ok, q⟩
section
variable {P : Program} {w : World} {K : PySem.W.Frag} {mg : Str → Option Value} {base : Heap}
theorem ev_cellAt {ns : List Int} {s : Addr} {σ : L2.St} {H : Hp} {ta tb : TE} {i : Int} (ha : Ev ta σ H (.ref s)) (hb : Ev tb σ H (.int i)) (h : SqL K H s (ns.map V.int)) (h0 : 0 ≤ i) (h1 : i < (ns.length : Int)) : Ev (tOp (rIxL K) ta tb) σ H (.int (ns.getD i.toNat 0)) := by
  have e : ((i.toNat : Nat) : Int) = i := Int.toNat_of_nonneg h0
  have l : i.toNat < ns.length := by omega
  refine ev_op ha hb (rv_ixL h ?_)
  rw [← e]
  refine atI_nat ?_
  rw [Int.toNat_natCast, List.getElem?_map, List.getElem?_eq_getElem l, List.getD_eq_getElem?_getD, List.getElem?_eq_getElem l]
  rfl
theorem sc_l_number : FnScope ["_law_script", "_law_at", "_law_k", "_law_size", "_law_cell", "_law_turn", "_law_pick", "_law_rest", "_law_step", "_law_mixed"] ["_law_script", "_law_at", "_law_k", "_law_size"] (defScope s_l_number) := ⟨rfl, rfl, rfl, by decide +kernel, rfl, by decide +kernel, by decide +kernel⟩
theorem fn_l_number (T : TX K mg) : ∃ fd, FunD K "_law_number" "_law_number" (defArgs s_l_number) (defBody s_l_number) (defScope s_l_number) [] [] (He.ga K "_law_number") fd ∧ FnOk P w K mg base CX0 (1) (He.ga K "_law_number") fd ["_law_script", "_law_at", "_law_k", "_law_size"] (spNum K) := by
  obtain ⟨fd, F⟩ := fd_l_number T
  refine ⟨fd, F, My.FunD.ok0 F sc_l_number (fun vs H Q E h => ?_) (fun cdv A outer s0 H vs Q E hr h => ?_)⟩
  · obtain ⟨s, ns, a, k, sz, rfl, hS, hl, ok, hQ⟩ := h
    rfl
  obtain ⟨s, ns, a, k, sz, rfl, hS, hl, ok, hQ⟩ := h
  have hu := hu_of hr
  refine ⟨_, (pss_cons (ps_set (i := 4) sc_l_number.nd rfl (Or.inl rfl) pe_int)
      (pss_cons (ps_set (i := 5) sc_l_number.nd rfl (Or.inl rfl) (pv 1))
      (pss_cut (ps_if (pt_cmpR op_gt (pe_callB (lenQ K) (by rfl) (fr_len T) PySem.boot_len (pa_cons (pv 0) pa_nil)) pe_int (nomark _)) (pss_cons (ps_set (i := 4) sc_l_number.nd rfl (Or.inl rfl) (pe_callB call_abs (by rfl) (fr_abs T) (by decide +kernel) (pa_cons (pe_ix (ixL K) (pv 0) (pe_op op_mod (pe_callTy call_int1 (by rfl) (fr_int T) (by decide +kernel) (pa_cons (pv 1) pa_nil)) (pe_callB (lenQ K) (by rfl) (fr_len T) PySem.boot_len (pa_cons (pv 0) pa_nil))) (fun _ _ => rfl)) pa_nil)))
      (pss_one (ps_set (i := 5) sc_l_number.nd rfl (Or.inl rfl) (pe_op op_fdiv (pv 1) (pe_callB (lenQ K) (by rfl) (fr_len T) PySem.boot_len (pa_cons (pv 0) pa_nil)))))) pss_nil)
      (pss_cons (ps_set (i := 6) sc_l_number.nd rfl (Or.inl rfl) (pe_op op_add (pv 2) (pe_op op_mul pe_int (pv 5))))
      (pss_cut (ps_if (pt_cmpR op_ge (pv 4) (pe_op op_pow pe_int pe_int) (nomark _)) (pss_cons (ps_set (i := 7) sc_l_number.nd rfl (Or.inl rfl) (pe_op op_fdivW (pv 4) (pe_op op_pow pe_int pe_int)))
      (pss_cut (ps_for PassesOwn.never rfl (pi_range1 rfl (fr_range T) (pa_cons (pv 6) pa_nil)) (pg_name (i := 8) sc_l_number.nd rfl (Or.inl rfl)) (pss_cons (ps_if (pt_cmpR op_eq (pv 7) pe_int (nomark _)) (pss_one ps_break) pss_nil)
      (pss_one (ps_set (i := 7) sc_l_number.nd rfl (Or.inl rfl) (pe_op op_fdiv (pv 7) pe_int)))))
      (pss_one (ps_if (pt_cmpR op_gt (pv 7) pe_int (nomark _)) (pss_one (ps_ret (pe_op op_mod (pe_callTy call_int1 (by rfl) (fr_int T) (by decide +kernel) (pa_cons (pe_op op_mod (pe_callTy call_int1 (by rfl) (fr_int T) (by decide +kernel) (pa_cons (pv 7) pa_nil)) pe_int) pa_nil)) (pv 3)))) pss_nil)))) pss_nil)
      (pss_cons (ps_set (i := 9) sc_l_number.nd rfl (Or.inl rfl) (pe_op op_mod (pe_callTy call_int1 (by rfl) (fr_int T) (by decide +kernel) (pa_cons (pe_op op_add (pe_op op_add (pv 4) (pe_op op_mul pe_int (pv 6))) pe_int) pa_nil)) pe_int))
      (pss_cons (ps_set (i := 9) sc_l_number.nd rfl (Or.inl rfl) (pe_op op_mod (pe_callTy call_int1 (by rfl) (fr_int T) (by decide +kernel) (pa_cons (pe_op op_mul (pv 9) (pe_op op_add (pv 9) pe_int)) pa_nil)) pe_int))
      (pss_cons (ps_set (i := 9) sc_l_number.nd rfl (Or.inl rfl) (pe_op op_mod (pe_callTy call_int1 (by rfl) (fr_int T) (by decide +kernel) (pa_cons (pe_op op_add (pe_op op_mul (pv 9) (pe_op op_add (pv 9) pe_int)) (pe_op op_mul pe_int (pv 6))) pa_nil)) pe_int))
      (pss_one (ps_ret (pe_op op_mod (pe_callTy call_int1 (by rfl) (fr_int T) (by decide +kernel) (pa_cons (pe_op op_fdiv (pv 9) pe_int) pa_nil)) (pv 3)))))))))))), ?_⟩
  unfold NumOk at ok
  have hL : ((ns.map V.int).length : Int) = (ns.length : Int) := by rw [List.length_map]
  refine q_asg ev_c fun H1 e1 => ?_
  refine q_asg (ev_var rfl) fun H2 e2 => ?_
  have E2 := e1.trans e2
  -- if len(script) > 0
  refine q_cut (M := fun σ' H' => Ex H H' ∧ σ' = [some (.ref s), some (.int a), some (.int k), some (.int sz), some (.int (lnCell ns a)), some (.int (lnTurn ns a)), none, none, none, none])
    (s_if (et_test (ev_op (ev_cb (ea_cons (ev_var rfl) ea_nil) (rc_lenL (ex_l E2 hS))) ev_c rv_I0)) (fun hb H3 e3 => ?_) (fun hb H3 e3 => ?_)) (fun σ4 H4 hM => ?_)
  · have hp : (0 : Int) < (ns.length : Int) := by
      have := of_decide_eq_true hb
      rw [hL] at this
      exact this
    have E3 := E2.trans e3
    have hS3 := ex_l E3 hS
    have em := Int.emod_nonneg a (show (ns.length : Int) ≠ 0 by omega)
    have el := Int.emod_lt_of_pos a hp
    have nz : ¬ ns.length = 0 := by omega
    refine q_asg (ev_cb (ea_cons (ev_cellAt (ns := ns) (i := a % (ns.length : Int)) (ev_var rfl) (ev_is (ev_op (ev_cb (ea_cons (ev_var rfl) ea_nil) rc_int) (ev_cb (ea_cons (ev_var rfl) ea_nil) (rc_lenL hS3)) (rv_I (by rw [hL]; exact hp))) (by rw [hL])) hS3 em el) ea_nil) rc_abs) fun H4 e4 => ?_
    have hS4 := ex_l e4 hS3
    refine s_asg (ev_op (ev_var rfl) (ev_cb (ea_cons (ev_var rfl) ea_nil) (rc_lenL hS4)) (rv_I (by rw [hL]; exact ⟨hp, by omega⟩))) fun H5 e5 => ?_
    refine ⟨(E3.trans e4).trans e5, ?_⟩
    unfold lnCell lnTurn lnAbs
    rw [if_neg nz, if_neg nz, hL]
    rfl
  · have hp : ns.length = 0 := by
      have := of_decide_eq_false hb
      rw [hL] at this
      omega
    refine ⟨E2.trans e3, ?_⟩
    unfold lnCell lnTurn
    rw [if_pos hp, if_pos hp]
    rfl
  obtain ⟨E4, rfl⟩ := hM
  have hturn : -1000000 ≤ lnTurn ns a ∧ lnTurn ns a ≤ 1000000 := by
    unfold lnTurn
    split
    · omega
    · have hp : (0 : Int) < (ns.length : Int) := by omega
      refine ⟨?_, ?_⟩
      · rw [Int.le_ediv_iff_mul_le hp]
        omega
      · have h2 : a / (ns.length : Int) < 1000000 + 1 := by
          rw [Int.ediv_lt_iff_lt_mul hp]
          omega
        omega
  have hcell : 0 ≤ lnCell ns a := by
    unfold lnCell lnAbs
    split
    · exact Int.le_refl _
    · split <;> omega
  have hnum : lawNum ns a k sz = if 10 ^ 18 ≤ lnCell ns a ∧ 0 < lnIt (k + 16 * lnTurn ns a).toNat (lnCell ns a / 10 ^ 18) then (lnIt (k + 16 * lnTurn ns a).toNat (lnCell ns a / 10 ^ 18) % 1000) % sz
      else lnEnd (lnCell ns a) (k + 16 * lnTurn ns a) sz := by unfold lawNum; rfl
  rw [hnum] at hQ
  clear hnum
  generalize lnCell ns a = c at *
  generalize lnTurn ns a = tn at *
  refine q_asg (ev_op (ev_var rfl) (ev_op ev_c (ev_var rfl) (rv_I (Or.inl (by decide)))) rv_I0) fun H5 e5 => ?_
  have E5 := E4.trans e5
  have d18 : CPow 10 18 := by unfold CPow; decide
  have n18 : ((10 : Int) ^ (18 : Int).toNat) = 10 ^ 18 := rfl
  generalize hp : k + 16 * tn = p at *
  refine q_cut (M := fun σ' H' => Ex H H' ∧ (∃ o1 o2, σ' = [some (.ref s), some (.int a), some (.int k), some (.int sz), some (.int c), some (.int tn), some (.int p), o1, o2, none]) ∧ ¬ (10 ^ 18 ≤ c ∧ 0 < lnIt p.toNat (c / 10 ^ 18)))
    (s_if (et_test (ev_op (ev_var rfl) (ev_op ev_c ev_c (rv_I d18)) rv_I0)) (fun hb H6 e6 => ?_) (fun hb H6 e6 => ?_)) (fun σ7 H7 hM => ?_)
  · have hb' : (10 : Int) ^ 18 ≤ c := of_decide_eq_true hb
    have dw : CDivW c (10 ^ 18) := wide_div (b := 60) (by decide) (by decide) (by decide) (by decide)
    refine q_asg (ev_op (ev_var rfl) (ev_op ev_c ev_c (rv_I d18)) (rv_I dw)) fun H7 e7 => ?_
    have E7 := (E5.trans e6).trans e7
    refine q_forR1' (n := p) (ea_cons (ev_var rfl) ea_nil) (by omega) (fun i σ' H' => Ex H H' ∧ ∃ o, σ' = [some (.ref s), some (.int a), some (.int k), some (.int sz), some (.int c), some (.int tn), some (.int p), some (.int (lnIt i (c / 10 ^ 18))), o, none])
      (fun σ' H' => Ex H H' ∧ ∃ o, σ' = [some (.ref s), some (.int a), some (.int k), some (.int sz), some (.int c), some (.int tn), some (.int p), some (.int (lnIt p.toNat (c / 10 ^ 18))), o, none]) ?_ ?_ ?_ ?_
    · exact fun H8 e8 => ⟨E7.trans e8, _, rfl⟩
    · rintro i σ' H' hi ⟨E8, o, rfl⟩
      refine q_when (et_test (ev_op (ev_var rfl) ev_c (rv_eq rfl))) (fun hb H9 e9 => ?_) (fun hb H9 e9 => ?_)
      · refine ⟨E8.trans e9, some (.int (i : Int)), ?_⟩
        have hz : lnIt i (c / 10 ^ 18) = 0 := by
          have := of_decide_eq_true hb
          injection this
        rw [hz, lnIt_zero hz p.toNat (by omega)]
        rfl
      · exact s_asg (ev_op (ev_var rfl) ev_c (rv_I (by unfold CDiv; decide))) fun H10 e10 => ⟨(E8.trans e9).trans e10, _, rfl⟩
    · rintro σ' H' ⟨E8, o, rfl⟩
      exact ⟨E8, _, rfl⟩
    · rintro σ' H' ⟨E8, o, rfl⟩
      refine s_when (et_test (ev_op (ev_var rfl) ev_c rv_I0)) (fun hb H9 e9 => ?_) (fun hb H9 e9 => ?_)
      · have hr0 : (0 : Int) < lnIt p.toNat (c / 10 ^ 18) := of_decide_eq_true hb
        rw [if_pos ⟨hb', hr0⟩] at hQ
        refine s_ret (ev_op (ev_cb (ea_cons (ev_op (ev_cb (ea_cons (ev_var rfl) ea_nil) rc_int) ev_c (rv_I (by decide))) ea_nil) rc_int) (ev_var rfl) (rv_I ok.2.2.2.2)) fun H10 e10 => ?_
        exact hQ H10 ((E8.trans e9).trans e10)
      · have hr0 : ¬ (0 : Int) < lnIt p.toNat (c / 10 ^ 18) := of_decide_eq_false hb
        exact ⟨E8.trans e9, ⟨_, _, rfl⟩, fun z => hr0 z.2⟩
  · have hb' : ¬ (10 : Int) ^ 18 ≤ c := of_decide_eq_false hb
    exact ⟨E5.trans e6, ⟨_, _, rfl⟩, fun z => hb' z.1⟩
  obtain ⟨E7, ⟨o1, o2, rfl⟩, hn⟩ := hM
  rw [if_neg hn] at hQ
  unfold lnEnd at hQ
  dsimp only at hQ
  have a1 := Int.emod_nonneg (c + 7919 * p + 13) (show (2147483647 : Int) ≠ 0 by decide)
  have b1 := Int.emod_lt_of_pos (c + 7919 * p + 13) (show (0 : Int) < 2147483647 by decide)
  refine q_asg (ev_op (ev_cb (ea_cons (ev_op (ev_op (ev_var rfl) (ev_op ev_c (ev_var rfl) (rv_I (Or.inl (by decide)))) rv_I0) ev_c rv_I0) ea_nil) rc_int) ev_c (rv_I (by decide))) fun H8 e8 => ?_
  generalize (c + 7919 * p + 13) % 2147483647 = m1 at *
  have a2 := Int.emod_nonneg (m1 * (m1 + 48271)) (show (2147483629 : Int) ≠ 0 by decide)
  have b2 := Int.emod_lt_of_pos (m1 * (m1 + 48271)) (show (0 : Int) < 2147483629 by decide)
  refine q_asg (ev_op (ev_cb (ea_cons (ev_op (ev_var rfl) (ev_op (ev_var rfl) ev_c rv_I0) (rv_I (Or.inl (by constructor <;> omega)))) ea_nil) rc_int) ev_c (rv_I (by decide))) fun H9 e9 => ?_
  generalize (m1 * (m1 + 48271)) % 2147483629 = m2 at *
  refine q_asg (ev_op (ev_cb (ea_cons (ev_op (ev_op (ev_var rfl) (ev_op (ev_var rfl) ev_c rv_I0) (rv_I (Or.inl (by constructor <;> omega)))) (ev_op ev_c (ev_var rfl) (rv_I (Or.inl (by decide)))) rv_I0) ea_nil) rc_int) ev_c (rv_I (by decide))) fun H10 e10 => ?_
  refine s_ret (ev_op (ev_cb (ea_cons (ev_op (ev_var rfl) ev_c (rv_I (by unfold CDiv; decide))) ea_nil) rc_int) (ev_var rfl) (rv_I ok.2.2.2.2)) fun H11 e11 => ?_
  exact hQ H11 (((E7.trans e8).trans e9).trans (e10.trans e11))
theorem ok_l_number (T : TX K mg) : DefOk P w K mg base (1) "_law_number" ["_law_script", "_law_at", "_law_k", "_law_size"] [] (spNum K) := by
  obtain ⟨fd, F, h⟩ := fn_l_number (P := P) (w := w) (base := base) T
  exact DefOk.of F (gl_l_number T) (F.bindsN fun _ _ _ _ _ _ us hl => match us, hl with | [_, _, _, _], _ => rfl) h
/-! ### _law_is_whole, _law_same -/
def isInt (d : PyData) : Bool := isB "int" (tyN d) && !isB "bool" (tyN d)
def spWhole (K : PySem.W.Frag) : Sp := fun vs H Q _ => ∃ (v : V) (d : PyData), vs = [v] ∧ Dp K H v d ∧ RetV (.bl (isInt d)) H Q
theorem sv_whole {K : PySem.W.Frag} {H : Hp} {v : V} {d : PyData} (h : Dp K H v d) : SpV (spWhole K) [v] H (.bl (isInt d)) := fun H1 e Q q E => ⟨v, d, rfl, dp_ex e h, q⟩
theorem sc_l_is_whole : FnScope ["_law_told"] ["_law_told"] (defScope s_l_is_whole) := ⟨rfl, rfl, rfl, by decide +kernel, rfl, by decide +kernel, by decide +kernel⟩
theorem fn_l_is_whole (T : TX K mg) : ∃ fd, FunD K "_law_is_whole" "_law_is_whole" (defArgs s_l_is_whole) (defBody s_l_is_whole) (defScope s_l_is_whole) [] [] (He.ga K "_law_is_whole") fd ∧ FnOk P w K mg base CX0 (1) (He.ga K "_law_is_whole") fd ["_law_told"] (spWhole K) := by
  obtain ⟨fd, F⟩ := fd_l_is_whole T
  refine ⟨fd, F, My.FunD.ok0 F sc_l_is_whole (fun vs H Q E h => ?_) (fun cdv A outer s0 H vs Q E hr h => ?_)⟩
  · obtain ⟨v, d, rfl, hd, hQ⟩ := h
    rfl
  obtain ⟨v, d, rfl, hd, hQ⟩ := h
  have hu := hu_of hr
  refine ⟨_, (pss_one (ps_ret (pe_and (pe_callB (isiK K) (by rfl) (fr_isinstance T) (by decide +kernel) (pa_cons (pv 0) (pa_cons (pe_bltn (v := .ty "int") (by rfl) (fr_int T) (by decide +kernel) rfl) pa_nil))) (pe_one (pe_not (pe_callB (isiK K) (by rfl) (fr_isinstance T) (by decide +kernel) (pa_cons (pv 0) (pa_cons (pe_bltn (v := .ty "bool") (by rfl) (fr_bool T) (by decide +kernel) rfl) pa_nil)))))))), ?_⟩
  exact s_ret (ev_andV (ev_isiD (ev_var rfl) hd rfl) fun _ => ev_notV (ev_isiD (ev_var rfl) hd rfl)) hQ
theorem ok_l_is_whole (T : TX K mg) : DefOk P w K mg base (1) "_law_is_whole" ["_law_told"] [] (spWhole K) := by
  obtain ⟨fd, F, h⟩ := fn_l_is_whole (P := P) (w := w) (base := base) T
  exact DefOk.of F (gl_l_is_whole T) (F.bindsN fun _ _ _ _ _ _ us hl => match us, hl with | [_], _ => rfl) h
/-- _law_same: equal through and through, told of data nested at most n deep -/
def spSame (K : PySem.W.Frag) (n : Nat) : Sp := fun vs H Q _ => ∃ (v u : V) (d e : PyData), vs = [v, u] ∧ Dp K H v d ∧ Dp K H u e ∧ Dn n d ∧ Dn n e ∧ ∀ b : Bool, (b = true ↔ d = e) → RetV (.bl b) H Q
def spIn (K : PySem.W.Frag) : Nat → Sp
  | 0 => fun _ _ _ _ => False
  | n + 1 => spSame K n
theorem sc_l_same : FnScope ["_law_told", "_law_due", "_law_k"] ["_law_told", "_law_due"] (defScope s_l_same) := ⟨rfl, rfl, rfl, by decide +kernel, rfl, by decide +kernel, by decide +kernel⟩
theorem body_same {n : Nat} (T : TX K mg) {base : Heap} {f : Addr} {cdv : Value} {A : Around} {outer : List Env} {s0 : Shared} {H : Hp} {E : XK} {Q : VK} {v u : V} {d e : PyData}
    (hr : Room (n + 1) (A.deeper (envOfC "_law_same" (defScope s_l_same) s0.heap.objs.size f cdv))) (hd : Dp K H v d) (he : Dp K H u e) (hn : Dn n d) (hm : Dn n e) (hQ : ∀ b : Bool, (b = true ↔ d = e) → RetV (.bl b) H Q)
    (rec : DefOk P w K mg base (n + 1) "_law_same" ["_law_told", "_law_due"] [] (spIn K n)) :
    ∃ t, PSs (cxOf CX0 P w K mg base ["_law_told", "_law_due", "_law_k"] "_law_same" (defScope s_l_same) f cdv A outer s0 H E).nox (defBody s_l_same) t ∧ t { nx := fun _ H' => Q .non H', rt := Q } (start ["_law_told", "_law_due", "_law_k"] [v, u]) H := by
  refine ⟨_, (pss_cons (ps_if (pt_val (pe_callB (isiTK K) (by rfl) (fr_isinstance T) (by decide +kernel) (pa_cons (pv 1) (pa_cons (pe_tup (pa_cons (pe_bltn (v := .ty "list") (by rfl) (fr_list T) (by decide +kernel) rfl) (pa_cons (pe_bltn (v := .ty "tuple") (by rfl) (fr_tuple T) (by decide +kernel) rfl) pa_nil))) pa_nil)))) (pss_cons (ps_if (PW.pt (pw_or (pt_not (pt_val (pe_callB (isiTK K) (by rfl) (fr_isinstance T) (by decide +kernel) (pa_cons (pv 0) (pa_cons (pe_tup (pa_cons (pe_bltn (v := .ty "list") (by rfl) (fr_list T) (by decide +kernel) rfl) (pa_cons (pe_bltn (v := .ty "tuple") (by rfl) (fr_tuple T) (by decide +kernel) rfl) pa_nil))) pa_nil))))) (pw_or1 (pt_cmpR op_ne (pe_callB (isiK K) (by rfl) (fr_isinstance T) (by decide +kernel) (pa_cons (pv 0) (pa_cons (pe_bltn (v := .ty "list") (by rfl) (fr_list T) (by decide +kernel) rfl) pa_nil))) (pe_callB (isiK K) (by rfl) (fr_isinstance T) (by decide +kernel) (pa_cons (pv 1) (pa_cons (pe_bltn (v := .ty "list") (by rfl) (fr_list T) (by decide +kernel) rfl) pa_nil))) (nomark _))))) (pss_one (ps_ret pe_bl)) pss_nil)
      (pss_cons (ps_if (pt_cmpR op_ne (pe_callB (lenQ K) (by rfl) (fr_len T) PySem.boot_len (pa_cons (pv 0) pa_nil)) (pe_callB (lenQ K) (by rfl) (fr_len T) PySem.boot_len (pa_cons (pv 1) pa_nil)) (nomark _)) (pss_one (ps_ret pe_bl)) pss_nil)
      (pss_one (ps_ret (pe_cmpR op_eq (pe_callB (lenQ K) (by rfl) (fr_len T) PySem.boot_len (pa_cons (pe_lc (own := [("_law_k", 2)]) rfl sc_l_same.nd (pi_range1 rfl (fr_range T) (pa_cons (pe_callB (lenQ K) (by rfl) (fr_len T) PySem.boot_len (pa_cons (pv 1) pa_nil)) pa_nil)) (blkOk_by (own := [("_law_k", 2)]) (N := ["_law_told", "_law_due", "_law_k"]) (sc := defScope s_l_same) (by decide +kernel)) (fun _ _ _ _ _ => (pg_name (i := 2) sc_l_same.nd rfl (Or.inl rfl))) (fun _ _ _ _ _ => (pts_one (pt_not (pt_val (pe_callN rec hr (pa_cons (pe_ix (ixQ K) (pv 0) (pv 2) (fun _ _ => rfl)) (pa_cons (pe_ix (ixQ K) (pv 1) (pv 2) (fun _ _ => rfl)) pa_nil)) (hk := Nat.le_refl _)))))) (fun _ _ _ _ _ => (pv 2))) pa_nil)) pe_int (nomark _)))))) pss_nil)
      (pss_cons (ps_if (pt_val (pe_callB (isiK K) (by rfl) (fr_isinstance T) (by decide +kernel) (pa_cons (pv 1) (pa_cons (pe_bltn (v := .ty "bool") (by rfl) (fr_bool T) (by decide +kernel) rfl) pa_nil)))) (pss_one (ps_ret (pe_and (pe_callB (isiK K) (by rfl) (fr_isinstance T) (by decide +kernel) (pa_cons (pv 0) (pa_cons (pe_bltn (v := .ty "bool") (by rfl) (fr_bool T) (by decide +kernel) rfl) pa_nil))) (pe_one (pe_cmpR op_eq (pv 0) (pv 1) (nomark _)))))) pss_nil)
      (pss_cons (ps_if (pt_val (pe_callB (isiK K) (by rfl) (fr_isinstance T) (by decide +kernel) (pa_cons (pv 1) (pa_cons (pe_bltn (v := .ty "int") (by rfl) (fr_int T) (by decide +kernel) rfl) pa_nil)))) (pss_one (ps_ret (pe_and (pe_callN (ok_l_is_whole (P := P) (w := w) (base := base) T) hr (pa_cons (pv 0) pa_nil) (hk := by omega)) (pe_one (pe_cmpR op_eq (pv 0) (pv 1) (nomark _)))))) pss_nil)
      (pss_cons (ps_if (pt_val (pe_callB (isiK K) (by rfl) (fr_isinstance T) (by decide +kernel) (pa_cons (pv 1) (pa_cons (pe_bltn (v := .ty "str") (by rfl) (fr_str T) (by decide +kernel) rfl) pa_nil)))) (pss_one (ps_ret (pe_and (pe_callB (isiK K) (by rfl) (fr_isinstance T) (by decide +kernel) (pa_cons (pv 0) (pa_cons (pe_bltn (v := .ty "str") (by rfl) (fr_str T) (by decide +kernel) rfl) pa_nil))) (pe_one (pe_cmpR op_eq (pv 0) (pv 1) (nomark _)))))) pss_nil)
      (pss_one (ps_ret (pe_and (pe_cmp (pc_isN (pv 0))) (pe_one (pe_cmp (pc_isN (pv 1))))))))))), ?_⟩
  have skip2 : ∀ {tz : TS} {D : Ends} {H1 : Hp} {tu : TS}, isB "list" (tyN e) = false → isB "tuple" (tyN e) = false → Ex H H1 → (∀ H2, Ex H H2 → tz D [some v, some u, none] H2) →
      tSeq (tIfS (tB (tCB (rIsiT K) (tCons (tVar 1) (tCons (tTup (tCons (tC (.ty "list")) (tCons (tC (.ty "tuple")) tNil))) tNil)))) tu tNext) tz D [some v, some u, none] H1 := fun {tz D H1 tu} h1 h2 e1 k =>
    q_when (b := false) (et_B (ev_is (ev_isiD2 (ev_var rfl) (dp_ex e1 he) (by rfl) (by rfl)) (by rw [h1, h2]; rfl))) (fun h => nomatch h) fun _ H2 e2 => k H2 (e1.trans e2)
  have skip1 : ∀ {tz : TS} {D : Ends} {H1 : Hp} {tu : TS} {c : String}, isB c (tyN e) = false → askd c = true → Ex H H1 → (∀ H2, Ex H H2 → tz D [some v, some u, none] H2) →
      tSeq (tIfS (tB (tCB (rIsi K) (tCons (tVar 1) (tCons (tC (.ty c)) tNil)))) tu tNext) tz D [some v, some u, none] H1 := fun {tz D H1 tu c} h1 h2 e1 k =>
    q_when (b := false) (et_B (ev_is (ev_isiD (ev_var rfl) (dp_ex e1 he) h2) (by rw [h1]))) (fun h => nomatch h) fun _ H2 e2 => k H2 (e1.trans e2)
  have take1 : ∀ {tz : TS} {D : Ends} {H1 : Hp} {tu : TS} {c : String}, isB c (tyN e) = true → askd c = true → Ex H H1 → (∀ H2, Ex H H2 → tu { D with nx := tz D } [some v, some u, none] H2) →
      tSeq (tIfS (tB (tCB (rIsi K) (tCons (tVar 1) (tCons (tC (.ty c)) tNil)))) tu tNext) tz D [some v, some u, none] H1 := fun {tz D H1 tu c} h1 h2 e1 k =>
    q_when (b := true) (et_B (ev_is (ev_isiD (ev_var rfl) (dp_ex e1 he) h2) (by rw [h1]))) (fun _ H2 e2 => k H2 (e1.trans e2)) (fun h => nomatch h)
  by_cases hsq : ∃ (b : Bool) (es : List PyData), e = seqD b es
  · obtain ⟨b, es, rfl⟩ := hsq
    obtain ⟨a, us, rfl, hs, hu'⟩ := dp_seq he
    obtain ⟨m, rfl, hlen, hmm⟩ := dn_seq hm
    refine q_when (b := true) (et_B (ev_is (ev_isiD2 (ev_var rfl) he (by rfl) (by rfl)) (by cases b <;> simp [seqD, tyN, isB_tab]))) (fun _ H1 e1 => ?_) (fun h => nomatch h)
    refine q_when (et_or (et_not (et_B (ev_isiD2 (ev_var rfl) (dp_ex e1 hd) (by rfl) (by rfl)))) fun _ => et_test (ev_op (ev_isiD (ev_var rfl) (dp_ex e1 hd) (by rfl)) (ev_isiD (ev_var rfl) (dp_ex e1 he) (by rfl)) (rv_ne rfl))) (fun hb H2 e2 => ?_) (fun hb H2 e2 => ?_)
    · refine s_ret ev_c fun H3 e3 => hQ false ?_ H3 (e1.trans (e2.trans e3))
      refine ⟨(fun z => nomatch z), fun z => ?_⟩
      subst z
      cases b <;> simp [seqD, tyN, isB_tab] at hb
    have hd1 : ∃ ds, d = seqD b ds := by
      cases b <;> cases hd <;> simp [seqD, tyN, isB_tab] at hb ⊢
    obtain ⟨ds, rfl⟩ := hd1
    obtain ⟨a2, vs, rfl, hs2, hv'⟩ := dp_seq hd
    obtain ⟨m', hm', hlen2, hmm2⟩ := dn_seq hn
    obtain rfl : m = m' := by omega
    have E2 := e1.trans e2
    have lu := dpa_len hu'
    have lv := dpa_len hv'
    refine q_when (et_test (ev_op (ev_cb (ea_cons (ev_var rfl) ea_nil) (rc_lenB (hs2.ex E2))) (ev_cb (ea_cons (ev_var rfl) ea_nil) (rc_lenB (hs.ex E2))) (rv_ne rfl))) (fun hz H3 e3 => ?_) (fun hz H3 e3 => ?_)
    · refine s_ret ev_c fun H4 e4 => hQ false ?_ H4 (E2.trans (e3.trans e4))
      refine ⟨(fun z => nomatch z), fun z => ?_⟩
      rw [seqD_inj] at z
      subst z
      rw [lu, lv] at hz
      simp at hz
    have ll : ds.length = es.length := by
      rw [lu, lv] at hz
      simp at hz
      omega
    classical
    have E3 := E2.trans e3
    have hs3 := hs.ex E3
    have hs23 := hs2.ex E3
    refine s_ret (ev_op (ev_lenN' (el_lcR1 (n := (us.length : Int)) (fun i => !decide (ds[i]? = es[i]?)) (fun i => .int (i : Int)) (ea_cons (ev_cb (ea_cons (ev_var rfl) ea_nil) (rc_lenB hs3)) ea_nil) (by omega) (fun _ => rfl) (fun i H4 e4 hi => ?_) (fun i H4 e4 hi _ => ev_var rfl))) ev_c (rv_eq rfl)) fun H5 e5 => hQ _ ?_ H5 (E3.trans e5)
    · have hi1 : i < es.length := by omega
      have hi2 : i < ds.length := by omega
      obtain ⟨x1, hx1, hx2⟩ := dpa_at hu' hi1
      obtain ⟨y1, hy1, hy2⟩ := dpa_at hv' hi2
      refine et_not (et_B (ev_call (ea_cons (ev_op (ev_var rfl) (ev_var rfl) (rv_ixB (hs23.ex e4) (atI_nat hy1))) (ea_cons (ev_op (ev_var rfl) (ev_var rfl) (rv_ixB (hs3.ex e4) (atI_nat hx1))) ea_nil)) ?_))
      intro H6 e6 Q' q' E'
      have E6 := (E3.trans e4).trans e6
      refine ⟨y1, x1, ds[i], es[i], rfl, dp_ex E6 hy2, dp_ex E6 hx2, hmm2 _ (List.getElem_mem _), hmm _ (List.getElem_mem _), fun b' hb' => ?_⟩
      have eb : b' = decide (ds[i]? = es[i]?) := by
        rw [List.getElem?_eq_getElem hi1, List.getElem?_eq_getElem hi2, Bool.eq_iff_iff, hb', decide_eq_true_iff]
        simp
      rw [eb]
      exact q'
    · rw [seqD_inj, decide_eq_true_iff]
      have e1' : (V.int (((given (us.length : Int).toNat (fun i => !decide (ds[i]? = es[i]?)) (fun i => .int (i : Int))).length : Nat) : Int) = V.int 0) ↔ (given (us.length : Int).toNat (fun i => !decide (ds[i]? = es[i]?)) (fun i => .int (i : Int))).length = 0 := by
        constructor
        · intro h
          injection h with h
          omega
        · intro h
          rw [h]
          rfl
      rw [e1', given_none]
      constructor
      · intro h
        refine List.ext_getElem? fun i => ?_
        by_cases hi : i < es.length
        · have := h i (by omega)
          simpa using this
        · rw [List.getElem?_eq_none (by omega), List.getElem?_eq_none (by omega)]
      · intro h i hi
        rw [h]
        simp
  cases e with
  | none =>
    cases he with
    | non =>
    refine skip2 (by simp [tyN, isB_tab]) (by simp [tyN, isB_tab]) (Ex.refl H) fun H1 e1 => ?_
    refine skip1 (by simp [tyN, isB_tab]) (by rfl) e1 fun H2 e2 => ?_
    refine skip1 (by simp [tyN, isB_tab]) (by rfl) e2 fun H3 e3 => ?_
    refine skip1 (by simp [tyN, isB_tab]) (by rfl) e3 fun H4 e4 => ?_
    refine s_ret (ev_andV (ev_isN (ev_var rfl)) fun _ => ev_isN (ev_var rfl)) fun H5 e5 => ?_
    refine hQ _ ?_ H5 (e4.trans e5)
    cases hd <;> simp
  | bool b =>
    cases he with
    | bl =>
    refine skip2 (by simp [tyN, isB_tab]) (by simp [tyN, isB_tab]) (Ex.refl H) fun H1 e1 => ?_
    refine take1 (by simp [tyN, isB_tab]) (by rfl) e1 fun H2 e2 => ?_
    refine s_ret (ev_andV (ev_isiD (ev_var rfl) (dp_ex e2 hd) (by rfl)) fun hc => ev_op (ev_var rfl) (ev_var rfl) (rv_eq (by cases hd <;> first | rfl | (simp [tyN, isB_tab] at hc)))) fun H5 e5 => hQ _ ?_ H5 (e2.trans e5)
    cases hd <;> simp [tyN, isB_tab]
  | int b =>
    cases he with
    | int =>
    refine skip2 (by simp [tyN, isB_tab]) (by simp [tyN, isB_tab]) (Ex.refl H) fun H1 e1 => ?_
    refine skip1 (by simp [tyN, isB_tab]) (by rfl) e1 fun H2 e2 => ?_
    refine take1 (by simp [tyN, isB_tab]) (by rfl) e2 fun H3 e3 => ?_
    refine s_ret (ev_andV (ev_call (ea_cons (ev_var rfl) ea_nil) (sv_whole (dp_ex e3 hd))) fun hc => ev_op (ev_var rfl) (ev_var rfl) (rv_eq (by cases hd <;> first | rfl | (simp [isInt, tyN, isB_tab] at hc)))) fun H5 e5 => hQ _ ?_ H5 (e3.trans e5)
    cases hd <;> simp [isInt, tyN, isB_tab]
  | str b =>
    cases he with
    | str =>
    refine skip2 (by simp [tyN, isB_tab]) (by simp [tyN, isB_tab]) (Ex.refl H) fun H1 e1 => ?_
    refine skip1 (by simp [tyN, isB_tab]) (by rfl) e1 fun H2 e2 => ?_
    refine skip1 (by simp [tyN, isB_tab]) (by rfl) e2 fun H3 e3 => ?_
    refine take1 (by simp [tyN, isB_tab]) (by rfl) e3 fun H4 e4 => ?_
    refine s_ret (ev_andV (ev_isiD (ev_var rfl) (dp_ex e4 hd) (by rfl)) fun hc => ev_op (ev_var rfl) (ev_var rfl) (rv_eq (by cases hd <;> first | rfl | (simp [tyN, isB_tab] at hc)))) fun H5 e5 => hQ _ ?_ H5 (e4.trans e5)
    cases hd <;> simp [tyN, isB_tab]
  | list es => exact absurd ⟨true, es, rfl⟩ hsq
  | tuple es => exact absurd ⟨false, es, rfl⟩ hsq
  | dict es => cases he
theorem fn_l_same (T : TX K mg) {base : Heap} : ∀ n : Nat, ∃ fd, FunD K "_law_same" "_law_same" (defArgs s_l_same) (defBody s_l_same) (defScope s_l_same) [] [] (He.ga K "_law_same") fd ∧ FnOk P w K mg base CX0 (n + 2) (He.ga K "_law_same") fd ["_law_told", "_law_due"] (spSame K n) := fun n => by
  obtain ⟨fd, F⟩ := fd_l_same T
  have b : Binds K fd ["_law_told", "_law_due"] [] := F.bindsN fun _ _ _ _ _ _ us hl => match us, hl with | [_, _], _ => rfl
  refine ⟨fd, F, ?_⟩
  induction n with
  | zero =>
    refine My.FunD.ok0 F sc_l_same (fun vs H Q E h => ?_) (fun cdv A outer s0 H vs Q E hr h => ?_)
    · obtain ⟨_, _, _, _, rfl, _⟩ := h
      rfl
    obtain ⟨v, u, d, e, rfl, hd, he, hn, hm, hQ⟩ := h
    exact body_same T hr hd he hn hm hQ (DefOk.of F (gl_l_same T) b ⟨fun _ _ _ _ h => h.elim, fun _ _ _ _ _ _ _ _ _ _ _ _ _ h => h.elim⟩)
  | succ n ih =>
    refine My.FunD.ok0 F sc_l_same (fun vs H Q E h => ?_) (fun cdv A outer s0 H vs Q E hr h => ?_)
    · obtain ⟨_, _, _, _, rfl, _⟩ := h
      rfl
    obtain ⟨v, u, d, e, rfl, hd, he, hn, hm, hQ⟩ := h
    exact body_same T hr hd he hn hm hQ (DefOk.of F (gl_l_same T) b ih)
theorem ok_l_same (T : TX K mg) {base : Heap} (n : Nat) : DefOk P w K mg base (n + 2) "_law_same" ["_law_told", "_law_due"] [] (spSame K n) := by
  obtain ⟨fd, F, h⟩ := fn_l_same (P := P) (w := w) T (base := base) n
  exact DefOk.of F (gl_l_same T) (F.bindsN fun _ _ _ _ _ _ us hl => match us, hl with | [_, _], _ => rfl) h
theorem sv_same {K : PySem.W.Frag} {H : Hp} {v u : V} {d e : PyData} {n : Nat} {b : Bool} (hd : Dp K H v d) (he : Dp K H u e) (hn : Dn n d) (hm : Dn n e) (hb : b = true ↔ d = e) : SpV (spSame K n) [v, u] H (.bl b) := fun H1 x Q q E =>
  ⟨v, u, d, e, rfl, dp_ex x hd, dp_ex x he, hn, hm, fun b' h' => by
    have : b' = b := by rw [Bool.eq_iff_iff, h', hb]
    rw [this]
    exact q⟩
end

/-! ### the common defs, as functions of a store -/
section
open Mi
noncomputable def fNumber : List D → Sto → R D := fun ds S => match ds with
  | [.ref l, .int a, .int k, .int sz] => match (rdL S l).bind intsOf with
    | some ns => open Classical in if ns.length ≤ 63 ∧ NumOk a k sz then .ok (.int (lawNum ns a k sz)) S else .bad
    | none => .bad
  | _ => .bad
theorem fNumber_eq {S : Sto} {l : Nat} {ns : List Int} {a k sz : Int} (h : rdL S l = some (ns.map D.int)) (hl : ns.length ≤ 63) (ok : NumOk a k sz) : fNumber [.ref l, .int a, .int k, .int sz] S = .ok (.int (lawNum ns a k sz)) S := by
  simp [fNumber, h, intsOf_map, hl, ok]
noncomputable def fWhole : List D → Sto → R D := fun ds S => match ds with
  | [x] => match dataOf S x with
    | some p => .ok (.bl (isInt p)) S
    | none => .bad
  | _ => .bad
theorem fWhole_eq {S : Sto} {x : D} {p : PyData} (h : DD S x p) : fWhole [x] S = .ok (.bl (isInt p)) S := by simp [fWhole, dataOf_eq h]
theorem fWhole_int {S : Sto} {i : Int} : fWhole [.int i] S = .ok (.bl true) S := by
  rw [fWhole_eq (.int i)]
  simp [isInt, tyN, isB_tab]
open Classical in
noncomputable def fSame (n : Nat) : List D → Sto → R D := fun ds S => match ds with
  | [x, y] => match dataOf S x, dataOf S y with
    | some p, some q => if Dn n p ∧ Dn n q then .ok (.bl (decide (p = q))) S else .bad
    | _, _ => .bad
  | _ => .bad
open Classical in
theorem fSame_eq {S : Sto} {n : Nat} {x y : D} {p q : PyData} (hx : DD S x p) (hy : DD S y q) (h1 : Dn n p) (h2 : Dn n q) : fSame n [x, y] S = .ok (.bl (decide (p = q))) S := by simp [fSame, dataOf_eq hx, dataOf_eq hy, h1, h2]
theorem fSame_refl {S : Sto} {n : Nat} {x y : D} {p : PyData} (hx : DD S x p) (hy : DD S y p) (h1 : Dn n p) : fSame n [x, y] S = .ok (.bl true) S := by simp [fSame, dataOf_eq hx, dataOf_eq hy, h1]
theorem defok_imp {P : Program} {w : World} {K : PySem.W.Frag} {mg : Str → Option Value} {base : Heap} {k : Nat} {x : Str} {ps : List Str} {dvs : List V} {sp sp' : Sp} (h : DefOk P w K mg base k x ps dvs sp) (i : ∀ vs H Q E, sp' vs H Q E → sp vs H Q E) : DefOk P w K mg base k x ps dvs sp' := by
  obtain ⟨f, fd, ds, h1, h2, h3, h4, h5⟩ := h.ex
  exact ⟨f, fd, ds, h1, h2, h3, h4, h5.imp i⟩
variable {P : Program} {w : World} {K : PySem.W.Frag} {mg : Str → Option Value} {base : Heap}
theorem okm_l_number (T : TX K mg) : DefOk P w K mg base 1 "_law_number" ["_law_script", "_law_at", "_law_k", "_law_size"] [] (spF K fNumber) := by
  refine defok_imp (ok_l_number (P := P) (w := w) (base := base) T) fun vs H Q E ⟨φ, S, ds, r, hv, p⟩ => ?_
  unfold fNumber at p
  split at p
  · split at p
    · rename_i l a k sz _ ns e
      obtain ⟨xs, h1, h2⟩ := Option.bind_eq_some_iff.mp e
      cases hv with
      | cons q1 hv =>
        cases hv with
        | cons q2 hv =>
          obtain ⟨v3, v4, rfl, q3, q4⟩ := hv.two_inv
          obtain ⟨_, rfl⟩ := q1.ref_inv
          cases q2; cases q3; cases q4
          obtain ⟨ws, w1, w2⟩ := r.rd h1
          rw [intsOf_inv h2] at w2
          rw [w2.ints_inv] at w1
          split at p
          · rename_i ok
            exact ⟨_, ns, a, k, sz, rfl, w1, ok.1, ok.2, fun H' e' => p.ex r e' (VR.int _)⟩
          · exact p.elim
    · exact p.elim
  · exact p.elim
theorem okm_l_is_whole (T : TX K mg) : DefOk P w K mg base 1 "_law_is_whole" ["_law_told"] [] (spF K fWhole) := by
  refine defok_imp (ok_l_is_whole (P := P) (w := w) (base := base) T) fun vs H Q E ⟨φ, S, ds, r, hv, p⟩ => ?_
  unfold fWhole at p
  split at p
  · split at p
    · rename_i x _ d e
      obtain ⟨v, rfl, hz⟩ := hv.one_inv
      exact ⟨v, d, rfl, (dataOf_some e).dp r hz, fun H' e' => p.ex r e' (VR.bl _)⟩
    · exact p.elim
  · exact p.elim
open Classical in
theorem okm_l_same (T : TX K mg) (n : Nat) : DefOk P w K mg base (n + 2) "_law_same" ["_law_told", "_law_due"] [] (spF K (fSame n)) := by
  refine defok_imp (ok_l_same (P := P) (w := w) (base := base) T n) fun vs H Q E ⟨φ, S, ds, r, hv, p⟩ => ?_
  unfold fSame at p
  split at p
  · split at p
    · rename_i x y _ _ d e h1 h2
      obtain ⟨v, u, rfl, hx, hy⟩ := hv.two_inv
      split at p
      · rename_i hd
        refine ⟨v, u, d, e, rfl, (dataOf_some h1).dp r hx, (dataOf_some h2).dp r hy, hd.1, hd.2, fun b hb H' e' => ?_⟩
        have : b = decide (d = e) := by
          rw [Bool.eq_iff_iff, hb, decide_eq_true_iff]
        rw [this]
        exact p.ex r e' (VR.bl _)
      · exact p.elim
    · exact p.elim
  · exact p.elim
end

section
open Mi
variable {P : Program} {w : World} {K : PySem.W.Frag} {mg : Str → Option Value} {base : Heap}
theorem sc_zeros : FnScope ["count", "_"] ["count"] (defScope s_zeros) := ⟨rfl, rfl, rfl, by decide +kernel, rfl, by decide +kernel, by decide +kernel⟩
noncomputable def f_zeros_c1 : Mi.Env → Mi.Sto → Mi.R Mi.D := (xLc (iR1 (xCons (xVar 0) xNil)) (gNameX 1) xYes (xC (.int 0)) [1])
@[irreducible] noncomputable def f_zeros : List Mi.D → Mi.Sto → Mi.R Mi.D := Mi.defX 1 1 (xRet f_zeros_c1)
theorem f_zeros_eq : f_zeros = Mi.defX 1 1 (xRet f_zeros_c1) := by with_unfolding_all rfl
theorem fn_zeros (T : TX K mg) : ∃ fd, FunD K "zeros" "zeros" (defArgs s_zeros) (defBody s_zeros) (defScope s_zeros) [] [] (He.ga K "zeros") fd ∧ FnOk P w K mg base CX0 (1) (He.ga K "zeros") fd ["count"] (Mi.spF K f_zeros) := by
  rw [f_zeros_eq]
  obtain ⟨fd, F⟩ := fd_zeros T
  refine ⟨fd, F, My.FunD.ok0 F sc_zeros (Mi.spF_len rfl) (fun cdv A outer s0 H vs Q E hr h => ?_)⟩
  have hu := hu_of hr
  exact ⟨_, (pss_one (ps_ret (pe_lc (own := [("_", 1)]) rfl sc_zeros.nd (pi_range1 rfl (fr_range T) (pa_cons (pv 0) pa_nil)) (blkOk_by (own := [("_", 1)]) (N := ["count", "_"]) (sc := defScope s_zeros) (by decide +kernel)) (fun _ _ _ _ _ => (pg_name (i := 1) sc_zeros.nd rfl (Or.inl rfl))) (fun _ _ _ _ _ => pts_nil) (fun _ _ _ _ _ => pe_int)))),
    Mi.body_of (K := K) (E := E) (m := 1) (k := 1) (N := ["count", "_"]) rfl h (imp_ret (imp_lc (W1 := fun _ _ _ _ => False) (W2 := fun _ _ _ _ => False) (imp_iR1 (imp_cons imp_var imp_nil)) (impg_name) imp_yes imp_int (by decide)))⟩
theorem ok_zeros (T : TX K mg) : DefOk P w K mg base (1) "zeros" ["count"] [] (Mi.spF K f_zeros) := by
  obtain ⟨fd, F, h⟩ := fn_zeros (P := P) (w := w) (base := base) T
  exact DefOk.of F (gl_zeros T) (F.bindsN fun _ _ _ _ _ _ us hl => match us, hl with | [_], _ => rfl) h
theorem sc_Chooser___init__ : FnScope ["self", "kind", "frames"] ["self", "kind", "frames"] (defScope s_Chooser___init__) := ⟨rfl, rfl, rfl, by decide +kernel, rfl, by decide +kernel, by decide +kernel⟩
@[irreducible] noncomputable def f_Chooser___init__ : List Mi.D → Mi.Sto → Mi.R Mi.D := Mi.defX 3 0 (xSeq (xSetF "Chooser" "kind" (xVar 0) (xVar 1))
      (xSeq (xSetF "Chooser" "time" (xVar 0) (xC (.int 0)))
      (xSeq (xSetF "Chooser" "filled_at" (xVar 0) (xCall f_zeros (xCons (xVar 2) xNil)))
      (xSeq (xSetF "Chooser" "used_at" (xVar 0) (xCall f_zeros (xCons (xVar 2) xNil)))
      (xSeq (xSetF "Chooser" "bits" (xVar 0) (xCall f_zeros (xCons (xVar 2) xNil)))
      (xSetF "Chooser" "pointer" (xVar 0) (xC (.int 0))))))))
theorem f_Chooser___init___eq : f_Chooser___init__ = Mi.defX 3 0 (xSeq (xSetF "Chooser" "kind" (xVar 0) (xVar 1))
      (xSeq (xSetF "Chooser" "time" (xVar 0) (xC (.int 0)))
      (xSeq (xSetF "Chooser" "filled_at" (xVar 0) (xCall f_zeros (xCons (xVar 2) xNil)))
      (xSeq (xSetF "Chooser" "used_at" (xVar 0) (xCall f_zeros (xCons (xVar 2) xNil)))
      (xSeq (xSetF "Chooser" "bits" (xVar 0) (xCall f_zeros (xCons (xVar 2) xNil)))
      (xSetF "Chooser" "pointer" (xVar 0) (xC (.int 0)))))))) := by with_unfolding_all rfl
theorem fn_Chooser___init__ (T : TX K mg) : ∃ fd, FunD K "__init__" "Chooser.__init__" (defArgs s_Chooser___init__) (defBody s_Chooser___init__) (defScope s_Chooser___init__) [] [] (He.ma K (He.ga K "Chooser") "__init__") fd ∧ FnOk P w K mg base CX0 (2) (He.ma K (He.ga K "Chooser") "__init__") fd ["self", "kind", "frames"] (Mi.spF K f_Chooser___init__) := by
  rw [f_Chooser___init___eq]
  obtain ⟨fd, F⟩ := fd_Chooser___init__ T
  refine ⟨fd, F, My.FunD.ok0 F sc_Chooser___init__ (Mi.spF_len rfl) (fun cdv A outer s0 H vs Q E hr h => ?_)⟩
  have hu := hu_of hr
  exact ⟨_, (pss_cons (ps_fld (pv 0) (pv 1) rfl)
      (pss_cons (ps_fld (pv 0) pe_int rfl)
      (pss_cons (ps_fld (pv 0) (pe_callN (ok_zeros (P := P) (w := w) (base := base) T) hr (pa_cons (pv 2) pa_nil)) rfl)
      (pss_cons (ps_fld (pv 0) (pe_callN (ok_zeros (P := P) (w := w) (base := base) T) hr (pa_cons (pv 2) pa_nil)) rfl)
      (pss_cons (ps_fld (pv 0) (pe_callN (ok_zeros (P := P) (w := w) (base := base) T) hr (pa_cons (pv 2) pa_nil)) rfl)
      (pss_one (ps_fld (pv 0) pe_int rfl))))))),
    Mi.body_of (K := K) (E := E) (m := 3) (k := 0) (N := ["self", "kind", "frames"]) rfl h (imp_seq (imp_setF (cls_Chooser T) (na_Chooser_kind T) imp_var imp_var) (imp_seq (imp_setF (cls_Chooser T) (na_Chooser_time T) imp_var imp_int) (imp_seq (imp_setF (cls_Chooser T) (na_Chooser_filled_at T) imp_var (imp_call (imp_cons imp_var imp_nil))) (imp_seq (imp_setF (cls_Chooser T) (na_Chooser_used_at T) imp_var (imp_call (imp_cons imp_var imp_nil))) (imp_seq (imp_setF (cls_Chooser T) (na_Chooser_bits T) imp_var (imp_call (imp_cons imp_var imp_nil))) (imp_setF (cls_Chooser T) (na_Chooser_pointer T) imp_var imp_int))))))⟩
theorem mk_Chooser (T : TX K mg) : MkOk P w K mg base (2) "Chooser" (He.ga K "Chooser") ["self", "kind", "frames"] [] (Mi.spF K f_Chooser___init__) := by
  obtain ⟨fd, F, h⟩ := fn_Chooser___init__ (P := P) (w := w) (base := base) T
  exact ⟨_, fd, [], gl_Chooser T, mkr_Chooser T, (F.bindsN fun _ _ _ _ _ _ us hl => match us, hl with | [_, _, _], _ => rfl), .nil, h⟩
theorem sc_Chooser_touched : FnScope ["self", "frame"] ["self", "frame"] (defScope s_Chooser_touched) := ⟨rfl, rfl, rfl, by decide +kernel, rfl, by decide +kernel, by decide +kernel⟩
@[irreducible] noncomputable def f_Chooser_touched : List Mi.D → Mi.Sto → Mi.R Mi.D := Mi.defX 2 0 (xSeq (xAugF "Chooser" "time" (xVar 0) (xC (.int 1)) (oI fun i j => .int (i + j)))
      (xSeq (xAsg (xFld "Chooser" "time" (xVar 0)) (gSubX (xFld "Chooser" "used_at" (xVar 0)) (xVar 1)))
      (xAsg (xC (.int 1)) (gSubX (xFld "Chooser" "bits" (xVar 0)) (xVar 1)))))
theorem f_Chooser_touched_eq : f_Chooser_touched = Mi.defX 2 0 (xSeq (xAugF "Chooser" "time" (xVar 0) (xC (.int 1)) (oI fun i j => .int (i + j)))
      (xSeq (xAsg (xFld "Chooser" "time" (xVar 0)) (gSubX (xFld "Chooser" "used_at" (xVar 0)) (xVar 1)))
      (xAsg (xC (.int 1)) (gSubX (xFld "Chooser" "bits" (xVar 0)) (xVar 1))))) := by with_unfolding_all rfl
theorem fn_Chooser_touched (T : TX K mg) : ∃ fd, FunD K "touched" "Chooser.touched" (defArgs s_Chooser_touched) (defBody s_Chooser_touched) (defScope s_Chooser_touched) [] [] (He.ma K (He.ga K "Chooser") "touched") fd ∧ FnOk P w K mg base CX0 (1) (He.ma K (He.ga K "Chooser") "touched") fd ["self", "frame"] (Mi.spF K f_Chooser_touched) := by
  rw [f_Chooser_touched_eq]
  obtain ⟨fd, F⟩ := fd_Chooser_touched T
  refine ⟨fd, F, My.FunD.ok0 F sc_Chooser_touched (Mi.spF_len rfl) (fun cdv A outer s0 H vs Q E hr h => ?_)⟩
  have hu := hu_of hr
  exact ⟨_, (pss_cons (ps_fldaug (pv 0) pe_int in_add)
      (pss_cons (ps_asg (pe_fldK K (pv 0) rfl) (pg_sub (pe_fldK K (pv 0) rfl) (pv 1) set_list))
      (pss_one (ps_asg pe_int (pg_sub (pe_fldK K (pv 0) rfl) (pv 1) set_list))))),
    Mi.body_of (K := K) (E := E) (m := 2) (k := 0) (N := ["self", "frame"]) rfl h (imp_seq (imp_augF_add (cls_Chooser T) (na_Chooser_time T) imp_var imp_int) (imp_seq (imp_asg (imp_fld (cls_Chooser T) (na_Chooser_time T) imp_var) (impg_sub (W1 := fun _ _ _ _ => False) (imp_fld (cls_Chooser T) (na_Chooser_used_at T) imp_var) imp_var)) (imp_asg imp_int (impg_sub (W1 := fun _ _ _ _ => False) (imp_fld (cls_Chooser T) (na_Chooser_bits T) imp_var) imp_var))))⟩
theorem ok_Chooser_touched (T : TX K mg) : MethOk P w K mg base CX0 (1) (He.ga K "Chooser") "touched" ["self", "frame"] [] (Mi.spF K f_Chooser_touched) := by
  obtain ⟨fd, F, h⟩ := fn_Chooser_touched (P := P) (w := w) (base := base) T
  exact MethOk.of F (cls_Chooser T) (meth_Chooser_touched T) (F.bindsN fun _ _ _ _ _ _ us hl => match us, hl with | [_, _], _ => rfl) h
theorem sc_Chooser_filled : FnScope ["self", "frame"] ["self", "frame"] (defScope s_Chooser_filled) := ⟨rfl, rfl, rfl, by decide +kernel, rfl, by decide +kernel, by decide +kernel⟩
@[irreducible] noncomputable def f_Chooser_filled : List Mi.D → Mi.Sto → Mi.R Mi.D := Mi.defX 2 0 (xSeq (xDrop (xMeth "Chooser" "touched" f_Chooser_touched (xVar 0) (xCons (xVar 1) xNil)))
      (xAsg (xFld "Chooser" "time" (xVar 0)) (gSubX (xFld "Chooser" "filled_at" (xVar 0)) (xVar 1))))
theorem f_Chooser_filled_eq : f_Chooser_filled = Mi.defX 2 0 (xSeq (xDrop (xMeth "Chooser" "touched" f_Chooser_touched (xVar 0) (xCons (xVar 1) xNil)))
      (xAsg (xFld "Chooser" "time" (xVar 0)) (gSubX (xFld "Chooser" "filled_at" (xVar 0)) (xVar 1)))) := by with_unfolding_all rfl
theorem fn_Chooser_filled (T : TX K mg) : ∃ fd, FunD K "filled" "Chooser.filled" (defArgs s_Chooser_filled) (defBody s_Chooser_filled) (defScope s_Chooser_filled) [] [] (He.ma K (He.ga K "Chooser") "filled") fd ∧ FnOk P w K mg base CX0 (2) (He.ma K (He.ga K "Chooser") "filled") fd ["self", "frame"] (Mi.spF K f_Chooser_filled) := by
  rw [f_Chooser_filled_eq]
  obtain ⟨fd, F⟩ := fd_Chooser_filled T
  refine ⟨fd, F, My.FunD.ok0 F sc_Chooser_filled (Mi.spF_len rfl) (fun cdv A outer s0 H vs Q E hr h => ?_)⟩
  have hu := hu_of hr
  exact ⟨_, (pss_cons (ps_expr (pe_methN (ok_Chooser_touched (P := P) (w := w) (base := base) T) (pv 0) hr (pa_cons (pv 1) pa_nil)))
      (pss_one (ps_asg (pe_fldK K (pv 0) rfl) (pg_sub (pe_fldK K (pv 0) rfl) (pv 1) set_list)))),
    Mi.body_of (K := K) (E := E) (m := 2) (k := 0) (N := ["self", "frame"]) rfl h (imp_seq (imp_drop (imp_meth imp_var (imp_cons imp_var imp_nil))) (imp_asg (imp_fld (cls_Chooser T) (na_Chooser_time T) imp_var) (impg_sub (W1 := fun _ _ _ _ => False) (imp_fld (cls_Chooser T) (na_Chooser_filled_at T) imp_var) imp_var)))⟩
theorem ok_Chooser_filled (T : TX K mg) : MethOk P w K mg base CX0 (2) (He.ga K "Chooser") "filled" ["self", "frame"] [] (Mi.spF K f_Chooser_filled) := by
  obtain ⟨fd, F, h⟩ := fn_Chooser_filled (P := P) (w := w) (base := base) T
  exact MethOk.of F (cls_Chooser T) (meth_Chooser_filled T) (F.bindsN fun _ _ _ _ _ _ us hl => match us, hl with | [_, _], _ => rfl) h
theorem sc_Chooser_emptied : FnScope ["self", "frame"] ["self", "frame"] (defScope s_Chooser_emptied) := ⟨rfl, rfl, rfl, by decide +kernel, rfl, by decide +kernel, by decide +kernel⟩
@[irreducible] noncomputable def f_Chooser_emptied : List Mi.D → Mi.Sto → Mi.R Mi.D := Mi.defX 2 0 (xAsg (xC (.int 0)) (gSubX (xFld "Chooser" "bits" (xVar 0)) (xVar 1)))
theorem f_Chooser_emptied_eq : f_Chooser_emptied = Mi.defX 2 0 (xAsg (xC (.int 0)) (gSubX (xFld "Chooser" "bits" (xVar 0)) (xVar 1))) := by with_unfolding_all rfl
theorem fn_Chooser_emptied (T : TX K mg) : ∃ fd, FunD K "emptied" "Chooser.emptied" (defArgs s_Chooser_emptied) (defBody s_Chooser_emptied) (defScope s_Chooser_emptied) [] [] (He.ma K (He.ga K "Chooser") "emptied") fd ∧ FnOk P w K mg base CX0 (1) (He.ma K (He.ga K "Chooser") "emptied") fd ["self", "frame"] (Mi.spF K f_Chooser_emptied) := by
  rw [f_Chooser_emptied_eq]
  obtain ⟨fd, F⟩ := fd_Chooser_emptied T
  refine ⟨fd, F, My.FunD.ok0 F sc_Chooser_emptied (Mi.spF_len rfl) (fun cdv A outer s0 H vs Q E hr h => ?_)⟩
  have hu := hu_of hr
  exact ⟨_, (pss_one (ps_asg pe_int (pg_sub (pe_fldK K (pv 0) rfl) (pv 1) set_list))),
    Mi.body_of (K := K) (E := E) (m := 2) (k := 0) (N := ["self", "frame"]) rfl h (imp_asg imp_int (impg_sub (W1 := fun _ _ _ _ => False) (imp_fld (cls_Chooser T) (na_Chooser_bits T) imp_var) imp_var))⟩
theorem ok_Chooser_emptied (T : TX K mg) : MethOk P w K mg base CX0 (1) (He.ga K "Chooser") "emptied" ["self", "frame"] [] (Mi.spF K f_Chooser_emptied) := by
  obtain ⟨fd, F, h⟩ := fn_Chooser_emptied (P := P) (w := w) (base := base) T
  exact MethOk.of F (cls_Chooser T) (meth_Chooser_emptied T) (F.bindsN fun _ _ _ _ _ _ us hl => match us, hl with | [_, _], _ => rfl) h
theorem sc_Chooser_turn_pointer : FnScope ["self", "allowed", "candidates", "frame"] ["self", "allowed"] (defScope s_Chooser_turn_pointer) := ⟨rfl, rfl, rfl, by decide +kernel, rfl, by decide +kernel, by decide +kernel⟩
noncomputable def f_Chooser_turn_pointer_b1 : Mi.Env → Mi.Sto → Mi.RS := (xSeq (xAsg (xFld "Chooser" "pointer" (xVar 0)) (gNameX 3))
      (xSeq (xSetF "Chooser" "pointer" (xVar 0) (xOp (oIC (fun _ j => 0 < j) fun i j => .int (i % j)) (xOp (oI fun i j => .int (i + j)) (xVar 3) (xC (.int 1))) (xCB bLen (xCons (xFld "Chooser" "bits" (xVar 0)) xNil))))
      (xIfS (xB (xOp (oInSet false) (xVar 3) (xVar 2))) (xSeq (xIfS (xB (xOp oEqS (xOp oIxL (xFld "Chooser" "bits" (xVar 0)) (xVar 3)) (xC (.int 0)))) (xRet (xVar 3)) xNext)
      (xAsg (xC (.int 0)) (gSubX (xFld "Chooser" "bits" (xVar 0)) (xVar 3)))) xNext)))
noncomputable def f_Chooser_turn_pointer_l1 : Mi.Env → Mi.Sto → Mi.RS := (xWhile (xB (xC (.bl true))) f_Chooser_turn_pointer_b1)
@[irreducible] noncomputable def f_Chooser_turn_pointer : List Mi.D → Mi.Sto → Mi.R Mi.D := Mi.defX 2 2 (xSeq (xAsg (xCB bSet (xCons (xVar 1) xNil)) (gNameX 2))
      f_Chooser_turn_pointer_l1)
theorem f_Chooser_turn_pointer_eq : f_Chooser_turn_pointer = Mi.defX 2 2 (xSeq (xAsg (xCB bSet (xCons (xVar 1) xNil)) (gNameX 2))
      f_Chooser_turn_pointer_l1) := by with_unfolding_all rfl
theorem fn_Chooser_turn_pointer (T : TX K mg) : ∃ fd, FunD K "turn_pointer" "Chooser.turn_pointer" (defArgs s_Chooser_turn_pointer) (defBody s_Chooser_turn_pointer) (defScope s_Chooser_turn_pointer) [] [] (He.ma K (He.ga K "Chooser") "turn_pointer") fd ∧ FnOk P w K mg base CX0 (1) (He.ma K (He.ga K "Chooser") "turn_pointer") fd ["self", "allowed"] (Mi.spF K f_Chooser_turn_pointer) := by
  rw [f_Chooser_turn_pointer_eq]
  obtain ⟨fd, F⟩ := fd_Chooser_turn_pointer T
  refine ⟨fd, F, My.FunD.ok0 F sc_Chooser_turn_pointer (Mi.spF_len rfl) (fun cdv A outer s0 H vs Q E hr h => ?_)⟩
  have hu := hu_of hr
  exact ⟨_, (pss_cons (ps_set (i := 2) sc_Chooser_turn_pointer.nd rfl (Or.inl rfl) (pe_callTy (cr_setI K rfl) (by rfl) (fr_set T) (by decide +kernel) (pa_cons (pv 1) pa_nil)))
      (pss_one (ps_while PassesOwn.never (pt_val pe_bl) (pss_cons (ps_set (i := 3) sc_Chooser_turn_pointer.nd rfl (Or.inl rfl) (pe_fldK K (pv 0) rfl))
      (pss_cons (ps_fld (pv 0) (pe_op op_mod (pe_op op_add (pv 3) pe_int) (pe_callB (lenQ K) (by rfl) (fr_len T) PySem.boot_len (pa_cons (pe_fldK K (pv 0) rfl) pa_nil))) rfl)
      (pss_one (ps_if (pt_cmpR or_setIn (pv 3) (pv 2) rfl) (pss_cons (ps_if (pt_cmpR op_eq (pe_ix (ixL K) (pe_fldK K (pv 0) rfl) (pv 3) (fun _ _ => rfl)) pe_int (nomark _)) (pss_one (ps_ret (pv 3))) pss_nil)
      (pss_one (ps_asg pe_int (pg_sub (pe_fldK K (pv 0) rfl) (pv 3) set_list)))) pss_nil))))))),
    Mi.body_of (K := K) (E := E) (m := 2) (k := 2) (N := ["self", "allowed", "candidates", "frame"]) rfl h (imp_seq (imp_asg (imp_cb cbi_set (imp_cons imp_var imp_nil)) impg_name) (imp_while (imp_tB imp_bl) (imp_seq (imp_asg (imp_fld (cls_Chooser T) (na_Chooser_pointer T) imp_var) impg_name) (imp_seq (imp_setF (cls_Chooser T) (na_Chooser_pointer T) imp_var (imp_op opi_mod (imp_op opi_add imp_var imp_int) (imp_cb cbi_len (imp_cons (imp_fld (cls_Chooser T) (na_Chooser_bits T) imp_var) imp_nil)))) (imp_ifS (imp_test (imp_op opi_inSet imp_var imp_var)) (imp_seq (imp_ifS (imp_test (imp_op opi_eqS (imp_op opi_ixL (imp_fld (cls_Chooser T) (na_Chooser_bits T) imp_var) imp_var) imp_int)) (imp_ret imp_var) imp_next) (imp_asg imp_int (impg_sub (W1 := fun _ _ _ _ => False) (imp_fld (cls_Chooser T) (na_Chooser_bits T) imp_var) imp_var))) imp_next)))))⟩
theorem ok_Chooser_turn_pointer (T : TX K mg) : MethOk P w K mg base CX0 (1) (He.ga K "Chooser") "turn_pointer" ["self", "allowed"] [] (Mi.spF K f_Chooser_turn_pointer) := by
  obtain ⟨fd, F, h⟩ := fn_Chooser_turn_pointer (P := P) (w := w) (base := base) T
  exact MethOk.of F (cls_Chooser T) (meth_Chooser_turn_pointer T) (F.bindsN fun _ _ _ _ _ _ us hl => match us, hl with | [_, _], _ => rfl) h
theorem sc_Chooser_choose : FnScope ["self", "allowed", "ages"] ["self", "allowed"] (defScope s_Chooser_choose) := ⟨rfl, rfl, rfl, by decide +kernel, rfl, by decide +kernel, by decide +kernel⟩
@[irreducible] noncomputable def f_Chooser_choose : List Mi.D → Mi.Sto → Mi.R Mi.D := Mi.defX 2 1 (xSeq (xIfS (xB (xOp oEqS (xFld "Chooser" "kind" (xVar 0)) (xC (.str "clock")))) (xRet (xMeth "Chooser" "turn_pointer" f_Chooser_turn_pointer (xVar 0) (xCons (xVar 1) xNil))) xNext)
      (xSeq xNever
      (xSeq xNever
      xNever)))
theorem f_Chooser_choose_eq : f_Chooser_choose = Mi.defX 2 1 (xSeq (xIfS (xB (xOp oEqS (xFld "Chooser" "kind" (xVar 0)) (xC (.str "clock")))) (xRet (xMeth "Chooser" "turn_pointer" f_Chooser_turn_pointer (xVar 0) (xCons (xVar 1) xNil))) xNext)
      (xSeq xNever
      (xSeq xNever
      xNever))) := by with_unfolding_all rfl
theorem fn_Chooser_choose (T : TX K mg) : ∃ fd, FunD K "choose" "Chooser.choose" (defArgs s_Chooser_choose) (defBody s_Chooser_choose) (defScope s_Chooser_choose) [] [] (He.ma K (He.ga K "Chooser") "choose") fd ∧ FnOk P w K mg base CX0 (2) (He.ma K (He.ga K "Chooser") "choose") fd ["self", "allowed"] (Mi.spF K f_Chooser_choose) := by
  rw [f_Chooser_choose_eq]
  obtain ⟨fd, F⟩ := fd_Chooser_choose T
  refine ⟨fd, F, My.FunD.ok0 F sc_Chooser_choose (Mi.spF_len rfl) (fun cdv A outer s0 H vs Q E hr h => ?_)⟩
  have hu := hu_of hr
  exact ⟨_, (pss_cons (ps_if (pt_cmpR op_eq (pe_fldK K (pv 0) rfl) pe_str (nomark _)) (pss_one (ps_ret (pe_methN (ok_Chooser_turn_pointer (P := P) (w := w) (base := base) T) (pv 0) hr (pa_cons (pv 1) pa_nil)))) pss_nil)
      (pss_cons ps_never
      (pss_cons ps_never
      (pss_one ps_never)))),
    Mi.body_of (K := K) (E := E) (m := 2) (k := 1) (N := ["self", "allowed", "ages"]) rfl h (imp_seq (imp_ifS (imp_test (imp_op opi_eqS (imp_fld (cls_Chooser T) (na_Chooser_kind T) imp_var) imp_str)) (imp_ret (imp_meth imp_var (imp_cons imp_var imp_nil))) imp_next) (imp_seq imp_never (imp_seq imp_never imp_never)))⟩
theorem ok_Chooser_choose (T : TX K mg) : MethOk P w K mg base CX0 (2) (He.ga K "Chooser") "choose" ["self", "allowed"] [] (Mi.spF K f_Chooser_choose) := by
  obtain ⟨fd, F, h⟩ := fn_Chooser_choose (P := P) (w := w) (base := base) T
  exact MethOk.of F (cls_Chooser T) (meth_Chooser_choose T) (F.bindsN fun _ _ _ _ _ _ us hl => match us, hl with | [_, _], _ => rfl) h
theorem sc_l_chooser_new : FnScope ["_law_kind", "_law_many", "_law_k"] ["_law_kind", "_law_many"] (defScope s_l_chooser_new) := ⟨rfl, rfl, rfl, by decide +kernel, rfl, by decide +kernel, by decide +kernel⟩
noncomputable def f_l_chooser_new_c1 : Mi.Env → Mi.Sto → Mi.R Mi.D := (xLc (iR1 (xCons (xVar 1) xNil)) (gNameX 2) xYes (xC (.bl false)) [2])
noncomputable def f_l_chooser_new_c2 : Mi.Env → Mi.Sto → Mi.R Mi.D := (xLc (iR1 (xCons (xVar 1) xNil)) (gNameX 2) xYes (xC (.int 0)) [2])
noncomputable def f_l_chooser_new_c3 : Mi.Env → Mi.Sto → Mi.R Mi.D := (xLc (iR1 (xCons (xVar 1) xNil)) (gNameX 2) xYes (xC (.int 0)) [2])
noncomputable def f_l_chooser_new_c4 : Mi.Env → Mi.Sto → Mi.R Mi.D := (xLc (iR1 (xCons (xVar 1) xNil)) (gNameX 2) xYes (xC (.int 0)) [2])
@[irreducible] noncomputable def f_l_chooser_new : List Mi.D → Mi.Sto → Mi.R Mi.D := Mi.defX 2 1 (xRet (xDisp (xPCons (xC (.str "kind")) (xVar 0) (xPCons (xC (.str "time")) (xC (.int 0)) (xPCons (xC (.str "under")) (xC (.int 0)) (xPCons (xC (.str "filled")) f_l_chooser_new_c4 (xPCons (xC (.str "used")) f_l_chooser_new_c3 (xPCons (xC (.str "bits")) f_l_chooser_new_c2 (xPCons (xC (.str "full")) f_l_chooser_new_c1 xPNil)))))))))
theorem f_l_chooser_new_eq : f_l_chooser_new = Mi.defX 2 1 (xRet (xDisp (xPCons (xC (.str "kind")) (xVar 0) (xPCons (xC (.str "time")) (xC (.int 0)) (xPCons (xC (.str "under")) (xC (.int 0)) (xPCons (xC (.str "filled")) f_l_chooser_new_c4 (xPCons (xC (.str "used")) f_l_chooser_new_c3 (xPCons (xC (.str "bits")) f_l_chooser_new_c2 (xPCons (xC (.str "full")) f_l_chooser_new_c1 xPNil))))))))) := by with_unfolding_all rfl
theorem fn_l_chooser_new (T : TX K mg) : ∃ fd, FunD K "_law_chooser_new" "_law_chooser_new" (defArgs s_l_chooser_new) (defBody s_l_chooser_new) (defScope s_l_chooser_new) [] [] (He.ga K "_law_chooser_new") fd ∧ FnOk P w K mg base CX0 (1) (He.ga K "_law_chooser_new") fd ["_law_kind", "_law_many"] (Mi.spF K f_l_chooser_new) := by
  rw [f_l_chooser_new_eq]
  obtain ⟨fd, F⟩ := fd_l_chooser_new T
  refine ⟨fd, F, My.FunD.ok0 F sc_l_chooser_new (Mi.spF_len rfl) (fun cdv A outer s0 H vs Q E hr h => ?_)⟩
  have hu := hu_of hr
  exact ⟨_, (pss_one (ps_ret (pe_disp (pps_cons pe_str (pv 0) (pps_cons pe_str pe_int (pps_cons pe_str pe_int (pps_cons pe_str (pe_lc (own := [("_law_k", 2)]) rfl sc_l_chooser_new.nd (pi_range1 rfl (fr_range T) (pa_cons (pv 1) pa_nil)) (blkOk_by (own := [("_law_k", 2)]) (N := ["_law_kind", "_law_many", "_law_k"]) (sc := defScope s_l_chooser_new) (by decide +kernel)) (fun _ _ _ _ _ => (pg_name (i := 2) sc_l_chooser_new.nd rfl (Or.inl rfl))) (fun _ _ _ _ _ => pts_nil) (fun _ _ _ _ _ => pe_int)) (pps_cons pe_str (pe_lc (own := [("_law_k", 2)]) rfl sc_l_chooser_new.nd (pi_range1 rfl (fr_range T) (pa_cons (pv 1) pa_nil)) (blkOk_by (own := [("_law_k", 2)]) (N := ["_law_kind", "_law_many", "_law_k"]) (sc := defScope s_l_chooser_new) (by decide +kernel)) (fun _ _ _ _ _ => (pg_name (i := 2) sc_l_chooser_new.nd rfl (Or.inl rfl))) (fun _ _ _ _ _ => pts_nil) (fun _ _ _ _ _ => pe_int)) (pps_cons pe_str (pe_lc (own := [("_law_k", 2)]) rfl sc_l_chooser_new.nd (pi_range1 rfl (fr_range T) (pa_cons (pv 1) pa_nil)) (blkOk_by (own := [("_law_k", 2)]) (N := ["_law_kind", "_law_many", "_law_k"]) (sc := defScope s_l_chooser_new) (by decide +kernel)) (fun _ _ _ _ _ => (pg_name (i := 2) sc_l_chooser_new.nd rfl (Or.inl rfl))) (fun _ _ _ _ _ => pts_nil) (fun _ _ _ _ _ => pe_int)) (pps_cons pe_str (pe_lc (own := [("_law_k", 2)]) rfl sc_l_chooser_new.nd (pi_range1 rfl (fr_range T) (pa_cons (pv 1) pa_nil)) (blkOk_by (own := [("_law_k", 2)]) (N := ["_law_kind", "_law_many", "_law_k"]) (sc := defScope s_l_chooser_new) (by decide +kernel)) (fun _ _ _ _ _ => (pg_name (i := 2) sc_l_chooser_new.nd rfl (Or.inl rfl))) (fun _ _ _ _ _ => pts_nil) (fun _ _ _ _ _ => pe_bl)) pps_nil))))))) (by rfl) (by rfl) (fun z => by cases z) (by decide)))),
    Mi.body_of (K := K) (E := E) (m := 2) (k := 1) (N := ["_law_kind", "_law_many", "_law_k"]) rfl h (imp_ret (imp_disp (impp_cons imp_str imp_var (impp_cons imp_str imp_int (impp_cons imp_str imp_int (impp_cons imp_str (imp_lc (W1 := fun _ _ _ _ => False) (W2 := fun _ _ _ _ => False) (imp_iR1 (imp_cons imp_var imp_nil)) (impg_name) imp_yes imp_int (by decide)) (impp_cons imp_str (imp_lc (W1 := fun _ _ _ _ => False) (W2 := fun _ _ _ _ => False) (imp_iR1 (imp_cons imp_var imp_nil)) (impg_name) imp_yes imp_int (by decide)) (impp_cons imp_str (imp_lc (W1 := fun _ _ _ _ => False) (W2 := fun _ _ _ _ => False) (imp_iR1 (imp_cons imp_var imp_nil)) (impg_name) imp_yes imp_int (by decide)) (impp_cons imp_str (imp_lc (W1 := fun _ _ _ _ => False) (W2 := fun _ _ _ _ => False) (imp_iR1 (imp_cons imp_var imp_nil)) (impg_name) imp_yes imp_bl (by decide)) impp_nil)))))))))⟩
theorem ok_l_chooser_new (T : TX K mg) : DefOk P w K mg base (1) "_law_chooser_new" ["_law_kind", "_law_many"] [] (Mi.spF K f_l_chooser_new) := by
  obtain ⟨fd, F, h⟩ := fn_l_chooser_new (P := P) (w := w) (base := base) T
  exact DefOk.of F (gl_l_chooser_new T) (F.bindsN fun _ _ _ _ _ _ us hl => match us, hl with | [_, _], _ => rfl) h
theorem sc_l_chooser_tell : FnScope ["_law_plain", "_law_what", "_law_frame"] ["_law_plain", "_law_what", "_law_frame"] (defScope s_l_chooser_tell) := ⟨rfl, rfl, rfl, by decide +kernel, rfl, by decide +kernel, by decide +kernel⟩
@[irreducible] noncomputable def f_l_chooser_tell : List Mi.D → Mi.Sto → Mi.R Mi.D := Mi.defX 3 0 (xSeq (xDPut (xVar 0) (xC (.str "time")) (xOp (oI fun i j => .int (i + j)) (xDGet (xVar 0) (xC (.str "time"))) (xC (.int 1))))
      (xSeq (xAsg (xOp oNeS (xVar 1) (xC (.str "emptied"))) (gSubX (xDGet (xVar 0) (xC (.str "full"))) (xVar 2)))
      (xSeq (xAsg (xCB bInt (xCons (xOp oNeS (xVar 1) (xC (.str "emptied"))) xNil)) (gSubX (xDGet (xVar 0) (xC (.str "bits"))) (xVar 2)))
      (xSeq (xIfS (xB (xOp oNeS (xVar 1) (xC (.str "emptied")))) (xAsg (xDGet (xVar 0) (xC (.str "time"))) (gSubX (xDGet (xVar 0) (xC (.str "used"))) (xVar 2))) xNext)
      (xIfS (xB (xOp oEqS (xVar 1) (xC (.str "filled")))) (xAsg (xDGet (xVar 0) (xC (.str "time"))) (gSubX (xDGet (xVar 0) (xC (.str "filled"))) (xVar 2))) xNext)))))
theorem f_l_chooser_tell_eq : f_l_chooser_tell = Mi.defX 3 0 (xSeq (xDPut (xVar 0) (xC (.str "time")) (xOp (oI fun i j => .int (i + j)) (xDGet (xVar 0) (xC (.str "time"))) (xC (.int 1))))
      (xSeq (xAsg (xOp oNeS (xVar 1) (xC (.str "emptied"))) (gSubX (xDGet (xVar 0) (xC (.str "full"))) (xVar 2)))
      (xSeq (xAsg (xCB bInt (xCons (xOp oNeS (xVar 1) (xC (.str "emptied"))) xNil)) (gSubX (xDGet (xVar 0) (xC (.str "bits"))) (xVar 2)))
      (xSeq (xIfS (xB (xOp oNeS (xVar 1) (xC (.str "emptied")))) (xAsg (xDGet (xVar 0) (xC (.str "time"))) (gSubX (xDGet (xVar 0) (xC (.str "used"))) (xVar 2))) xNext)
      (xIfS (xB (xOp oEqS (xVar 1) (xC (.str "filled")))) (xAsg (xDGet (xVar 0) (xC (.str "time"))) (gSubX (xDGet (xVar 0) (xC (.str "filled"))) (xVar 2))) xNext))))) := by with_unfolding_all rfl
theorem fn_l_chooser_tell (T : TX K mg) : ∃ fd, FunD K "_law_chooser_tell" "_law_chooser_tell" (defArgs s_l_chooser_tell) (defBody s_l_chooser_tell) (defScope s_l_chooser_tell) [] [] (He.ga K "_law_chooser_tell") fd ∧ FnOk P w K mg base CX0 (1) (He.ga K "_law_chooser_tell") fd ["_law_plain", "_law_what", "_law_frame"] (Mi.spF K f_l_chooser_tell) := by
  rw [f_l_chooser_tell_eq]
  obtain ⟨fd, F⟩ := fd_l_chooser_tell T
  refine ⟨fd, F, My.FunD.ok0 F sc_l_chooser_tell (Mi.spF_len rfl) (fun cdv A outer s0 H vs Q E hr h => ?_)⟩
  have hu := hu_of hr
  exact ⟨_, (pss_cons (ps_dput hu (pv 0) pe_str (pe_op op_add (pe_dget hu (pv 0) pe_str (fun _ _ => rfl)) pe_int) rfl)
      (pss_cons (ps_asg (pe_cmpR op_ne (pv 1) pe_str (nomark _)) (pg_sub (pe_dget hu (pv 0) pe_str (fun _ _ => rfl)) (pv 2) set_list))
      (pss_cons (ps_asg (pe_callTy call_int1 (by rfl) (fr_int T) (by decide +kernel) (pa_cons (pe_cmpR op_ne (pv 1) pe_str (nomark _)) pa_nil)) (pg_sub (pe_dget hu (pv 0) pe_str (fun _ _ => rfl)) (pv 2) set_list))
      (pss_cons (ps_if (pt_cmpR op_ne (pv 1) pe_str (nomark _)) (pss_one (ps_asg (pe_dget hu (pv 0) pe_str (fun _ _ => rfl)) (pg_sub (pe_dget hu (pv 0) pe_str (fun _ _ => rfl)) (pv 2) set_list))) pss_nil)
      (pss_one (ps_if (pt_cmpR op_eq (pv 1) pe_str (nomark _)) (pss_one (ps_asg (pe_dget hu (pv 0) pe_str (fun _ _ => rfl)) (pg_sub (pe_dget hu (pv 0) pe_str (fun _ _ => rfl)) (pv 2) set_list))) pss_nil)))))),
    Mi.body_of (K := K) (E := E) (m := 3) (k := 0) (N := ["_law_plain", "_law_what", "_law_frame"]) rfl h (imp_seq (imp_dput imp_var imp_str (imp_op opi_add (imp_dget imp_var imp_str) imp_int)) (imp_seq (imp_asg (imp_op opi_neS imp_var imp_str) (impg_sub (W1 := fun _ _ _ _ => False) (imp_dget imp_var imp_str) imp_var)) (imp_seq (imp_asg (imp_cb cbi_int (imp_cons (imp_op opi_neS imp_var imp_str) imp_nil)) (impg_sub (W1 := fun _ _ _ _ => False) (imp_dget imp_var imp_str) imp_var)) (imp_seq (imp_ifS (imp_test (imp_op opi_neS imp_var imp_str)) (imp_asg (imp_dget imp_var imp_str) (impg_sub (W1 := fun _ _ _ _ => False) (imp_dget imp_var imp_str) imp_var)) imp_next) (imp_ifS (imp_test (imp_op opi_eqS imp_var imp_str)) (imp_asg (imp_dget imp_var imp_str) (impg_sub (W1 := fun _ _ _ _ => False) (imp_dget imp_var imp_str) imp_var)) imp_next)))))⟩
theorem ok_l_chooser_tell (T : TX K mg) : DefOk P w K mg base (1) "_law_chooser_tell" ["_law_plain", "_law_what", "_law_frame"] [] (Mi.spF K f_l_chooser_tell) := by
  obtain ⟨fd, F, h⟩ := fn_l_chooser_tell (P := P) (w := w) (base := base) T
  exact DefOk.of F (gl_l_chooser_tell T) (F.bindsN fun _ _ _ _ _ _ us hl => match us, hl with | [_, _, _], _ => rfl) h
theorem sc_l_chooser_pick : FnScope ["_law_plain", "_law_allowed", "_law_step", "_law_frame", "_law_ages", "_law_best"] ["_law_plain", "_law_allowed"] (defScope s_l_chooser_pick) := ⟨rfl, rfl, rfl, by decide +kernel, rfl, by decide +kernel, by decide +kernel⟩
noncomputable def f_l_chooser_pick_t1 : Mi.Env → Mi.Sto → Mi.R Bool := (xAnd (xB (xOp (oIn false) (xVar 3) (xVar 1))) (xB (xOp oEqS (xOp oIxL (xDGet (xVar 0) (xC (.str "bits"))) (xVar 3)) (xC (.int 0)))))
noncomputable def f_l_chooser_pick_b1 : Mi.Env → Mi.Sto → Mi.RS := (xSeq (xAsg (xDGet (xVar 0) (xC (.str "under"))) (gNameX 3))
      (xSeq (xDPut (xVar 0) (xC (.str "under")) (xOp (oIC (fun _ j => 0 < j) fun i j => .int (i % j)) (xCB bInt (xCons (xOp (oI fun i j => .int (i + j)) (xVar 3) (xC (.int 1))) xNil)) (xCB bLen (xCons (xDGet (xVar 0) (xC (.str "bits"))) xNil))))
      (xSeq (xIfS f_l_chooser_pick_t1 (xRet (xVar 3)) xNext)
      (xIfS (xB (xOp (oIn false) (xVar 3) (xVar 1))) (xAsg (xC (.int 0)) (gSubX (xDGet (xVar 0) (xC (.str "bits"))) (xVar 3))) xNext))))
noncomputable def f_l_chooser_pick_l1 : Mi.Env → Mi.Sto → Mi.RS := (xFor (iR1 (xCons (xOp (oIC CMul fun i j => .int (i * j)) (xC (.int 2)) (xCB bLen (xCons (xDGet (xVar 0) (xC (.str "bits"))) xNil))) xNil)) (gNameX 2) f_l_chooser_pick_b1)
@[irreducible] noncomputable def f_l_chooser_pick : List Mi.D → Mi.Sto → Mi.R Mi.D := Mi.defX 2 4 (xSeq (xIfS (xB (xOp oEqS (xDGet (xVar 0) (xC (.str "kind"))) (xC (.str "clock")))) f_l_chooser_pick_l1 xNext)
      (xSeq xNever
      (xSeq xNever
      (xSeq xNever
      (xSeq xNever
      xNever)))))
theorem f_l_chooser_pick_eq : f_l_chooser_pick = Mi.defX 2 4 (xSeq (xIfS (xB (xOp oEqS (xDGet (xVar 0) (xC (.str "kind"))) (xC (.str "clock")))) f_l_chooser_pick_l1 xNext)
      (xSeq xNever
      (xSeq xNever
      (xSeq xNever
      (xSeq xNever
      xNever))))) := by with_unfolding_all rfl
theorem fn_l_chooser_pick (T : TX K mg) : ∃ fd, FunD K "_law_chooser_pick" "_law_chooser_pick" (defArgs s_l_chooser_pick) (defBody s_l_chooser_pick) (defScope s_l_chooser_pick) [] [] (He.ga K "_law_chooser_pick") fd ∧ FnOk P w K mg base CX0 (1) (He.ga K "_law_chooser_pick") fd ["_law_plain", "_law_allowed"] (Mi.spF K f_l_chooser_pick) := by
  rw [f_l_chooser_pick_eq]
  obtain ⟨fd, F⟩ := fd_l_chooser_pick T
  refine ⟨fd, F, My.FunD.ok0 F sc_l_chooser_pick (Mi.spF_len rfl) (fun cdv A outer s0 H vs Q E hr h => ?_)⟩
  have hu := hu_of hr
  exact ⟨_, (pss_cons (ps_if (pt_cmpR op_eq (pe_dget hu (pv 0) pe_str (fun _ _ => rfl)) pe_str (nomark _)) (pss_one (ps_for PassesOwn.never rfl (pi_range1 rfl (fr_range T) (pa_cons (pe_op op_mul pe_int (pe_callB (lenQ K) (by rfl) (fr_len T) PySem.boot_len (pa_cons (pe_dget hu (pv 0) pe_str (fun _ _ => rfl)) pa_nil))) pa_nil)) (pg_name (i := 2) sc_l_chooser_pick.nd rfl (Or.inl rfl)) (pss_cons (ps_set (i := 3) sc_l_chooser_pick.nd rfl (Or.inl rfl) (pe_dget hu (pv 0) pe_str (fun _ _ => rfl)))
      (pss_cons (ps_dput hu (pv 0) pe_str (pe_op op_mod (pe_callTy call_int1 (by rfl) (fr_int T) (by decide +kernel) (pa_cons (pe_op op_add (pv 3) pe_int) pa_nil)) (pe_callB (lenQ K) (by rfl) (fr_len T) PySem.boot_len (pa_cons (pe_dget hu (pv 0) pe_str (fun _ _ => rfl)) pa_nil))) rfl)
      (pss_cons (ps_if (PW.pt (pw_and (pt_cmpR (inQ K) (pv 3) (pv 1) rfl) (pw_and1 (pt_cmpR op_eq (pe_ix (ixL K) (pe_dget hu (pv 0) pe_str (fun _ _ => rfl)) (pv 3) (fun _ _ => rfl)) pe_int (nomark _))))) (pss_one (ps_ret (pv 3))) pss_nil)
      (pss_one (ps_if (pt_cmpR (inQ K) (pv 3) (pv 1) rfl) (pss_one (ps_asg pe_int (pg_sub (pe_dget hu (pv 0) pe_str (fun _ _ => rfl)) (pv 3) set_list))) pss_nil))))))) pss_nil)
      (pss_cons ps_never
      (pss_cons ps_never
      (pss_cons ps_never
      (pss_cons ps_never
      (pss_one ps_never)))))),
    Mi.body_of (K := K) (E := E) (m := 2) (k := 4) (N := ["_law_plain", "_law_allowed", "_law_step", "_law_frame", "_law_ages", "_law_best"]) rfl h (imp_seq (imp_ifS (imp_test (imp_op opi_eqS (imp_dget imp_var imp_str) imp_str)) (imp_for (imp_iR1 (imp_cons (imp_op opi_mul imp_int (imp_cb cbi_len (imp_cons (imp_dget imp_var imp_str) imp_nil))) imp_nil)) (impg_name) (imp_seq (imp_asg (imp_dget imp_var imp_str) impg_name) (imp_seq (imp_dput imp_var imp_str (imp_op opi_mod (imp_cb cbi_int (imp_cons (imp_op opi_add imp_var imp_int) imp_nil)) (imp_cb cbi_len (imp_cons (imp_dget imp_var imp_str) imp_nil)))) (imp_seq (imp_ifS (imp_and (imp_test (imp_op opi_in imp_var imp_var)) (imp_test (imp_op opi_eqS (imp_op opi_ixL (imp_dget imp_var imp_str) imp_var) imp_int))) (imp_ret imp_var) imp_next) (imp_ifS (imp_test (imp_op opi_in imp_var imp_var)) (imp_asg imp_int (impg_sub (W1 := fun _ _ _ _ => False) (imp_dget imp_var imp_str) imp_var)) imp_next))))) imp_next) (imp_seq imp_never (imp_seq imp_never (imp_seq imp_never (imp_seq imp_never imp_never)))))⟩
theorem ok_l_chooser_pick (T : TX K mg) : DefOk P w K mg base (1) "_law_chooser_pick" ["_law_plain", "_law_allowed"] [] (Mi.spF K f_l_chooser_pick) := by
  obtain ⟨fd, F, h⟩ := fn_l_chooser_pick (P := P) (w := w) (base := base) T
  exact DefOk.of F (gl_l_chooser_pick T) (F.bindsN fun _ _ _ _ _ _ us hl => match us, hl with | [_, _], _ => rfl) h
theorem sc_l_chooser_told : FnScope ["_law_bureau", "_law_plain", "_law_what", "_law_frame"] ["_law_bureau", "_law_plain", "_law_what", "_law_frame"] (defScope s_l_chooser_told) := ⟨rfl, rfl, rfl, by decide +kernel, rfl, by decide +kernel, by decide +kernel⟩
@[irreducible] noncomputable def f_l_chooser_told : List Mi.D → Mi.Sto → Mi.R Mi.D := Mi.defX 4 0 (xSeq (xDrop (xCall f_l_chooser_tell (xCons (xVar 1) (xCons (xVar 2) (xCons (xVar 3) xNil)))))
      (xSeq (xIfS (xB (xOp oEqS (xVar 2) (xC (.str "filled")))) (xRet (xIsN (xMeth "Chooser" "filled" f_Chooser_filled (xVar 0) (xCons (xVar 3) xNil)))) xNext)
      (xSeq (xIfS (xB (xOp oEqS (xVar 2) (xC (.str "touched")))) (xRet (xIsN (xMeth "Chooser" "touched" f_Chooser_touched (xVar 0) (xCons (xVar 3) xNil)))) xNext)
      (xRet (xIsN (xMeth "Chooser" "emptied" f_Chooser_emptied (xVar 0) (xCons (xVar 3) xNil)))))))
theorem f_l_chooser_told_eq : f_l_chooser_told = Mi.defX 4 0 (xSeq (xDrop (xCall f_l_chooser_tell (xCons (xVar 1) (xCons (xVar 2) (xCons (xVar 3) xNil)))))
      (xSeq (xIfS (xB (xOp oEqS (xVar 2) (xC (.str "filled")))) (xRet (xIsN (xMeth "Chooser" "filled" f_Chooser_filled (xVar 0) (xCons (xVar 3) xNil)))) xNext)
      (xSeq (xIfS (xB (xOp oEqS (xVar 2) (xC (.str "touched")))) (xRet (xIsN (xMeth "Chooser" "touched" f_Chooser_touched (xVar 0) (xCons (xVar 3) xNil)))) xNext)
      (xRet (xIsN (xMeth "Chooser" "emptied" f_Chooser_emptied (xVar 0) (xCons (xVar 3) xNil))))))) := by with_unfolding_all rfl
theorem fn_l_chooser_told (T : TX K mg) : ∃ fd, FunD K "_law_chooser_told" "_law_chooser_told" (defArgs s_l_chooser_told) (defBody s_l_chooser_told) (defScope s_l_chooser_told) [] [] (He.ga K "_law_chooser_told") fd ∧ FnOk P w K mg base CX0 (3) (He.ga K "_law_chooser_told") fd ["_law_bureau", "_law_plain", "_law_what", "_law_frame"] (Mi.spF K f_l_chooser_told) := by
  rw [f_l_chooser_told_eq]
  obtain ⟨fd, F⟩ := fd_l_chooser_told T
  refine ⟨fd, F, My.FunD.ok0 F sc_l_chooser_told (Mi.spF_len rfl) (fun cdv A outer s0 H vs Q E hr h => ?_)⟩
  have hu := hu_of hr
  exact ⟨_, (pss_cons (ps_expr (pe_callN (ok_l_chooser_tell (P := P) (w := w) (base := base) T) hr (pa_cons (pv 1) (pa_cons (pv 2) (pa_cons (pv 3) pa_nil)))))
      (pss_cons (ps_if (pt_cmpR op_eq (pv 2) pe_str (nomark _)) (pss_one (ps_ret (pe_cmp (pc_isN (pe_methN (ok_Chooser_filled (P := P) (w := w) (base := base) T) (pv 0) hr (pa_cons (pv 3) pa_nil))) rfl))) pss_nil)
      (pss_cons (ps_if (pt_cmpR op_eq (pv 2) pe_str (nomark _)) (pss_one (ps_ret (pe_cmp (pc_isN (pe_methN (ok_Chooser_touched (P := P) (w := w) (base := base) T) (pv 0) hr (pa_cons (pv 3) pa_nil))) rfl))) pss_nil)
      (pss_one (ps_ret (pe_cmp (pc_isN (pe_methN (ok_Chooser_emptied (P := P) (w := w) (base := base) T) (pv 0) hr (pa_cons (pv 3) pa_nil))) rfl)))))),
    Mi.body_of (K := K) (E := E) (m := 4) (k := 0) (N := ["_law_bureau", "_law_plain", "_law_what", "_law_frame"]) rfl h (imp_seq (imp_drop (imp_call (imp_cons imp_var (imp_cons imp_var (imp_cons imp_var imp_nil))))) (imp_seq (imp_ifS (imp_test (imp_op opi_eqS imp_var imp_str)) (imp_ret (imp_isN (imp_meth imp_var (imp_cons imp_var imp_nil)))) imp_next) (imp_seq (imp_ifS (imp_test (imp_op opi_eqS imp_var imp_str)) (imp_ret (imp_isN (imp_meth imp_var (imp_cons imp_var imp_nil)))) imp_next) (imp_ret (imp_isN (imp_meth imp_var (imp_cons imp_var imp_nil)))))))⟩
theorem ok_l_chooser_told (T : TX K mg) : DefOk P w K mg base (3) "_law_chooser_told" ["_law_bureau", "_law_plain", "_law_what", "_law_frame"] [] (Mi.spF K f_l_chooser_told) := by
  obtain ⟨fd, F, h⟩ := fn_l_chooser_told (P := P) (w := w) (base := base) T
  exact DefOk.of F (gl_l_chooser_told T) (F.bindsN fun _ _ _ _ _ _ us hl => match us, hl with | [_, _, _, _], _ => rfl) h
theorem sc_l_chooser_call : FnScope ["_law_script", "_law_at", "_law_bureau", "_law_plain", "_law_full", "_law_k", "_law_empty", "_law_kind", "_law_pool", "_law_allowed", "_law_chosen", "_law_turn", "_law_handed", "_law_told"] ["_law_script", "_law_at", "_law_bureau", "_law_plain"] (defScope s_l_chooser_call) := ⟨rfl, rfl, rfl, by decide +kernel, rfl, by decide +kernel, by decide +kernel⟩
noncomputable def f_l_chooser_call_c1 : Mi.Env → Mi.Sto → Mi.R Mi.D := (xLc (iR1 (xCons (xCB bLen (xCons (xDGet (xVar 3) (xC (.str "full"))) xNil)) xNil)) (gNameX 5) (xB (xOp oIxL (xDGet (xVar 3) (xC (.str "full"))) (xVar 5))) (xVar 5) [5])
noncomputable def f_l_chooser_call_c2 : Mi.Env → Mi.Sto → Mi.R Mi.D := (xLc (iR1 (xCons (xCB bLen (xCons (xDGet (xVar 3) (xC (.str "full"))) xNil)) xNil)) (gNameX 5) (xNot (xB (xOp oIxL (xDGet (xVar 3) (xC (.str "full"))) (xVar 5)))) (xVar 5) [5])
noncomputable def f_l_chooser_call_t1 : Mi.Env → Mi.Sto → Mi.R Bool := (xAnd (xB (xOp (oI fun i j => .bl (decide (j < i))) (xCB bLen (xCons (xVar 6) xNil)) (xC (.int 0)))) (xOr (xB (xOp (oI fun i j => .bl (decide (i < j))) (xVar 7) (xC (.int 4)))) (xB (xOp oEqS (xCB bLen (xCons (xVar 4) xNil)) (xC (.int 0))))))
noncomputable def f_l_chooser_call_t2 : Mi.Env → Mi.Sto → Mi.R Bool := (xOr (xB (xOp (oI fun i j => .bl (decide (i < j))) (xVar 7) (xC (.int 5)))) (xB (xOp oEqS (xVar 7) (xC (.int 9)))))
noncomputable def f_l_chooser_call_b1 : Mi.Env → Mi.Sto → Mi.RS := (xDrop (xBM (mL gAppend) (xVar 9) (xCons (xBM (mL gPopAt) (xVar 8) (xCons (xCall fNumber (xCons (xVar 0) (xCons (xVar 1) (xCons (xOp (oI fun i j => .int (i + j)) (xC (.int 3)) (xOp (oIC (fun _ j => 0 < j) fun i j => .int (i % j)) (xCB bInt (xCons (xVar 5) xNil)) (xC (.int 8)))) (xCons (xCB bLen (xCons (xVar 8) xNil)) xNil))))) xNil)) xNil)))
noncomputable def f_l_chooser_call_l1 : Mi.Env → Mi.Sto → Mi.RS := (xFor (iR1 (xCons (xOp (oI fun i j => .int (i + j)) (xC (.int 1)) (xCall fNumber (xCons (xVar 0) (xCons (xVar 1) (xCons (xC (.int 1)) (xCons (xCB bLen (xCons (xVar 4) xNil)) xNil)))))) xNil)) (gNameX 5) f_l_chooser_call_b1)
noncomputable def f_l_chooser_call_t3 : Mi.Env → Mi.Sto → Mi.R Bool := (xOr (xNot (xB (xCall fWhole (xCons (xVar 13) xNil)))) (xOr (xB (xOp oNeS (xVar 13) (xVar 10))) (xB (xOp (oEqD true) (xVar 12) (xVar 9)))))
noncomputable def f_l_chooser_call_b2 : Mi.Env → Mi.Sto → Mi.RS := (xSeq (xAsg (xCB bList (xCons (xVar 9) xNil)) (gNameX 12))
      (xSeq (xAsg (xMeth "Chooser" "choose" f_Chooser_choose (xVar 2) (xCons (xVar 12) xNil)) (gNameX 13))
      (xSeq (xIfS f_l_chooser_call_t3 (xRet (xC (.bl false))) xNext)
      (xDrop (xBM (mL gClear) (xVar 12) xNil)))))
noncomputable def f_l_chooser_call_l2 : Mi.Env → Mi.Sto → Mi.RS := (xFor (iR1 (xCons (xOp (oI fun i j => .int (i + j)) (xC (.int 1)) (xCB bInt (xCons (xOp oNeS (xDGet (xVar 3) (xC (.str "kind"))) (xC (.str "clock"))) xNil))) xNil)) (gNameX 11) f_l_chooser_call_b2)
@[irreducible] noncomputable def f_l_chooser_call : List Mi.D → Mi.Sto → Mi.R Mi.D := Mi.defX 4 10 (xSeq (xAsg f_l_chooser_call_c1 (gNameX 4))
      (xSeq (xAsg f_l_chooser_call_c2 (gNameX 6))
      (xSeq (xAsg (xCall fNumber (xCons (xVar 0) (xCons (xVar 1) (xCons (xC (.int 2)) (xCons (xC (.int 10)) xNil))))) (gNameX 7))
      (xSeq (xIfS f_l_chooser_call_t1 (xRet (xCall f_l_chooser_told (xCons (xVar 2) (xCons (xVar 3) (xCons (xC (.str "filled")) (xCons (xOp oIxL (xVar 6) (xCall fNumber (xCons (xVar 0) (xCons (xVar 1) (xCons (xC (.int 1)) (xCons (xCB bLen (xCons (xVar 6) xNil)) xNil)))))) xNil)))))) xNext)
      (xSeq (xIfS f_l_chooser_call_t2 (xRet (xCall f_l_chooser_told (xCons (xVar 2) (xCons (xVar 3) (xCons (xC (.str "touched")) (xCons (xOp oIxL (xVar 4) (xCall fNumber (xCons (xVar 0) (xCons (xVar 1) (xCons (xC (.int 1)) (xCons (xCB bLen (xCons (xVar 4) xNil)) xNil)))))) xNil)))))) xNext)
      (xSeq (xIfS (xB (xOp oEqS (xVar 7) (xC (.int 8)))) (xRet (xCall f_l_chooser_told (xCons (xVar 2) (xCons (xVar 3) (xCons (xC (.str "emptied")) (xCons (xOp oIxL (xVar 4) (xCall fNumber (xCons (xVar 0) (xCons (xVar 1) (xCons (xC (.int 1)) (xCons (xCB bLen (xCons (xVar 4) xNil)) xNil)))))) xNil)))))) xNext)
      (xSeq (xAsg (xCB bList (xCons (xVar 4) xNil)) (gNameX 8))
      (xSeq (xAsg (xLst xNil) (gNameX 9))
      (xSeq f_l_chooser_call_l1
      (xSeq (xAsg (xCall f_l_chooser_pick (xCons (xVar 3) (xCons (xVar 9) xNil))) (gNameX 10))
      (xSeq f_l_chooser_call_l2
      (xSeq (xIfS (xB (xOp oEqS (xCall fNumber (xCons (xVar 0) (xCons (xVar 1) (xCons (xC (.int 12)) (xCons (xC (.int 2)) xNil))))) (xC (.int 0)))) (xRet (xCall f_l_chooser_told (xCons (xVar 2) (xCons (xVar 3) (xCons (xC (.str "emptied")) (xCons (xVar 10) xNil)))))) xNext)
      (xRet (xC (.bl true)))))))))))))))
theorem f_l_chooser_call_eq : f_l_chooser_call = Mi.defX 4 10 (xSeq (xAsg f_l_chooser_call_c1 (gNameX 4))
      (xSeq (xAsg f_l_chooser_call_c2 (gNameX 6))
      (xSeq (xAsg (xCall fNumber (xCons (xVar 0) (xCons (xVar 1) (xCons (xC (.int 2)) (xCons (xC (.int 10)) xNil))))) (gNameX 7))
      (xSeq (xIfS f_l_chooser_call_t1 (xRet (xCall f_l_chooser_told (xCons (xVar 2) (xCons (xVar 3) (xCons (xC (.str "filled")) (xCons (xOp oIxL (xVar 6) (xCall fNumber (xCons (xVar 0) (xCons (xVar 1) (xCons (xC (.int 1)) (xCons (xCB bLen (xCons (xVar 6) xNil)) xNil)))))) xNil)))))) xNext)
      (xSeq (xIfS f_l_chooser_call_t2 (xRet (xCall f_l_chooser_told (xCons (xVar 2) (xCons (xVar 3) (xCons (xC (.str "touched")) (xCons (xOp oIxL (xVar 4) (xCall fNumber (xCons (xVar 0) (xCons (xVar 1) (xCons (xC (.int 1)) (xCons (xCB bLen (xCons (xVar 4) xNil)) xNil)))))) xNil)))))) xNext)
      (xSeq (xIfS (xB (xOp oEqS (xVar 7) (xC (.int 8)))) (xRet (xCall f_l_chooser_told (xCons (xVar 2) (xCons (xVar 3) (xCons (xC (.str "emptied")) (xCons (xOp oIxL (xVar 4) (xCall fNumber (xCons (xVar 0) (xCons (xVar 1) (xCons (xC (.int 1)) (xCons (xCB bLen (xCons (xVar 4) xNil)) xNil)))))) xNil)))))) xNext)
      (xSeq (xAsg (xCB bList (xCons (xVar 4) xNil)) (gNameX 8))
      (xSeq (xAsg (xLst xNil) (gNameX 9))
      (xSeq f_l_chooser_call_l1
      (xSeq (xAsg (xCall f_l_chooser_pick (xCons (xVar 3) (xCons (xVar 9) xNil))) (gNameX 10))
      (xSeq f_l_chooser_call_l2
      (xSeq (xIfS (xB (xOp oEqS (xCall fNumber (xCons (xVar 0) (xCons (xVar 1) (xCons (xC (.int 12)) (xCons (xC (.int 2)) xNil))))) (xC (.int 0)))) (xRet (xCall f_l_chooser_told (xCons (xVar 2) (xCons (xVar 3) (xCons (xC (.str "emptied")) (xCons (xVar 10) xNil)))))) xNext)
      (xRet (xC (.bl true))))))))))))))) := by with_unfolding_all rfl
theorem fn_l_chooser_call (T : TX K mg) : ∃ fd, FunD K "_law_chooser_call" "_law_chooser_call" (defArgs s_l_chooser_call) (defBody s_l_chooser_call) (defScope s_l_chooser_call) [] [] (He.ga K "_law_chooser_call") fd ∧ FnOk P w K mg base CX0 (6) (He.ga K "_law_chooser_call") fd ["_law_script", "_law_at", "_law_bureau", "_law_plain"] (Mi.spF K f_l_chooser_call) := by
  rw [f_l_chooser_call_eq]
  obtain ⟨fd, F⟩ := fd_l_chooser_call T
  refine ⟨fd, F, My.FunD.ok0 F sc_l_chooser_call (Mi.spF_len rfl) (fun cdv A outer s0 H vs Q E hr h => ?_)⟩
  have hu := hu_of hr
  exact ⟨_, (pss_cons (ps_setLc (i := 4) (own := [("_law_k", 5)]) rfl sc_l_chooser_call.nd rfl rfl (sw_true rfl rfl rfl (by decide +kernel)) (pi_range1 rfl (fr_range T) (pa_cons (pe_callB (lenQ K) (by rfl) (fr_len T) PySem.boot_len (pa_cons (pe_dget hu (pv 3) pe_str (fun _ _ => rfl)) pa_nil)) pa_nil)) (blkOk_by (own := [("_law_k", 5)]) (N := ["_law_script", "_law_at", "_law_bureau", "_law_plain", "_law_full", "_law_k", "_law_empty", "_law_kind", "_law_pool", "_law_allowed", "_law_chosen", "_law_turn", "_law_handed", "_law_told"]) (sc := defScope s_l_chooser_call) (by decide +kernel)) (fun _ _ _ _ _ => (pg_name (i := 5) sc_l_chooser_call.nd rfl (Or.inl rfl))) (fun _ _ _ _ _ => (pts_one (pt_val (pe_ix (ixL K) (pe_dget hu (pv 3) pe_str (fun _ _ => rfl)) (pv 5) (fun _ _ => rfl))))) (fun _ _ _ _ _ => (pv 5)))
      (pss_cons (ps_setLc (i := 6) (own := [("_law_k", 5)]) rfl sc_l_chooser_call.nd rfl rfl (sw_true rfl rfl rfl (by decide +kernel)) (pi_range1 rfl (fr_range T) (pa_cons (pe_callB (lenQ K) (by rfl) (fr_len T) PySem.boot_len (pa_cons (pe_dget hu (pv 3) pe_str (fun _ _ => rfl)) pa_nil)) pa_nil)) (blkOk_by (own := [("_law_k", 5)]) (N := ["_law_script", "_law_at", "_law_bureau", "_law_plain", "_law_full", "_law_k", "_law_empty", "_law_kind", "_law_pool", "_law_allowed", "_law_chosen", "_law_turn", "_law_handed", "_law_told"]) (sc := defScope s_l_chooser_call) (by decide +kernel)) (fun _ _ _ _ _ => (pg_name (i := 5) sc_l_chooser_call.nd rfl (Or.inl rfl))) (fun _ _ _ _ _ => (pts_one (pt_not (pt_val (pe_ix (ixL K) (pe_dget hu (pv 3) pe_str (fun _ _ => rfl)) (pv 5) (fun _ _ => rfl)))))) (fun _ _ _ _ _ => (pv 5)))
      (pss_cons (ps_set (i := 7) sc_l_chooser_call.nd rfl (Or.inl rfl) (pe_callN (okm_l_number (P := P) (w := w) (base := base) T) hr (pa_cons (pv 0) (pa_cons (pv 1) (pa_cons pe_int (pa_cons pe_int pa_nil))))))
      (pss_cons (ps_if (PW.pt (pw_and (pt_cmpR op_gt (pe_callB (lenQ K) (by rfl) (fr_len T) PySem.boot_len (pa_cons (pv 6) pa_nil)) pe_int (nomark _)) (pw_and1 (PW.pt (pw_or (pt_cmpR op_lt (pv 7) pe_int (nomark _)) (pw_or1 (pt_cmpR op_eq (pe_callB (lenQ K) (by rfl) (fr_len T) PySem.boot_len (pa_cons (pv 4) pa_nil)) pe_int (nomark _)))))))) (pss_one (ps_ret (pe_callN (ok_l_chooser_told (P := P) (w := w) (base := base) T) hr (pa_cons (pv 2) (pa_cons (pv 3) (pa_cons pe_str (pa_cons (pe_ix (ixL K) (pv 6) (pe_callN (okm_l_number (P := P) (w := w) (base := base) T) hr (pa_cons (pv 0) (pa_cons (pv 1) (pa_cons pe_int (pa_cons (pe_callB (lenQ K) (by rfl) (fr_len T) PySem.boot_len (pa_cons (pv 6) pa_nil)) pa_nil))))) (fun _ _ => rfl)) pa_nil))))))) pss_nil)
      (pss_cons (ps_if (PW.pt (pw_or (pt_cmpR op_lt (pv 7) pe_int (nomark _)) (pw_or1 (pt_cmpR op_eq (pv 7) pe_int (nomark _))))) (pss_one (ps_ret (pe_callN (ok_l_chooser_told (P := P) (w := w) (base := base) T) hr (pa_cons (pv 2) (pa_cons (pv 3) (pa_cons pe_str (pa_cons (pe_ix (ixL K) (pv 4) (pe_callN (okm_l_number (P := P) (w := w) (base := base) T) hr (pa_cons (pv 0) (pa_cons (pv 1) (pa_cons pe_int (pa_cons (pe_callB (lenQ K) (by rfl) (fr_len T) PySem.boot_len (pa_cons (pv 4) pa_nil)) pa_nil))))) (fun _ _ => rfl)) pa_nil))))))) pss_nil)
      (pss_cons (ps_if (pt_cmpR op_eq (pv 7) pe_int (nomark _)) (pss_one (ps_ret (pe_callN (ok_l_chooser_told (P := P) (w := w) (base := base) T) hr (pa_cons (pv 2) (pa_cons (pv 3) (pa_cons pe_str (pa_cons (pe_ix (ixL K) (pv 4) (pe_callN (okm_l_number (P := P) (w := w) (base := base) T) hr (pa_cons (pv 0) (pa_cons (pv 1) (pa_cons pe_int (pa_cons (pe_callB (lenQ K) (by rfl) (fr_len T) PySem.boot_len (pa_cons (pv 4) pa_nil)) pa_nil))))) (fun _ _ => rfl)) pa_nil))))))) pss_nil)
      (pss_cons (ps_set (i := 8) sc_l_chooser_call.nd rfl (Or.inl rfl) (pe_callTy (listQ K) (by rfl) (fr_list T) (by decide +kernel) (pa_cons (pv 4) pa_nil)))
      (pss_cons (ps_set (i := 9) sc_l_chooser_call.nd rfl (Or.inl rfl) (pe_lst pa_nil))
      (pss_cons (ps_for PassesOwn.never rfl (pi_range1 rfl (fr_range T) (pa_cons (pe_op op_add pe_int (pe_callN (okm_l_number (P := P) (w := w) (base := base) T) hr (pa_cons (pv 0) (pa_cons (pv 1) (pa_cons pe_int (pa_cons (pe_callB (lenQ K) (by rfl) (fr_len T) PySem.boot_len (pa_cons (pv 4) pa_nil)) pa_nil)))))) pa_nil)) (pg_name (i := 5) sc_l_chooser_call.nd rfl (Or.inl rfl)) (pss_one (ps_expr (pe_bm PySem.F.plainAttrs_list PySem.F.slot_list_append PySem.F.type_list_append mt_append (pv 9) (pa_cons (pe_bm PySem.F.plainAttrs_list PySem.F.slot_list_pop PySem.F.type_list_pop mt_popAt (pv 8) (pa_cons (pe_callN (okm_l_number (P := P) (w := w) (base := base) T) hr (pa_cons (pv 0) (pa_cons (pv 1) (pa_cons (pe_op op_add pe_int (pe_op op_mod (pe_callTy call_int1 (by rfl) (fr_int T) (by decide +kernel) (pa_cons (pv 5) pa_nil)) pe_int)) (pa_cons (pe_callB (lenQ K) (by rfl) (fr_len T) PySem.boot_len (pa_cons (pv 8) pa_nil)) pa_nil))))) pa_nil)) pa_nil)))))
      (pss_cons (ps_set (i := 10) sc_l_chooser_call.nd rfl (Or.inl rfl) (pe_callN (ok_l_chooser_pick (P := P) (w := w) (base := base) T) hr (pa_cons (pv 3) (pa_cons (pv 9) pa_nil))))
      (pss_cons (ps_for PassesOwn.never rfl (pi_range1 rfl (fr_range T) (pa_cons (pe_op op_add pe_int (pe_callTy call_int1 (by rfl) (fr_int T) (by decide +kernel) (pa_cons (pe_cmpR op_ne (pe_dget hu (pv 3) pe_str (fun _ _ => rfl)) pe_str (nomark _)) pa_nil))) pa_nil)) (pg_name (i := 11) sc_l_chooser_call.nd rfl (Or.inl rfl)) (pss_cons (ps_set (i := 12) sc_l_chooser_call.nd rfl (Or.inl rfl) (pe_callTy (listQ K) (by rfl) (fr_list T) (by decide +kernel) (pa_cons (pv 9) pa_nil)))
      (pss_cons (ps_set (i := 13) sc_l_chooser_call.nd rfl (Or.inl rfl) (pe_methN (ok_Chooser_choose (P := P) (w := w) (base := base) T) (pv 2) hr (pa_cons (pv 12) pa_nil)))
      (pss_cons (ps_if (PW.pt (pw_or (pt_not (pt_val (pe_callN (okm_l_is_whole (P := P) (w := w) (base := base) T) hr (pa_cons (pv 13) pa_nil)))) (pw_or (pt_cmpR op_ne (pv 13) (pv 10) (nomark _)) (pw_or1 (pt_cmpR (neD K hr.units) (pv 12) (pv 9) (nomark _)))))) (pss_one (ps_ret pe_bl)) pss_nil)
      (pss_one (ps_expr (pe_bm0 PySem.F.plainAttrs_list PySem.F.slot_list_clear PySem.F.type_list_clear mt_clear (pv 12))))))))
      (pss_cons (ps_if (pt_cmpR op_eq (pe_callN (okm_l_number (P := P) (w := w) (base := base) T) hr (pa_cons (pv 0) (pa_cons (pv 1) (pa_cons pe_int (pa_cons pe_int pa_nil))))) pe_int (nomark _)) (pss_one (ps_ret (pe_callN (ok_l_chooser_told (P := P) (w := w) (base := base) T) hr (pa_cons (pv 2) (pa_cons (pv 3) (pa_cons pe_str (pa_cons (pv 10) pa_nil))))))) pss_nil)
      (pss_one (ps_ret pe_bl)))))))))))))),
    Mi.body_of (K := K) (E := E) (m := 4) (k := 10) (N := ["_law_script", "_law_at", "_law_bureau", "_law_plain", "_law_full", "_law_k", "_law_empty", "_law_kind", "_law_pool", "_law_allowed", "_law_chosen", "_law_turn", "_law_handed", "_law_told"]) rfl h (imp_seq (imp_asg (imp_lc (W1 := fun _ _ _ _ => False) (W2 := fun _ _ _ _ => False) (imp_iR1 (imp_cons (imp_cb cbi_len (imp_cons (imp_dget imp_var imp_str) imp_nil)) imp_nil)) (impg_name) (imp_tB (imp_op opi_ixL (imp_dget imp_var imp_str) imp_var)) imp_var (by decide)) impg_name) (imp_seq (imp_asg (imp_lc (W1 := fun _ _ _ _ => False) (W2 := fun _ _ _ _ => False) (imp_iR1 (imp_cons (imp_cb cbi_len (imp_cons (imp_dget imp_var imp_str) imp_nil)) imp_nil)) (impg_name) (imp_not (imp_tB (imp_op opi_ixL (imp_dget imp_var imp_str) imp_var))) imp_var (by decide)) impg_name) (imp_seq (imp_asg (imp_call (imp_cons imp_var (imp_cons imp_var (imp_cons imp_int (imp_cons imp_int imp_nil))))) impg_name) (imp_seq (imp_ifS (imp_and (imp_test (imp_op opi_gt (imp_cb cbi_len (imp_cons imp_var imp_nil)) imp_int)) (imp_or (imp_test (imp_op opi_lt imp_var imp_int)) (imp_test (imp_op opi_eqS (imp_cb cbi_len (imp_cons imp_var imp_nil)) imp_int)))) (imp_ret (imp_call (imp_cons imp_var (imp_cons imp_var (imp_cons imp_str (imp_cons (imp_op opi_ixL imp_var (imp_call (imp_cons imp_var (imp_cons imp_var (imp_cons imp_int (imp_cons (imp_cb cbi_len (imp_cons imp_var imp_nil)) imp_nil)))))) imp_nil)))))) imp_next) (imp_seq (imp_ifS (imp_or (imp_test (imp_op opi_lt imp_var imp_int)) (imp_test (imp_op opi_eqS imp_var imp_int))) (imp_ret (imp_call (imp_cons imp_var (imp_cons imp_var (imp_cons imp_str (imp_cons (imp_op opi_ixL imp_var (imp_call (imp_cons imp_var (imp_cons imp_var (imp_cons imp_int (imp_cons (imp_cb cbi_len (imp_cons imp_var imp_nil)) imp_nil)))))) imp_nil)))))) imp_next) (imp_seq (imp_ifS (imp_test (imp_op opi_eqS imp_var imp_int)) (imp_ret (imp_call (imp_cons imp_var (imp_cons imp_var (imp_cons imp_str (imp_cons (imp_op opi_ixL imp_var (imp_call (imp_cons imp_var (imp_cons imp_var (imp_cons imp_int (imp_cons (imp_cb cbi_len (imp_cons imp_var imp_nil)) imp_nil)))))) imp_nil)))))) imp_next) (imp_seq (imp_asg (imp_cb cbi_list (imp_cons imp_var imp_nil)) impg_name) (imp_seq (imp_asg (imp_lst imp_nil) impg_name) (imp_seq (imp_for (imp_iR1 (imp_cons (imp_op opi_add imp_int (imp_call (imp_cons imp_var (imp_cons imp_var (imp_cons imp_int (imp_cons (imp_cb cbi_len (imp_cons imp_var imp_nil)) imp_nil)))))) imp_nil)) (impg_name) (imp_drop (imp_bm mti_append imp_var (imp_cons (imp_bm mti_popAt imp_var (imp_cons (imp_call (imp_cons imp_var (imp_cons imp_var (imp_cons (imp_op opi_add imp_int (imp_op opi_mod (imp_cb cbi_int (imp_cons imp_var imp_nil)) imp_int)) (imp_cons (imp_cb cbi_len (imp_cons imp_var imp_nil)) imp_nil))))) imp_nil)) imp_nil)))) (imp_seq (imp_asg (imp_call (imp_cons imp_var (imp_cons imp_var imp_nil))) impg_name) (imp_seq (imp_for (imp_iR1 (imp_cons (imp_op opi_add imp_int (imp_cb cbi_int (imp_cons (imp_op opi_neS (imp_dget imp_var imp_str) imp_str) imp_nil))) imp_nil)) (impg_name) (imp_seq (imp_asg (imp_cb cbi_list (imp_cons imp_var imp_nil)) impg_name) (imp_seq (imp_asg (imp_meth imp_var (imp_cons imp_var imp_nil)) impg_name) (imp_seq (imp_ifS (imp_or (imp_not (imp_tB (imp_call (imp_cons imp_var imp_nil)))) (imp_or (imp_test (imp_op opi_neS imp_var imp_var)) (imp_test (imp_op opi_neD imp_var imp_var)))) (imp_ret imp_bl) imp_next) (imp_drop (imp_bm0 mti_clear imp_var)))))) (imp_seq (imp_ifS (imp_test (imp_op opi_eqS (imp_call (imp_cons imp_var (imp_cons imp_var (imp_cons imp_int (imp_cons imp_int imp_nil))))) imp_int)) (imp_ret (imp_call (imp_cons imp_var (imp_cons imp_var (imp_cons imp_str (imp_cons imp_var imp_nil)))))) imp_next) (imp_ret imp_bl)))))))))))))⟩
theorem ok_l_chooser_call (T : TX K mg) : DefOk P w K mg base (6) "_law_chooser_call" ["_law_script", "_law_at", "_law_bureau", "_law_plain"] [] (Mi.spF K f_l_chooser_call) := by
  obtain ⟨fd, F, h⟩ := fn_l_chooser_call (P := P) (w := w) (base := base) T
  exact DefOk.of F (gl_l_chooser_call T) (F.bindsN fun _ _ _ _ _ _ us hl => match us, hl with | [_, _, _, _], _ => rfl) h
theorem sc_law : FnScope ["_law_script", "_law_pairs", "_law_one", "_law_many", "_law_at", "_law_pair"] ["_law_script"] (defScope s_law) := ⟨rfl, rfl, rfl, by decide +kernel, rfl, by decide +kernel, by decide +kernel⟩
noncomputable def f_law_b1 : Mi.Env → Mi.Sto → Mi.RS := (xSeq (xAsg (xOp (oI fun i j => .int (i + j)) (xC (.int 1)) (xCall fNumber (xCons (xVar 0) (xCons (xC (.int 0)) (xCons (xOp (oI fun i j => .int (i + j)) (xC (.int 2)) (xVar 2)) (xCons (xC (.int 6)) xNil)))))) (gNameX 3))
      (xSeq (xIfS (xB (xOp oEqS (xCall fNumber (xCons (xVar 0) (xCons (xC (.int 0)) (xCons (xOp (oI fun i j => .int (i + j)) (xC (.int 4)) (xVar 2)) (xCons (xC (.int 8)) xNil))))) (xC (.int 0)))) (xAsg (xOp (oI fun i j => .int (i + j)) (xC (.int 62)) (xVar 3)) (gNameX 3)) xNext)
      (xDrop (xBM (mL gAppend) (xVar 1) (xCons (xLst (xCons (xMake "Chooser" f_Chooser___init__ (xCons (xC (.str "clock")) (xCons (xVar 3) xNil))) (xCons (xCall f_l_chooser_new (xCons (xC (.str "clock")) (xCons (xVar 3) xNil))) xNil))) xNil)))))
noncomputable def f_law_l1 : Mi.Env → Mi.Sto → Mi.RS := (xFor (iR1 (xCons (xC (.int 2)) xNil)) (gNameX 2) f_law_b1)
noncomputable def f_law_b2 : Mi.Env → Mi.Sto → Mi.RS := (xSeq (xAsg (xOp oIxL (xVar 1) (xCall fNumber (xCons (xVar 0) (xCons (xVar 4) (xCons (xC (.int 0)) (xCons (xC (.int 2)) xNil)))))) (gNameX 5))
      (xIfS (xNot (xB (xCall f_l_chooser_call (xCons (xVar 0) (xCons (xVar 4) (xCons (xOp oIxL (xVar 5) (xC (.int 0))) (xCons (xOp oIxL (xVar 5) (xC (.int 1))) xNil))))))) (xRet (xC (.bl false))) xNext))
noncomputable def f_law_l2 : Mi.Env → Mi.Sto → Mi.RS := (xFor (iR2 (xCons (xC (.int 1)) (xCons (xOp (oI fun i j => .int (i + j)) (xC (.int 4)) (xCall fNumber (xCons (xVar 0) (xCons (xC (.int 0)) (xCons (xC (.int 0)) (xCons (xC (.int 45)) xNil)))))) xNil))) (gNameX 4) f_law_b2)
@[irreducible] noncomputable def f_law : List Mi.D → Mi.Sto → Mi.R Mi.D := Mi.defX 1 5 (xSeq (xAsg (xLst xNil) (gNameX 1))
      (xSeq f_law_l1
      (xSeq f_law_l2
      (xRet (xC (.bl true))))))
theorem f_law_eq : f_law = Mi.defX 1 5 (xSeq (xAsg (xLst xNil) (gNameX 1))
      (xSeq f_law_l1
      (xSeq f_law_l2
      (xRet (xC (.bl true)))))) := by with_unfolding_all rfl
theorem fn_law (T : TX K mg) : ∃ fd, FunD K "law" "law" (defArgs s_law) (defBody s_law) (defScope s_law) [] [] (He.ga K "law") fd ∧ FnOk P w K mg base CX0 (7) (He.ga K "law") fd ["_law_script"] (Mi.spF K f_law) := by
  rw [f_law_eq]
  obtain ⟨fd, F⟩ := fd_law T
  refine ⟨fd, F, My.FunD.ok0 F sc_law (Mi.spF_len rfl) (fun cdv A outer s0 H vs Q E hr h => ?_)⟩
  have hu := hu_of hr
  exact ⟨_, (pss_cons (ps_set (i := 1) sc_law.nd rfl (Or.inl rfl) (pe_lst pa_nil))
      (pss_cons (ps_for PassesOwn.never rfl (pi_range1 rfl (fr_range T) (pa_cons pe_int pa_nil)) (pg_name (i := 2) sc_law.nd rfl (Or.inl rfl)) (pss_cons (ps_set (i := 3) sc_law.nd rfl (Or.inl rfl) (pe_op op_add pe_int (pe_callN (okm_l_number (P := P) (w := w) (base := base) T) hr (pa_cons (pv 0) (pa_cons pe_int (pa_cons (pe_op op_add pe_int (pv 2)) (pa_cons pe_int pa_nil)))))))
      (pss_cons (ps_if (pt_cmpR op_eq (pe_callN (okm_l_number (P := P) (w := w) (base := base) T) hr (pa_cons (pv 0) (pa_cons pe_int (pa_cons (pe_op op_add pe_int (pv 2)) (pa_cons pe_int pa_nil))))) pe_int (nomark _)) (pss_one (ps_set (i := 3) sc_law.nd rfl (Or.inl rfl) (pe_op op_add pe_int (pv 3)))) pss_nil)
      (pss_one (ps_expr (pe_bm PySem.F.plainAttrs_list PySem.F.slot_list_append PySem.F.type_list_append mt_append (pv 1) (pa_cons (pe_lst (pa_cons (pe_makeN (mk_Chooser (P := P) (w := w) (base := base) T) hr (pa_cons pe_str (pa_cons (pv 3) pa_nil))) (pa_cons (pe_callN (ok_l_chooser_new (P := P) (w := w) (base := base) T) hr (pa_cons pe_str (pa_cons (pv 3) pa_nil))) pa_nil))) pa_nil)))))))
      (pss_cons (ps_for PassesOwn.never rfl (pi_range2 rfl (fr_range T) (pa_cons pe_int (pa_cons (pe_op op_add pe_int (pe_callN (okm_l_number (P := P) (w := w) (base := base) T) hr (pa_cons (pv 0) (pa_cons pe_int (pa_cons pe_int (pa_cons pe_int pa_nil)))))) pa_nil))) (pg_name (i := 4) sc_law.nd rfl (Or.inl rfl)) (pss_cons (ps_set (i := 5) sc_law.nd rfl (Or.inl rfl) (pe_ix (ixL K) (pv 1) (pe_callN (okm_l_number (P := P) (w := w) (base := base) T) hr (pa_cons (pv 0) (pa_cons (pv 4) (pa_cons pe_int (pa_cons pe_int pa_nil))))) (fun _ _ => rfl)))
      (pss_one (ps_if (pt_not (pt_val (pe_callN (ok_l_chooser_call (P := P) (w := w) (base := base) T) hr (pa_cons (pv 0) (pa_cons (pv 4) (pa_cons (pe_ix (ixL K) (pv 5) pe_int (fun _ _ => rfl)) (pa_cons (pe_ix (ixL K) (pv 5) pe_int (fun _ _ => rfl)) pa_nil))))))) (pss_one (ps_ret pe_bl)) pss_nil))))
      (pss_one (ps_ret pe_bl))))),
    Mi.body_of (K := K) (E := E) (m := 1) (k := 5) (N := ["_law_script", "_law_pairs", "_law_one", "_law_many", "_law_at", "_law_pair"]) rfl h (imp_seq (imp_asg (imp_lst imp_nil) impg_name) (imp_seq (imp_for (imp_iR1 (imp_cons imp_int imp_nil)) (impg_name) (imp_seq (imp_asg (imp_op opi_add imp_int (imp_call (imp_cons imp_var (imp_cons imp_int (imp_cons (imp_op opi_add imp_int imp_var) (imp_cons imp_int imp_nil)))))) impg_name) (imp_seq (imp_ifS (imp_test (imp_op opi_eqS (imp_call (imp_cons imp_var (imp_cons imp_int (imp_cons (imp_op opi_add imp_int imp_var) (imp_cons imp_int imp_nil))))) imp_int)) (imp_asg (imp_op opi_add imp_int imp_var) impg_name) imp_next) (imp_drop (imp_bm mti_append imp_var (imp_cons (imp_lst (imp_cons (imp_make (imp_cons imp_str (imp_cons imp_var imp_nil))) (imp_cons (imp_call (imp_cons imp_str (imp_cons imp_var imp_nil))) imp_nil))) imp_nil)))))) (imp_seq (imp_for (imp_iR2 (imp_cons imp_int (imp_cons (imp_op opi_add imp_int (imp_call (imp_cons imp_var (imp_cons imp_int (imp_cons imp_int (imp_cons imp_int imp_nil)))))) imp_nil))) (impg_name) (imp_seq (imp_asg (imp_op opi_ixL imp_var (imp_call (imp_cons imp_var (imp_cons imp_var (imp_cons imp_int (imp_cons imp_int imp_nil)))))) impg_name) (imp_ifS (imp_not (imp_tB (imp_call (imp_cons imp_var (imp_cons imp_var (imp_cons (imp_op opi_ixL imp_var imp_int) (imp_cons (imp_op opi_ixL imp_var imp_int) imp_nil))))))) (imp_ret imp_bl) imp_next))) (imp_ret imp_bl))))⟩
theorem ok_law (T : TX K mg) : DefOk P w K mg base (7) "law" ["_law_script"] [] (Mi.spF K f_law) := by
  obtain ⟨fd, F, h⟩ := fn_law (P := P) (w := w) (base := base) T
  exact DefOk.of F (gl_law T) (F.bindsN fun _ _ _ _ _ _ us hl => match us, hl with | [_], _ => rfl) h
end

section
open Mi
theorem zeros_sp {S : Sto} {n : Int} (h : 0 ≤ n ∧ n ≤ 100) : f_zeros [.int n] S = .ok (.ref S.length) (S ++ [.lst (List.replicate n.toNat (.int 0))]) := by
  rw [f_zeros_eq]
  have h1 : RngOk n := rngOk (by omega)
  have e : (rngD 0 n.toNat).map (fun _ => D.int 0) = List.replicate n.toNat (.int 0) := List.eq_replicate_iff.mpr ⟨by simp, fun x hx => by
    obtain ⟨_, _, rfl⟩ := List.mem_map.mp hx
    rfl⟩
  simp [defX, xSeq, xNext, xAsg, gNameX, gConsX, gNilX, gTupX, gSubX, xVar, xC, xOp, xUn, oI_int, oNeg_int, xB, asB_bl, xIfS, xRet, xRetN, xDrop, xBreak, xCont, xCons, xNil, xTup, xLst, xCB, xCall, xCallX, xAnd, xOr, xNot, xAndV, xOrV, xNotV, xIf, xYes, xTru, truD, xIsN, xNotN, nonD, xFld, xSetF, xAugF, xMeth, xMethX, xMake, xBM, xDGet, xDPut, xDIn, xDNew, xPart, xNoPart, xSl, nox_ok, toS_ok, finX, R.bind, R.bindS, RS.seq, RS.turn, R.bindE, xFor, xForE, iR1, iR2, iL, iT, iE, iZ, xLc, xAug, xAssert, str_beq, at_set, insX, setFX, putFX, setLX, putDX, getDX, oDGet, oDIn, putX, valX, keyD_int, keyD_str, List.lookup, oInSet, xDisp, xPCons, xPNil, keysX, mergeX, rdL_app_ge, rdL_app_self, rdL_zero, rdL_succ, at_app_ge, at_app_self, at_zero, at_succ, f_zeros_c1, h1]
  rw [lc_map (fun _ => .int 0)]
  · simp only [e]
  · intro _; trivial
  · intro x hx acc; exact ⟨_, rfl, rfl⟩
  · simp; omega
/-- the chooser's part -/
structure PrO (S : Sto) (b n p : Nat) (bits : List Int) : Prop where
  o : ∃ t, at_ S b = some (.ins "Chooser" [("kind", .str "clock"), ("time", .int t), ("filled_at", .ref (b + 1)), ("used_at", .ref (b + 2)), ("bits", .ref (b + 3)), ("pointer", .int p)])
  f : ∃ fa, at_ S (b + 1) = some (.lst fa) ∧ fa.length = n
  u : ∃ ua, at_ S (b + 2) = some (.lst ua) ∧ ua.length = n
  c : at_ S (b + 3) = some (.lst (bits.map .int))
  lb : bits.length = n
  hp : p < n
  n1 : n ≤ 100
theorem PrO.fr {S S' : Sto} {b n p c k : Nat} {bits : List Int} (h : PrO S b n p bits) (f : Frm c k S S') (d : c + k ≤ b ∨ b + 4 ≤ c) : PrO S' b n p bits := by
  obtain ⟨⟨t, h1⟩, ⟨fa, h2, h3⟩, ⟨ua, h4, h5⟩, h6, h7, h8, h9⟩ := h
  exact ⟨⟨t, f.get h1 (by omega)⟩, ⟨fa, f.get h2 (by omega), h3⟩, ⟨ua, f.get h4 (by omega), h5⟩, f.get h6 (by omega), h7, h8, h9⟩
theorem touched_sp {S : Sto} {b n p : Nat} {bits : List Int} {i : Int} (h : PrO S b n p bits) (h0 : 0 ≤ i) (hi : i < n) : ∃ S', f_Chooser_touched [.ref b, .int i] S = .ok .non S' ∧ PrO S' b n p (bits.set i.toNat 1) ∧ Frm b 4 S S' := by
  obtain ⟨⟨t, h1⟩, ⟨fa, h2, h3⟩, ⟨ua, h4, h5⟩, h6, h7, h8, h9⟩ := h
  have l1 := at_lt h1
  have l2 := at_lt h2
  have l4 := at_lt h4
  have l6 := at_lt h6
  have x1 : ixN n i = some i.toNat := ixN_of h0 hi
  rw [f_Chooser_touched_eq]
  simp (decide := true) [defX, xSeq, xNext, xAsg, gNameX, gConsX, gNilX, gTupX, gSubX, xVar, xC, xOp, xUn, oI_int, oNeg_int, xB, asB_bl, xIfS, xRet, xRetN, xDrop, xBreak, xCont, xCons, xNil, xTup, xLst, xCB, xCall, xCallX, xAnd, xOr, xNot, xAndV, xOrV, xNotV, xIf, xYes, xTru, truD, xIsN, xNotN, nonD, xFld, xSetF, xAugF, xMeth, xMethX, xMake, xBM, xDGet, xDPut, xDIn, xDNew, xPart, xNoPart, xSl, nox_ok, toS_ok, finX, R.bind, R.bindS, RS.seq, RS.turn, R.bindE, xFor, xForE, iR1, iR2, iL, iT, iE, iZ, xLc, xAug, xAssert, str_beq, at_set, insX, setFX, putFX, setLX, putDX, getDX, oDGet, oDIn, putX, valX, keyD_int, keyD_str, List.lookup, oInSet, xDisp, xPCons, xPNil, keysX, mergeX, rdL_app_ge, rdL_app_self, rdL_zero, rdL_succ, at_app_ge, at_app_self, at_zero, at_succ, h1, h2, h4, h6, l1, l2, l4, l6, h3, h5, h7, x1]
  refine ⟨⟨⟨t + 1, ?_⟩, ⟨fa, ?_, h3⟩, ⟨ua.set i.toNat (.int (t + 1)), ?_, by simp [h5]⟩, ?_, by simp [h7], h8, h9⟩, ((Frm.set (by omega)).trans (Frm.set (by omega))).trans (Frm.set (by omega))⟩ <;> simp [at_set, l1, l2, l4, l6, h2, List.map_set]
theorem filled_sp {S : Sto} {b n p : Nat} {bits : List Int} {i : Int} (h : PrO S b n p bits) (h0 : 0 ≤ i) (hi : i < n) : ∃ S', f_Chooser_filled [.ref b, .int i] S = .ok .non S' ∧ PrO S' b n p (bits.set i.toNat 1) ∧ Frm b 4 S S' := by
  obtain ⟨S1, e1, q, f1⟩ := touched_sp h h0 hi
  obtain ⟨⟨t0, g1⟩, _⟩ := h
  obtain ⟨⟨t, h1⟩, ⟨fa, h2, h3⟩, ⟨ua, h4, h5⟩, h6, h7, h8, h9⟩ := q
  have l2 := at_lt h2
  have x1 : ixN n i = some i.toNat := ixN_of h0 hi
  rw [f_Chooser_filled_eq]
  simp (decide := true) [defX, xSeq, xNext, xAsg, gNameX, gConsX, gNilX, gTupX, gSubX, xVar, xC, xOp, xUn, oI_int, oNeg_int, xB, asB_bl, xIfS, xRet, xRetN, xDrop, xBreak, xCont, xCons, xNil, xTup, xLst, xCB, xCall, xCallX, xAnd, xOr, xNot, xAndV, xOrV, xNotV, xIf, xYes, xTru, truD, xIsN, xNotN, nonD, xFld, xSetF, xAugF, xMeth, xMethX, xMake, xBM, xDGet, xDPut, xDIn, xDNew, xPart, xNoPart, xSl, nox_ok, toS_ok, finX, R.bind, R.bindS, RS.seq, RS.turn, R.bindE, xFor, xForE, iR1, iR2, iL, iT, iE, iZ, xLc, xAug, xAssert, str_beq, at_set, insX, setFX, putFX, setLX, putDX, getDX, oDGet, oDIn, putX, valX, keyD_int, keyD_str, List.lookup, oInSet, xDisp, xPCons, xPNil, keysX, mergeX, rdL_app_ge, rdL_app_self, rdL_zero, rdL_succ, at_app_ge, at_app_self, at_zero, at_succ, g1, e1, h1, h2, h4, h6, l2, h3, h5, h7, x1]
  refine ⟨⟨⟨t, ?_⟩, ⟨fa.set i.toNat (.int t), ?_, by simp [h3]⟩, ⟨ua, ?_, h5⟩, ?_, h7, h8, h9⟩, f1.trans (Frm.set (by omega))⟩ <;> simp [at_set, l2, h1, h4, h6]
theorem emptied_sp {S : Sto} {b n p : Nat} {bits : List Int} {i : Int} (h : PrO S b n p bits) (h0 : 0 ≤ i) (hi : i < n) : ∃ S', f_Chooser_emptied [.ref b, .int i] S = .ok .non S' ∧ PrO S' b n p (bits.set i.toNat 0) ∧ Frm b 4 S S' := by
  obtain ⟨⟨t, h1⟩, ⟨fa, h2, h3⟩, ⟨ua, h4, h5⟩, h6, h7, h8, h9⟩ := h
  have l6 := at_lt h6
  have x1 : ixN n i = some i.toNat := ixN_of h0 hi
  rw [f_Chooser_emptied_eq]
  simp (decide := true) [defX, xSeq, xNext, xAsg, gNameX, gConsX, gNilX, gTupX, gSubX, xVar, xC, xOp, xUn, oI_int, oNeg_int, xB, asB_bl, xIfS, xRet, xRetN, xDrop, xBreak, xCont, xCons, xNil, xTup, xLst, xCB, xCall, xCallX, xAnd, xOr, xNot, xAndV, xOrV, xNotV, xIf, xYes, xTru, truD, xIsN, xNotN, nonD, xFld, xSetF, xAugF, xMeth, xMethX, xMake, xBM, xDGet, xDPut, xDIn, xDNew, xPart, xNoPart, xSl, nox_ok, toS_ok, finX, R.bind, R.bindS, RS.seq, RS.turn, R.bindE, xFor, xForE, iR1, iR2, iL, iT, iE, iZ, xLc, xAug, xAssert, str_beq, at_set, insX, setFX, putFX, setLX, putDX, getDX, oDGet, oDIn, putX, valX, keyD_int, keyD_str, List.lookup, oInSet, xDisp, xPCons, xPNil, keysX, mergeX, rdL_app_ge, rdL_app_self, rdL_zero, rdL_succ, at_app_ge, at_app_self, at_zero, at_succ, h1, h6, l6, h7, x1]
  refine ⟨⟨⟨t, ?_⟩, ⟨fa, ?_, h3⟩, ⟨ua, ?_, h5⟩, ?_, by simp [h7], h8, h9⟩, Frm.set (by omega)⟩ <;> simp [at_set, l6, h1, h2, h4, List.map_set]
/-- the plain part -/
structure PrD (S : Sto) (d n p : Nat) (bits : List Int) (full : List Bool) : Prop where
  o : ∃ t, at_ S d = some (.dK [(.inr "kind", .str "clock"), (.inr "time", .int t), (.inr "under", .int p), (.inr "filled", .ref (d + 1)), (.inr "used", .ref (d + 2)), (.inr "bits", .ref (d + 3)), (.inr "full", .ref (d + 4))])
  f : ∃ fa, at_ S (d + 1) = some (.lst fa) ∧ fa.length = n
  u : ∃ ua, at_ S (d + 2) = some (.lst ua) ∧ ua.length = n
  c : at_ S (d + 3) = some (.lst (bits.map .int))
  g : at_ S (d + 4) = some (.lst (full.map .bl))
  lb : bits.length = n
  lf : full.length = n
  hp : p < n
  n1 : n ≤ 100
theorem PrD.fr {S S' : Sto} {b n p c k : Nat} {bits : List Int} {full : List Bool} (h : PrD S b n p bits full) (f : Frm c k S S') (d : c + k ≤ b ∨ b + 5 ≤ c) : PrD S' b n p bits full := by
  obtain ⟨⟨t, h1⟩, ⟨fa, h2, h3⟩, ⟨ua, h4, h5⟩, h6, h6', h7, h7', h8, h9⟩ := h
  exact ⟨⟨t, f.get h1 (by omega)⟩, ⟨fa, f.get h2 (by omega), h3⟩, ⟨ua, f.get h4 (by omega), h5⟩, f.get h6 (by omega), f.get h6' (by omega), h7, h7', h8, h9⟩
theorem tell_sp {S : Sto} {b n p : Nat} {bits : List Int} {full : List Bool} {i : Int} {wh : Str} {v : Bool} (hw : (wh = "filled" ∧ v = true) ∨ (wh = "touched" ∧ v = true) ∨ (wh = "emptied" ∧ v = false)) (h : PrD S b n p bits full) (h0 : 0 ≤ i) (hi : i < n) :
    ∃ S', f_l_chooser_tell [.ref b, .str wh, .int i] S = .ok .non S' ∧ PrD S' b n p (bits.set i.toNat (if v = true then 1 else 0)) (full.set i.toNat v) ∧ Frm b 5 S S' := by
  obtain ⟨⟨t, h1⟩, ⟨fa, h2, h3⟩, ⟨ua, h4, h5⟩, h6, h6', h7, h7', h8, h9⟩ := h
  have l1 := at_lt h1
  have l2 := at_lt h2
  have l4 := at_lt h4
  have l6 := at_lt h6
  have l6' := at_lt h6'
  have x1 : ixN n i = some i.toNat := ixN_of h0 hi
  rw [f_l_chooser_tell_eq]
  rcases hw with ⟨rfl, rfl⟩ | ⟨rfl, rfl⟩ | ⟨rfl, rfl⟩
  · simp (decide := true) [defX, xSeq, xNext, xAsg, gNameX, gConsX, gNilX, gTupX, gSubX, xVar, xC, xOp, xUn, oI_int, oNeg_int, xB, asB_bl, xIfS, xRet, xRetN, xDrop, xBreak, xCont, xCons, xNil, xTup, xLst, xCB, xCall, xCallX, xAnd, xOr, xNot, xAndV, xOrV, xNotV, xIf, xYes, xTru, truD, xIsN, xNotN, nonD, xFld, xSetF, xAugF, xMeth, xMethX, xMake, xBM, xDGet, xDPut, xDIn, xDNew, xPart, xNoPart, xSl, nox_ok, toS_ok, finX, R.bind, R.bindS, RS.seq, RS.turn, R.bindE, xFor, xForE, iR1, iR2, iL, iT, iE, iZ, xLc, xAug, xAssert, str_beq, at_set, insX, setFX, putFX, setLX, putDX, getDX, oDGet, oDIn, putX, valX, keyD_int, keyD_str, List.lookup, oInSet, xDisp, xPCons, xPNil, keysX, mergeX, rdL_app_ge, rdL_app_self, rdL_zero, rdL_succ, at_app_ge, at_app_self, at_zero, at_succ, h1, h2, h4, h6, h6', l1, l2, l4, l6, l6', h3, h5, h7, h7', x1]
    refine ⟨⟨⟨t + 1, ?_⟩, ⟨fa.set i.toNat (.int (t + 1)), ?_, by simp [h3]⟩, ⟨ua.set i.toNat (.int (t + 1)), ?_, by simp [h5]⟩, ?_, ?_, by simp [h7], by simp [h7'], h8, h9⟩, (((Frm.set (by omega)).trans (Frm.set (by omega))).trans (Frm.set (by omega))).trans ((Frm.set (by omega)).trans (Frm.set (by omega)))⟩ <;> simp [at_set, l1, l2, l4, l6, l6', h2, List.map_set]
  · simp (decide := true) [defX, xSeq, xNext, xAsg, gNameX, gConsX, gNilX, gTupX, gSubX, xVar, xC, xOp, xUn, oI_int, oNeg_int, xB, asB_bl, xIfS, xRet, xRetN, xDrop, xBreak, xCont, xCons, xNil, xTup, xLst, xCB, xCall, xCallX, xAnd, xOr, xNot, xAndV, xOrV, xNotV, xIf, xYes, xTru, truD, xIsN, xNotN, nonD, xFld, xSetF, xAugF, xMeth, xMethX, xMake, xBM, xDGet, xDPut, xDIn, xDNew, xPart, xNoPart, xSl, nox_ok, toS_ok, finX, R.bind, R.bindS, RS.seq, RS.turn, R.bindE, xFor, xForE, iR1, iR2, iL, iT, iE, iZ, xLc, xAug, xAssert, str_beq, at_set, insX, setFX, putFX, setLX, putDX, getDX, oDGet, oDIn, putX, valX, keyD_int, keyD_str, List.lookup, oInSet, xDisp, xPCons, xPNil, keysX, mergeX, rdL_app_ge, rdL_app_self, rdL_zero, rdL_succ, at_app_ge, at_app_self, at_zero, at_succ, h1, h2, h4, h6, h6', l1, l2, l4, l6, l6', h3, h5, h7, h7', x1]
    refine ⟨⟨⟨t + 1, ?_⟩, ⟨fa, ?_, by simp [h3]⟩, ⟨ua.set i.toNat (.int (t + 1)), ?_, by simp [h5]⟩, ?_, ?_, by simp [h7], by simp [h7'], h8, h9⟩, (((Frm.set (by omega)).trans (Frm.set (by omega))).trans (Frm.set (by omega))).trans (Frm.set (by omega))⟩ <;> simp [at_set, l1, l2, l4, l6, l6', h2, List.map_set]
  · simp (decide := true) [defX, xSeq, xNext, xAsg, gNameX, gConsX, gNilX, gTupX, gSubX, xVar, xC, xOp, xUn, oI_int, oNeg_int, xB, asB_bl, xIfS, xRet, xRetN, xDrop, xBreak, xCont, xCons, xNil, xTup, xLst, xCB, xCall, xCallX, xAnd, xOr, xNot, xAndV, xOrV, xNotV, xIf, xYes, xTru, truD, xIsN, xNotN, nonD, xFld, xSetF, xAugF, xMeth, xMethX, xMake, xBM, xDGet, xDPut, xDIn, xDNew, xPart, xNoPart, xSl, nox_ok, toS_ok, finX, R.bind, R.bindS, RS.seq, RS.turn, R.bindE, xFor, xForE, iR1, iR2, iL, iT, iE, iZ, xLc, xAug, xAssert, str_beq, at_set, insX, setFX, putFX, setLX, putDX, getDX, oDGet, oDIn, putX, valX, keyD_int, keyD_str, List.lookup, oInSet, xDisp, xPCons, xPNil, keysX, mergeX, rdL_app_ge, rdL_app_self, rdL_zero, rdL_succ, at_app_ge, at_app_self, at_zero, at_succ, h1, h2, h4, h6, h6', l1, l2, l4, l6, l6', h3, h5, h7, h7', x1]
    refine ⟨⟨⟨t + 1, ?_⟩, ⟨fa, ?_, by simp [h3]⟩, ⟨ua, ?_, by simp [h5]⟩, ?_, ?_, by simp [h7], by simp [h7'], h8, h9⟩, ((Frm.set (by omega)).trans (Frm.set (by omega))).trans (Frm.set (by omega))⟩ <;> simp [at_set, l1, l2, l4, l6, l6', h2, h4, List.map_set]
/-! ### the hand -/
def bitAt (bits : List Int) (p : Nat) : Int := bits.getD p 0
def clk (as : List Int) (n : Nat) : Nat → Nat → List Int → Option (Nat × Nat × List Int)
  | 0, _, _ => none
  | k + 1, p, bits => if memI as p = true then (if bitAt bits p = 0 then some (p, (p + 1) % n, bits) else clk as n k ((p + 1) % n) (bits.set p 0)) else clk as n k ((p + 1) % n) bits
theorem clk_more {as : List Int} {n : Nat} : ∀ {k p : Nat} {bits : List Int} {r : Nat × Nat × List Int}, clk as n k p bits = some r → clk as n (k + 1) p bits = some r
  | 0, _, _, _, h => by cases h
  | k + 1, p, bits, r, h => by
    rw [clk] at h ⊢
    split
    · rename_i ha
      rw [if_pos ha] at h
      split
      · rename_i hb
        rw [if_pos hb] at h
        exact h
      · rename_i hb
        rw [if_neg hb] at h
        exact clk_more h
    · rename_i ha
      rw [if_neg ha] at h
      exact clk_more h
theorem clk_le {as : List Int} {n k j p : Nat} {bits : List Int} {r : Nat × Nat × List Int} (h : clk as n k p bits = some r) (l : k ≤ j) : clk as n j p bits = some r := by
  induction l with
  | refl => exact h
  | step _ ih => exact clk_more ih
theorem getD_set_ne {bits : List Int} {p q : Nat} (h : p ≠ q) : bitAt (bits.set p 0) q = bitAt bits q := by simp [bitAt, List.getD, List.getElem?_set_ne h]
theorem getD_set_self {bits : List Int} {p : Nat} : bitAt (bits.set p 0) p = 0 := by
  by_cases h : p < bits.length
  · simp [bitAt, List.getD, h]
  · simp [bitAt, List.getD, List.getElem?_eq_none (by simpa using h : (bits.set p 0).length ≤ p)]
theorem next_at {p s n q : Nat} (h : (p + (s + 1)) % n = q) : ((p + 1) % n + s) % n = q := by
  rw [Nat.mod_add_mod, show p + 1 + s = p + (s + 1) by omega]
  exact h
theorem clk_zero {as : List Int} {n q : Nat} (hq : memI as q = true) (hn : q < n) : ∀ (s p : Nat) (bits : List Int), p < n → (p + s) % n = q → bitAt bits q = 0 → ∃ r, clk as n (s + 1) p bits = some r
  | 0, p, bits, hp, h, hb => by
    rw [Nat.add_zero, Nat.mod_eq_of_lt hp] at h
    subst h
    exact ⟨_, by rw [clk, if_pos hq, if_pos hb]⟩
  | s + 1, p, bits, hp, h, hb => by
    have hp' : (p + 1) % n < n := Nat.mod_lt _ (by omega)
    rw [clk]
    split
    · split
      · exact ⟨_, rfl⟩
      · rename_i hne
        refine clk_zero hq hn s _ _ hp' (next_at h) ?_
        rw [getD_set_ne]
        · exact hb
        · intro z
          subst z
          exact hne hb
    · exact clk_zero hq hn s _ _ hp' (next_at h) hb
theorem clk_some {as : List Int} {n q : Nat} (hq : memI as q = true) (hn : q < n) : ∀ (s p : Nat) (bits : List Int), p < n → (p + s) % n = q → ∃ r, clk as n (s + 1 + n) p bits = some r
  | 0, p, bits, hp, h => by
    rw [Nat.add_zero, Nat.mod_eq_of_lt hp] at h
    subst h
    rw [show 0 + 1 + n = n + 1 by omega, clk, if_pos hq]
    split
    · exact ⟨_, rfl⟩
    · obtain ⟨r, hr⟩ := clk_zero hq hn (n - 1) ((p + 1) % n) (bits.set p 0) (Nat.mod_lt _ (by omega)) (by rw [Nat.mod_add_mod, show p + 1 + (n - 1) = p + n by omega, Nat.add_mod_right, Nat.mod_eq_of_lt hp]) getD_set_self
      exact ⟨r, by rw [show n = n - 1 + 1 by omega] at *; exact hr⟩
  | s + 1, p, bits, hp, h => by
    have hp' : (p + 1) % n < n := Nat.mod_lt _ (by omega)
    rw [show s + 1 + 1 + n = (s + 1 + n) + 1 by omega, clk]
    split
    · split
      · exact ⟨_, rfl⟩
      · exact clk_some hq hn s _ _ hp' (next_at h)
    · exact clk_some hq hn s _ _ hp' (next_at h)
theorem clk_ok {as : List Int} {n q p : Nat} {bits : List Int} (hq : memI as q = true) (hn : q < n) (hp : p < n) : ∃ r, clk as n (2 * n) p bits = some r := by
  obtain ⟨r, hr⟩ := clk_some hq hn ((q + n - p) % n) p bits hp (by
    rw [Nat.add_mod_mod, show p + (q + n - p) = q + n by omega, Nat.add_mod_right, Nat.mod_eq_of_lt hn])
  refine ⟨r, clk_le hr ?_⟩
  have := Nat.mod_lt (q + n - p) (show 0 < n by omega)
  omega
theorem clk_in {as : List Int} {n : Nat} (hn : 0 < n) : ∀ {k p : Nat} {bits : List Int} {r : Nat × Nat × List Int}, p < n → clk as n k p bits = some r → memI as r.1 = true ∧ r.1 < n ∧ r.2.1 < n ∧ r.2.2.length = bits.length
  | 0, _, _, _, _, h => by cases h
  | k + 1, p, bits, r, hp, h => by
    have hp' : (p + 1) % n < n := Nat.mod_lt _ hn
    rw [clk] at h
    split at h
    · rename_i ha
      split at h
      · cases h
        exact ⟨ha, hp, hp', rfl⟩
      · have := clk_in hn hp' h
        rw [List.length_set] at this
        exact this
    · exact clk_in hn hp' h
end

section
open Mi
theorem turn_loop {as : List Int} {b n s m l : Nat} (hs : s < b ∨ b + 4 ≤ s) : ∀ {k : Nat} {S : Sto} {p : Nat} {bits : List Int} {r p' : Nat} {bits' : List Int} {o : Option D}, PrO S b n p bits → at_ S s = some (.set (memI as) m) → clk as n k p bits = some (r, p', bits') →
    ∃ S', whileX (xB (xC (.bl true))) f_Chooser_turn_pointer_b1 k [some (.ref b), some (.ref l), some (.ref s), o] S = .ret (.int r) S' ∧ PrO S' b n p' bits' ∧ Frm b 4 S S'
  | 0, _, _, _, _, _, _, _, _, _, h => by cases h
  | k + 1, S, p, bits, r, p', bits', o, hP, hset, hc => by
    have hP0 := hP
    obtain ⟨⟨t, h1⟩, ⟨fa, h2, h3⟩, ⟨ua, h4, h5⟩, h6, h7, h8, h9⟩ := hP
    have l1 := at_lt h1
    have l6 := at_lt h6
    have x1 : ixN n (p : Int) = some p := by rw [ixN_of (by omega) (by omega)]; simp
    have x2 : 0 < n := by omega
    have x3 : ((p : Int) + 1) % (n : Int) = (((p + 1) % n : Nat) : Int) := by simp
    have x4 : L2.atI (bits.map D.int) (p : Int) = some (.int (bitAt bits p)) := atI_of (by omega) (by simp [bitAt, List.getD, show p < bits.length by omega])
    have hs1 : b ≠ s := by omega
    have hs2 : b + 3 ≠ s := by omega
    have hb : bits.length = n := h7
    let S1 := S.set b (O.ins "Chooser" [("kind", .str "clock"), ("time", .int t), ("filled_at", .ref (b + 1)), ("used_at", .ref (b + 2)), ("bits", .ref (b + 3)), ("pointer", .int (((p + 1) % n : Nat) : Int))])
    have hp' : (p + 1) % n < n := Nat.mod_lt _ (by omega)
    have P1 : PrO S1 b n ((p + 1) % n) bits := by
      refine ⟨⟨t, ?_⟩, ⟨fa, ?_, h3⟩, ⟨ua, ?_, h5⟩, ?_, h7, hp', h9⟩ <;> simp [S1, at_set, l1, h2, h4, h6]
    have F1 : Frm b 4 S S1 := Frm.set (by omega)
    have hset1 : at_ S1 s = some (.set (memI as) m) := F1.get hset (by omega)
    rw [whileX_succ]
    rw [clk] at hc
    split at hc
    · rename_i ha
      split at hc
      · rename_i hz
        cases hc
        refine ⟨S1, ?_, P1, F1⟩
        simp (decide := true) [f_Chooser_turn_pointer_b1, defX, xSeq, xNext, xAsg, gNameX, gConsX, gNilX, gTupX, gSubX, xVar, xC, xOp, xUn, oI_int, oNeg_int, xB, asB_bl, xIfS, xRet, xRetN, xDrop, xBreak, xCont, xCons, xNil, xTup, xLst, xCB, xCall, xCallX, xAnd, xOr, xNot, xAndV, xOrV, xNotV, xIf, xYes, xTru, truD, xIsN, xNotN, nonD, xFld, xSetF, xAugF, xMeth, xMethX, xMake, xBM, xDGet, xDPut, xDIn, xDNew, xPart, xNoPart, xSl, nox_ok, toS_ok, finX, R.bind, R.bindS, RS.seq, RS.turn, R.bindE, xFor, xForE, iR1, iR2, iL, iT, iE, iZ, xLc, xAug, xAssert, str_beq, at_set, insX, setFX, putFX, setLX, putDX, getDX, oDGet, oDIn, putX, valX, keyD_int, keyD_str, List.lookup, oInSet, xDisp, xPCons, xPNil, keysX, mergeX, rdL_app_ge, rdL_app_self, rdL_zero, rdL_succ, at_app_ge, at_app_self, at_zero, at_succ, h1, h6, l1, h7, x2, x4, hset, hs1, ha, hz, bLen, rdL_at, oIC, oIxL, S1]
      · rename_i hz
        have P2 : PrO (S1.set (b + 3) (.lst ((bits.map D.int).set p (.int 0)))) b n ((p + 1) % n) (bits.set p 0) := by
          obtain ⟨⟨t', g1⟩, ⟨fa', g2, g3⟩, ⟨ua', g4, g5⟩, g6, g7, g8, g9⟩ := P1
          have l3 := at_lt g6
          refine ⟨⟨t', ?_⟩, ⟨fa', ?_, g3⟩, ⟨ua', ?_, g5⟩, ?_, by simp [g7], g8, g9⟩ <;> simp [at_set, l3, g1, g2, g4, List.map_set]
        have F2 : Frm b 4 S (S1.set (b + 3) (.lst ((bits.map D.int).set p (.int 0)))) := F1.trans (Frm.set (by omega))
        obtain ⟨S', e', P', F'⟩ := turn_loop (l := l) hs P2 (F2.get hset (by omega)) hc (o := some (.int p))
        refine ⟨S', ?_, P', F2.trans F'⟩
        rw [← e']
        simp (decide := true) [f_Chooser_turn_pointer_b1, defX, xSeq, xNext, xAsg, gNameX, gConsX, gNilX, gTupX, gSubX, xVar, xC, xOp, xUn, oI_int, oNeg_int, xB, asB_bl, xIfS, xRet, xRetN, xDrop, xBreak, xCont, xCons, xNil, xTup, xLst, xCB, xCall, xCallX, xAnd, xOr, xNot, xAndV, xOrV, xNotV, xIf, xYes, xTru, truD, xIsN, xNotN, nonD, xFld, xSetF, xAugF, xMeth, xMethX, xMake, xBM, xDGet, xDPut, xDIn, xDNew, xPart, xNoPart, xSl, nox_ok, toS_ok, finX, R.bind, R.bindS, RS.seq, RS.turn, R.bindE, xFor, xForE, iR1, iR2, iL, iT, iE, iZ, xLc, xAug, xAssert, str_beq, at_set, insX, setFX, putFX, setLX, putDX, getDX, oDGet, oDIn, putX, valX, keyD_int, keyD_str, List.lookup, oInSet, xDisp, xPCons, xPNil, keysX, mergeX, rdL_app_ge, rdL_app_self, rdL_zero, rdL_succ, at_app_ge, at_app_self, at_zero, at_succ, h1, h6, l1, l6, h7, x1, x2, x4, hset, hs1, ha, hz, bLen, rdL_at, oIC, oIxL, S1]
    · rename_i ha
      obtain ⟨S', e', P', F'⟩ := turn_loop (l := l) hs P1 hset1 hc (o := some (.int p))
      refine ⟨S', ?_, P', F1.trans F'⟩
      rw [← e']
      simp (decide := true) [f_Chooser_turn_pointer_b1, defX, xSeq, xNext, xAsg, gNameX, gConsX, gNilX, gTupX, gSubX, xVar, xC, xOp, xUn, oI_int, oNeg_int, xB, asB_bl, xIfS, xRet, xRetN, xDrop, xBreak, xCont, xCons, xNil, xTup, xLst, xCB, xCall, xCallX, xAnd, xOr, xNot, xAndV, xOrV, xNotV, xIf, xYes, xTru, truD, xIsN, xNotN, nonD, xFld, xSetF, xAugF, xMeth, xMethX, xMake, xBM, xDGet, xDPut, xDIn, xDNew, xPart, xNoPart, xSl, nox_ok, toS_ok, finX, R.bind, R.bindS, RS.seq, RS.turn, R.bindE, xFor, xForE, iR1, iR2, iL, iT, iE, iZ, xLc, xAug, xAssert, str_beq, at_set, insX, setFX, putFX, setLX, putDX, getDX, oDGet, oDIn, putX, valX, keyD_int, keyD_str, List.lookup, oInSet, xDisp, xPCons, xPNil, keysX, mergeX, rdL_app_ge, rdL_app_self, rdL_zero, rdL_succ, at_app_ge, at_app_self, at_zero, at_succ, h1, h6, l1, l6, h7, x1, x2, x4, hset, hs1, ha, bLen, rdL_at, oIC, oIxL, S1]
theorem turn_sp {S : Sto} {as : List Int} {b n p l k r p' : Nat} {bits bits' : List Int} (h : PrO S b n p bits) (hl : rdL S l = some (as.map .int)) (hz : as.length ≤ 4000) (hc : clk as n k p bits = some (r, p', bits')) :
    ∃ S', f_Chooser_turn_pointer [.ref b, .ref l] S = .ok (.int r) S' ∧ PrO S' b n p' bits' ∧ Frm b 4 S S' := by
  have F0 : Frm b 4 S (S ++ [O.set (memI as) (dedupL as).length]) := Frm.app
  have hb : b + 3 < S.length := at_lt h.c
  have P0 := h.fr (c := 0) (k := 0) (S' := S ++ [O.set (memI as) (dedupL as).length]) Frm.app (by omega)
  obtain ⟨S', e', P', F'⟩ := turn_loop (l := l) (s := S.length) (by omega) P0 at_new hc (o := none)
  refine ⟨S', ?_, P', F0.trans F'⟩
  have hw := xWhile_eq e' (by simp)
  rw [f_Chooser_turn_pointer_eq]
  simp [defX, xSeq, xNext, xAsg, gNameX, gConsX, gNilX, gTupX, gSubX, xVar, xC, xOp, xUn, oI_int, oNeg_int, xB, asB_bl, xIfS, xRet, xRetN, xDrop, xBreak, xCont, xCons, xNil, xTup, xLst, xCB, xCall, xCallX, xAnd, xOr, xNot, xAndV, xOrV, xNotV, xIf, xYes, xTru, truD, xIsN, xNotN, nonD, xFld, xSetF, xAugF, xMeth, xMethX, xMake, xBM, xDGet, xDPut, xDIn, xDNew, xPart, xNoPart, xSl, nox_ok, toS_ok, finX, R.bind, R.bindS, RS.seq, RS.turn, R.bindE, xFor, xForE, iR1, iR2, iL, iT, iE, iZ, xLc, xAug, xAssert, str_beq, at_set, insX, setFX, putFX, setLX, putDX, getDX, oDGet, oDIn, putX, valX, keyD_int, keyD_str, List.lookup, oInSet, xDisp, xPCons, xPNil, keysX, mergeX, rdL_app_ge, rdL_app_self, rdL_zero, rdL_succ, at_app_ge, at_app_self, at_zero, at_succ, f_Chooser_turn_pointer_l1, bSet, bInts, hl, intsOf_map, hz]
  simp [defX, xSeq, xNext, xAsg, gNameX, gConsX, gNilX, gTupX, gSubX, xVar, xC, xOp, xUn, oI_int, oNeg_int, xB, asB_bl, xIfS, xRet, xRetN, xDrop, xBreak, xCont, xCons, xNil, xTup, xLst, xCB, xCall, xCallX, xAnd, xOr, xNot, xAndV, xOrV, xNotV, xIf, xYes, xTru, truD, xIsN, xNotN, nonD, xFld, xSetF, xAugF, xMeth, xMethX, xMake, xBM, xDGet, xDPut, xDIn, xDNew, xPart, xNoPart, xSl, nox_ok, toS_ok, finX, R.bind, R.bindS, RS.seq, RS.turn, R.bindE, xFor, xForE, iR1, iR2, iL, iT, iE, iZ, xLc, xAug, xAssert, str_beq, at_set, insX, setFX, putFX, setLX, putDX, getDX, oDGet, oDIn, putX, valX, keyD_int, keyD_str, List.lookup, oInSet, xDisp, xPCons, xPNil, keysX, mergeX, rdL_app_ge, rdL_app_self, rdL_zero, rdL_succ, at_app_ge, at_app_self, at_zero, at_succ] at hw
  rw [hw]
theorem choose_sp {S : Sto} {as : List Int} {b n p l k r p' : Nat} {bits bits' : List Int} (h : PrO S b n p bits) (hl : rdL S l = some (as.map .int)) (hz : as.length ≤ 4000) (hc : clk as n k p bits = some (r, p', bits')) :
    ∃ S', f_Chooser_choose [.ref b, .ref l] S = .ok (.int r) S' ∧ PrO S' b n p' bits' ∧ Frm b 4 S S' := by
  obtain ⟨S', e', P', F'⟩ := turn_sp h hl hz hc
  obtain ⟨⟨t, h1⟩, _⟩ := h
  refine ⟨S', ?_, P', F'⟩
  rw [f_Chooser_choose_eq]
  simp (decide := true) [defX, xSeq, xNext, xAsg, gNameX, gConsX, gNilX, gTupX, gSubX, xVar, xC, xOp, xUn, oI_int, oNeg_int, xB, asB_bl, xIfS, xRet, xRetN, xDrop, xBreak, xCont, xCons, xNil, xTup, xLst, xCB, xCall, xCallX, xAnd, xOr, xNot, xAndV, xOrV, xNotV, xIf, xYes, xTru, truD, xIsN, xNotN, nonD, xFld, xSetF, xAugF, xMeth, xMethX, xMake, xBM, xDGet, xDPut, xDIn, xDNew, xPart, xNoPart, xSl, nox_ok, toS_ok, finX, R.bind, R.bindS, RS.seq, RS.turn, R.bindE, xFor, xForE, iR1, iR2, iL, iT, iE, iZ, xLc, xAug, xAssert, str_beq, at_set, insX, setFX, putFX, setLX, putDX, getDX, oDGet, oDIn, putX, valX, keyD_int, keyD_str, List.lookup, oInSet, xDisp, xPCons, xPNil, keysX, mergeX, rdL_app_ge, rdL_app_self, rdL_zero, rdL_succ, at_app_ge, at_app_self, at_zero, at_succ, h1, e']
/-! ### the plain one -/
theorem pick_loop {as : List Int} {b n l : Nat} (hl0 : l < b ∨ b + 5 ≤ l) : ∀ {items : List D} {S : Sto} {p : Nat} {bits : List Int} {full : List Bool} {r p' : Nat} {bits' : List Int} {o1 o2 o3 o4 : Option D}, PrD S b n p bits full → rdL S l = some (as.map .int) → clk as n items.length p bits = some (r, p', bits') →
    ∃ S', loopX (fun _ => True) (gNameX 2) f_l_chooser_pick_b1 items [some (.ref b), some (.ref l), o1, o2, o3, o4] S = .ret (.int r) S' ∧ PrD S' b n p' bits' full ∧ Frm b 5 S S'
  | [], _, _, _, _, _, _, _, _, _, _, _, _, _, h => by cases h
  | x :: items, S, p, bits, full, r, p', bits', o1, o2, o3, o4, hP, hset, hc => by
    have hP0 := hP
    obtain ⟨⟨t, h1⟩, ⟨fa, h2, h3⟩, ⟨ua, h4, h5⟩, h6, h6', h7, h7', h8, h9⟩ := hP
    have l1 := at_lt h1
    have l6 := at_lt h6
    have x1 : ixN n (p : Int) = some p := by rw [ixN_of (by omega) (by omega)]; simp
    have x2 : 0 < n := by omega
    have x3 : ((p : Int) + 1) % (n : Int) = (((p + 1) % n : Nat) : Int) := by simp
    have x4 : L2.atI (bits.map D.int) (p : Int) = some (.int (bitAt bits p)) := atI_of (by omega) (by simp [bitAt, List.getD, show p < bits.length by omega])
    have hs1 : b ≠ l := by omega
    have hs2 : b + 3 ≠ l := by omega
    have r6 := rdL_lst h6
    have hany : inV (.int (p : Int)) (as.map V.int) = memI as p := inV_ints
    let S1 := S.set b (O.dK [(.inr "kind", .str "clock"), (.inr "time", .int t), (.inr "under", .int (((p + 1) % n : Nat) : Int)), (.inr "filled", .ref (b + 1)), (.inr "used", .ref (b + 2)), (.inr "bits", .ref (b + 3)), (.inr "full", .ref (b + 4))])
    have hp' : (p + 1) % n < n := Nat.mod_lt _ (by omega)
    have P1 : PrD S1 b n ((p + 1) % n) bits full := by
      refine ⟨⟨t, ?_⟩, ⟨fa, ?_, h3⟩, ⟨ua, ?_, h5⟩, ?_, ?_, h7, h7', hp', h9⟩ <;> simp [S1, at_set, l1, h2, h4, h6, h6']
    have F1 : Frm b 5 S S1 := Frm.set (by omega)
    have hset1 : rdL S1 l = some (as.map .int) := F1.rd hset (by omega)
    have hi1 : (itemsOf S1 (.ref l)).bind scVs = some (as.map V.int) := by simp [hset1, scVs_ints]
    rw [loopX_cons trivial]
    rw [List.length_cons, clk] at hc
    split at hc
    · rename_i ha
      split at hc
      · rename_i hz
        cases hc
        refine ⟨S1, ?_, P1, F1⟩
        simp (decide := true) [f_l_chooser_pick_b1, f_l_chooser_pick_t1, defX, xSeq, xNext, xAsg, gNameX, gConsX, gNilX, gTupX, gSubX, xVar, xC, xOp, xUn, oI_int, oNeg_int, xB, asB_bl, xIfS, xRet, xRetN, xDrop, xBreak, xCont, xCons, xNil, xTup, xLst, xCB, xCall, xCallX, xAnd, xOr, xNot, xAndV, xOrV, xNotV, xIf, xYes, xTru, truD, xIsN, xNotN, nonD, xFld, xSetF, xAugF, xMeth, xMethX, xMake, xBM, xDGet, xDPut, xDIn, xDNew, xPart, xNoPart, xSl, nox_ok, toS_ok, finX, R.bind, R.bindS, RS.seq, RS.turn, R.bindE, xFor, xForE, iR1, iR2, iL, iT, iE, iZ, xLc, xAug, xAssert, str_beq, at_set, insX, setFX, putFX, setLX, putDX, getDX, oDGet, oDIn, putX, valX, keyD_int, keyD_str, List.lookup, oInSet, xDisp, xPCons, xPNil, keysX, mergeX, rdL_app_ge, rdL_app_self, rdL_zero, rdL_succ, at_app_ge, at_app_self, at_zero, at_succ, h1, h6, r6, l1, h7, x2, x4, hs1, ha, hz, bLen, rdL_set_ne, hset, scVs_ints, hany, oIC, oIxL, oIn, scV, S1]
      · rename_i hz
        have P2 : PrD (S1.set (b + 3) (.lst ((bits.map D.int).set p (.int 0)))) b n ((p + 1) % n) (bits.set p 0) full := by
          obtain ⟨⟨t', g1⟩, ⟨fa', g2, g3⟩, ⟨ua', g4, g5⟩, g6, g6', g7, g7', g8, g9⟩ := P1
          have l3 := at_lt g6
          refine ⟨⟨t', ?_⟩, ⟨fa', ?_, g3⟩, ⟨ua', ?_, g5⟩, ?_, ?_, by simp [g7], g7', g8, g9⟩ <;> simp [at_set, l3, g1, g2, g4, g6', List.map_set]
        have F2 : Frm b 5 S (S1.set (b + 3) (.lst ((bits.map D.int).set p (.int 0)))) := F1.trans (Frm.set (by omega))
        obtain ⟨S', e', P', F'⟩ := pick_loop hl0 P2 (F2.rd hset (by omega)) hc (items := items) (o1 := some x) (o2 := some (.int p)) (o3 := o3) (o4 := o4)
        refine ⟨S', ?_, P', F2.trans F'⟩
        rw [← e']
        simp (decide := true) [f_l_chooser_pick_b1, f_l_chooser_pick_t1, defX, xSeq, xNext, xAsg, gNameX, gConsX, gNilX, gTupX, gSubX, xVar, xC, xOp, xUn, oI_int, oNeg_int, xB, asB_bl, xIfS, xRet, xRetN, xDrop, xBreak, xCont, xCons, xNil, xTup, xLst, xCB, xCall, xCallX, xAnd, xOr, xNot, xAndV, xOrV, xNotV, xIf, xYes, xTru, truD, xIsN, xNotN, nonD, xFld, xSetF, xAugF, xMeth, xMethX, xMake, xBM, xDGet, xDPut, xDIn, xDNew, xPart, xNoPart, xSl, nox_ok, toS_ok, finX, R.bind, R.bindS, RS.seq, RS.turn, R.bindE, xFor, xForE, iR1, iR2, iL, iT, iE, iZ, xLc, xAug, xAssert, str_beq, at_set, insX, setFX, putFX, setLX, putDX, getDX, oDGet, oDIn, putX, valX, keyD_int, keyD_str, List.lookup, oInSet, xDisp, xPCons, xPNil, keysX, mergeX, rdL_app_ge, rdL_app_self, rdL_zero, rdL_succ, at_app_ge, at_app_self, at_zero, at_succ, h1, h6, r6, l1, l6, h7, x1, x2, x4, hs1, ha, hz, bLen, rdL_set_ne, hset, scVs_ints, hany, oIC, oIxL, oIn, scV, S1]
    · rename_i ha
      obtain ⟨S', e', P', F'⟩ := pick_loop hl0 P1 hset1 hc (items := items) (o1 := some x) (o2 := some (.int p)) (o3 := o3) (o4 := o4)
      refine ⟨S', ?_, P', F1.trans F'⟩
      rw [← e']
      simp (decide := true) [f_l_chooser_pick_b1, f_l_chooser_pick_t1, defX, xSeq, xNext, xAsg, gNameX, gConsX, gNilX, gTupX, gSubX, xVar, xC, xOp, xUn, oI_int, oNeg_int, xB, asB_bl, xIfS, xRet, xRetN, xDrop, xBreak, xCont, xCons, xNil, xTup, xLst, xCB, xCall, xCallX, xAnd, xOr, xNot, xAndV, xOrV, xNotV, xIf, xYes, xTru, truD, xIsN, xNotN, nonD, xFld, xSetF, xAugF, xMeth, xMethX, xMake, xBM, xDGet, xDPut, xDIn, xDNew, xPart, xNoPart, xSl, nox_ok, toS_ok, finX, R.bind, R.bindS, RS.seq, RS.turn, R.bindE, xFor, xForE, iR1, iR2, iL, iT, iE, iZ, xLc, xAug, xAssert, str_beq, at_set, insX, setFX, putFX, setLX, putDX, getDX, oDGet, oDIn, putX, valX, keyD_int, keyD_str, List.lookup, oInSet, xDisp, xPCons, xPNil, keysX, mergeX, rdL_app_ge, rdL_app_self, rdL_zero, rdL_succ, at_app_ge, at_app_self, at_zero, at_succ, h1, h6, r6, l1, h7, x2, x4, hs1, ha, bLen, rdL_set_ne, hset, scVs_ints, hany, oIC, oIxL, oIn, scV, S1]
theorem pick_sp {S : Sto} {as : List Int} {b n p l r p' : Nat} {bits bits' : List Int} {full : List Bool} (h : PrD S b n p bits full) (hl : rdL S l = some (as.map .int)) (hl0 : l < b ∨ b + 5 ≤ l) (hc : clk as n (2 * n) p bits = some (r, p', bits')) :
    ∃ S', f_l_chooser_pick [.ref b, .ref l] S = .ok (.int r) S' ∧ PrD S' b n p' bits' full ∧ Frm b 5 S S' := by
  have e2 : (2 * (n : Int)).toNat = 2 * n := by omega
  obtain ⟨S', e', P', F'⟩ := pick_loop hl0 h hl (items := rngD 0 (2 * n)) (by rw [rngD_len]; exact hc) (o1 := none) (o2 := none) (o3 := none) (o4 := none)
  obtain ⟨⟨t, h1⟩, ⟨fa, h2, h3⟩, ⟨ua, h4, h5⟩, h6, h6', h7, h7', h8, h9⟩ := h
  have r6 := rdL_lst h6
  have hr : RngOk (2 * (n : Int)) := rngOk (by omega)
  have hm : CMul 2 (n : Int) := .inl (by decide)
  refine ⟨S', ?_, P', F'⟩
  rw [f_l_chooser_pick_eq]
  simp (decide := true) [defX, xSeq, xNext, xAsg, gNameX, gConsX, gNilX, gTupX, gSubX, xVar, xC, xOp, xUn, oI_int, oNeg_int, xB, asB_bl, xIfS, xRet, xRetN, xDrop, xBreak, xCont, xCons, xNil, xTup, xLst, xCB, xCall, xCallX, xAnd, xOr, xNot, xAndV, xOrV, xNotV, xIf, xYes, xTru, truD, xIsN, xNotN, nonD, xFld, xSetF, xAugF, xMeth, xMethX, xMake, xBM, xDGet, xDPut, xDIn, xDNew, xPart, xNoPart, xSl, nox_ok, toS_ok, finX, R.bind, R.bindS, RS.seq, RS.turn, R.bindE, xFor, xForE, iR1, iR2, iL, iT, iE, iZ, xLc, xAug, xAssert, str_beq, at_set, insX, setFX, putFX, setLX, putDX, getDX, oDGet, oDIn, putX, valX, keyD_int, keyD_str, List.lookup, oInSet, xDisp, xPCons, xPNil, keysX, mergeX, rdL_app_ge, rdL_app_self, rdL_zero, rdL_succ, at_app_ge, at_app_self, at_zero, at_succ, h1, h6, r6, h7, bLen, oIC, hm, hr, e2, e', f_l_chooser_pick_l1]
theorem told_sp {S : Sto} {b d n p : Nat} {bits : List Int} {full : List Bool} {i : Int} {wh : Str} {v : Bool} (hw : (wh = "filled" ∧ v = true) ∨ (wh = "touched" ∧ v = true) ∨ (wh = "emptied" ∧ v = false)) (ho : PrO S b n p bits) (h : PrD S d n p bits full) (hd : d = b + 4) (h0 : 0 ≤ i) (hi : i < n) :
    ∃ S', f_l_chooser_told [.ref b, .ref d, .str wh, .int i] S = .ok (.bl true) S' ∧ PrO S' b n p (bits.set i.toNat (if v = true then 1 else 0)) ∧ PrD S' d n p (bits.set i.toNat (if v = true then 1 else 0)) (full.set i.toNat v) ∧ Frm b 9 S S' := by
  obtain ⟨S1, e1, P1, F1⟩ := tell_sp hw h h0 hi
  have O1 := ho.fr F1 (by omega)
  obtain ⟨⟨t, g1⟩, _⟩ := id O1
  have w1 : Frm b 9 S S1 := ⟨F1.le, fun j hj n => F1.eq j hj (by omega)⟩
  rw [f_l_chooser_told_eq]
  rcases hw with ⟨rfl, rfl⟩ | ⟨rfl, rfl⟩ | ⟨rfl, rfl⟩
  · obtain ⟨S2, e2, P2, F2⟩ := filled_sp O1 h0 hi
    refine ⟨S2, ?_, P2, P1.fr F2 (by omega), w1.trans ⟨F2.le, fun j hj n => F2.eq j hj (by omega)⟩⟩
    simp (decide := true) [defX, xSeq, xNext, xAsg, gNameX, gConsX, gNilX, gTupX, gSubX, xVar, xC, xOp, xUn, oI_int, oNeg_int, xB, asB_bl, xIfS, xRet, xRetN, xDrop, xBreak, xCont, xCons, xNil, xTup, xLst, xCB, xCall, xCallX, xAnd, xOr, xNot, xAndV, xOrV, xNotV, xIf, xYes, xTru, truD, xIsN, xNotN, nonD, xFld, xSetF, xAugF, xMeth, xMethX, xMake, xBM, xDGet, xDPut, xDIn, xDNew, xPart, xNoPart, xSl, nox_ok, toS_ok, finX, R.bind, R.bindS, RS.seq, RS.turn, R.bindE, xFor, xForE, iR1, iR2, iL, iT, iE, iZ, xLc, xAug, xAssert, str_beq, at_set, insX, setFX, putFX, setLX, putDX, getDX, oDGet, oDIn, putX, valX, keyD_int, keyD_str, List.lookup, oInSet, xDisp, xPCons, xPNil, keysX, mergeX, rdL_app_ge, rdL_app_self, rdL_zero, rdL_succ, at_app_ge, at_app_self, at_zero, at_succ, g1, e1, e2]
  · obtain ⟨S2, e2, P2, F2⟩ := touched_sp O1 h0 hi
    refine ⟨S2, ?_, P2, P1.fr F2 (by omega), w1.trans ⟨F2.le, fun j hj n => F2.eq j hj (by omega)⟩⟩
    simp (decide := true) [defX, xSeq, xNext, xAsg, gNameX, gConsX, gNilX, gTupX, gSubX, xVar, xC, xOp, xUn, oI_int, oNeg_int, xB, asB_bl, xIfS, xRet, xRetN, xDrop, xBreak, xCont, xCons, xNil, xTup, xLst, xCB, xCall, xCallX, xAnd, xOr, xNot, xAndV, xOrV, xNotV, xIf, xYes, xTru, truD, xIsN, xNotN, nonD, xFld, xSetF, xAugF, xMeth, xMethX, xMake, xBM, xDGet, xDPut, xDIn, xDNew, xPart, xNoPart, xSl, nox_ok, toS_ok, finX, R.bind, R.bindS, RS.seq, RS.turn, R.bindE, xFor, xForE, iR1, iR2, iL, iT, iE, iZ, xLc, xAug, xAssert, str_beq, at_set, insX, setFX, putFX, setLX, putDX, getDX, oDGet, oDIn, putX, valX, keyD_int, keyD_str, List.lookup, oInSet, xDisp, xPCons, xPNil, keysX, mergeX, rdL_app_ge, rdL_app_self, rdL_zero, rdL_succ, at_app_ge, at_app_self, at_zero, at_succ, g1, e1, e2]
  · obtain ⟨S2, e2, P2, F2⟩ := emptied_sp O1 h0 hi
    refine ⟨S2, ?_, P2, P1.fr F2 (by omega), w1.trans ⟨F2.le, fun j hj n => F2.eq j hj (by omega)⟩⟩
    simp (decide := true) [defX, xSeq, xNext, xAsg, gNameX, gConsX, gNilX, gTupX, gSubX, xVar, xC, xOp, xUn, oI_int, oNeg_int, xB, asB_bl, xIfS, xRet, xRetN, xDrop, xBreak, xCont, xCons, xNil, xTup, xLst, xCB, xCall, xCallX, xAnd, xOr, xNot, xAndV, xOrV, xNotV, xIf, xYes, xTru, truD, xIsN, xNotN, nonD, xFld, xSetF, xAugF, xMeth, xMethX, xMake, xBM, xDGet, xDPut, xDIn, xDNew, xPart, xNoPart, xSl, nox_ok, toS_ok, finX, R.bind, R.bindS, RS.seq, RS.turn, R.bindE, xFor, xForE, iR1, iR2, iL, iT, iE, iZ, xLc, xAug, xAssert, str_beq, at_set, insX, setFX, putFX, setLX, putDX, getDX, oDGet, oDIn, putX, valX, keyD_int, keyD_str, List.lookup, oInSet, xDisp, xPCons, xPNil, keysX, mergeX, rdL_app_ge, rdL_app_self, rdL_zero, rdL_succ, at_app_ge, at_app_self, at_zero, at_succ, g1, e1, e2]
end

section
open Mi
/-- the frames that are full, or that are not -/
def idx (full : List Bool) (v : Bool) : List Int := ((List.range full.length).filter fun i => full.getD i false == v).map fun (i : Nat) => (i : Int)
theorem idx_mem {full : List Bool} {v : Bool} {x : Int} (h : x ∈ idx full v) : ∃ i : Nat, i < full.length ∧ x = (i : Int) := by
  obtain ⟨i, hi, rfl⟩ := List.mem_map.mp h
  exact ⟨i, List.mem_range.mp (List.mem_filter.mp hi).1, rfl⟩
theorem parts_len (f : Nat → Bool) : ∀ l : List Nat, (l.filter fun i => f i == true).length + (l.filter fun i => f i == false).length = l.length
  | [] => rfl
  | i :: l => by
    have := parts_len f l
    rw [List.filter_cons, List.filter_cons, List.length_cons]
    cases hf : f i <;> simp [hf] at this ⊢ <;> omega
theorem idx_len (full : List Bool) : (idx full true).length + (idx full false).length = full.length := by
  unfold idx
  rw [List.length_map, List.length_map, parts_len (fun i => full.getD i false), List.length_range]
def gIdx (full : List Bool) (v : Bool) : D → Option D := fun x => match x with
  | .int i => if (full.getD i.toNat false == v) = true then some (.int i) else none
  | _ => none
theorem gIdx_at {full : List Bool} {v w : Bool} {i : Nat} (h : full.getD i false = w) : gIdx full v (.int (i : Int)) = if w = v then some (.int (i : Int)) else none := by
  show (if (full.getD ((i : Int)).toNat false == v) = true then _ else _) = _
  rw [Int.toNat_natCast, h]
  cases w <;> cases v <;> rfl
theorem gIdx_map (full : List Bool) (v : Bool) : (rngD 0 full.length).filterMap (gIdx full v) = (idx full v).map .int := by
  unfold rngD idx
  rw [List.filterMap_map]
  have : ∀ l : List Nat, l.filterMap (gIdx full v ∘ fun (i : Nat) => D.int (0 + (i : Int))) = ((l.filter fun i => full.getD i false == v).map fun (i : Nat) => (i : Int)).map D.int := fun l => by
    induction l with
    | nil => rfl
    | cons i l ih =>
      have e : (0 + (i : Int)).toNat = i := by omega
      rw [List.filterMap_cons, List.filter_cons]
      simp only [Function.comp, gIdx, e]
      split
      · rename_i hn
        split at hn
        · cases hn
        · rename_i hf
          rw [if_neg hf]
          exact ih
      · rename_i y hy
        split at hy
        · rename_i hf
          cases hy
          rw [if_pos hf, List.map_cons, List.map_cons]
          exact List.cons_eq_cons.mpr ⟨by rw [Int.zero_add], ih⟩
        · cases hy
  exact this _
theorem idx_turn {S : Sto} {d n p : Nat} {bits : List Int} {full : List Bool} (h : PrD S d n p bits full) (acc : List D) {i : Nat} (hi : i < n) {o0 o1 o2 o4 : Option D} {r : Mi.Env} :
    xOp oIxL (xOp oDGet (xVar 3) (xC (.str "full"))) (xVar 5) (o0 :: o1 :: o2 :: some (.ref d) :: o4 :: some (.int (i : Int)) :: r) (S ++ [.lst acc]) = .ok (.bl (full.getD i false)) (S ++ [.lst acc]) := by
  obtain ⟨⟨t, h1⟩, ⟨fa, h2, h3⟩, ⟨ua, h4, h5⟩, h6, h6', h7, h7', h8, h9⟩ := h
  have r6 := rdL_lst h6'
  have l1 := at_lt h1
  have l6 := at_lt h6'
  have x4 : L2.atI (full.map D.bl) (i : Int) = some (.bl (full.getD i false)) := atI_of (by omega) (by simp [List.getD, show i < full.length by omega])
  simp (decide := true) [defX, xSeq, xNext, xAsg, gNameX, gConsX, gNilX, gTupX, gSubX, xVar, xC, xOp, xUn, oI_int, oNeg_int, xB, asB_bl, xIfS, xRet, xRetN, xDrop, xBreak, xCont, xCons, xNil, xTup, xLst, xCB, xCall, xCallX, xAnd, xOr, xNot, xAndV, xOrV, xNotV, xIf, xYes, xTru, truD, xIsN, xNotN, nonD, xFld, xSetF, xAugF, xMeth, xMethX, xMake, xBM, xDGet, xDPut, xDIn, xDNew, xPart, xNoPart, xSl, nox_ok, toS_ok, finX, R.bind, R.bindS, RS.seq, RS.turn, R.bindE, xFor, xForE, iR1, iR2, iL, iT, iE, iZ, xLc, xAug, xAssert, str_beq, at_set, insX, setFX, putFX, setLX, putDX, getDX, oDGet, oDIn, putX, valX, keyD_int, keyD_str, List.lookup, oInSet, xDisp, xPCons, xPNil, keysX, mergeX, rdL_app_ge, rdL_app_self, rdL_zero, rdL_succ, at_app_ge, at_app_self, at_zero, at_succ, at_app_lt, rdL_app_lt, l1, l6, h1, r6, x4, oIxL]
theorem call_c1 {S : Sto} {d n p : Nat} {bits : List Int} {full : List Bool} (h : PrD S d n p bits full) {o0 o1 o2 o4 o5 : Option D} {r : Mi.Env} : f_l_chooser_call_c1 (o0 :: o1 :: o2 :: some (.ref d) :: o4 :: o5 :: r) S = .ok (.ref S.length) (S ++ [.lst ((idx full true).map .int)]) := by
  have hP := h
  obtain ⟨⟨t, h1⟩, ⟨fa, h2, h3⟩, ⟨ua, h4, h5⟩, h6, h6', h7, h7', h8, h9⟩ := h
  have r6 := rdL_lst h6'
  have hr : RngOk (n : Int) := rngOk (by omega)
  simp (decide := true) [f_l_chooser_call_c1, defX, xSeq, xNext, xAsg, gNameX, gConsX, gNilX, gTupX, gSubX, xVar, xC, xOp, xUn, oI_int, oNeg_int, xB, asB_bl, xIfS, xRet, xRetN, xDrop, xBreak, xCont, xCons, xNil, xTup, xLst, xCB, xCall, xCallX, xAnd, xOr, xNot, xAndV, xOrV, xNotV, xIf, xYes, xTru, truD, xIsN, xNotN, nonD, xFld, xSetF, xAugF, xMeth, xMethX, xMake, xBM, xDGet, xDPut, xDIn, xDNew, xPart, xNoPart, xSl, nox_ok, toS_ok, finX, R.bind, R.bindS, RS.seq, RS.turn, R.bindE, xFor, xForE, iR1, iR2, iL, iT, iE, iZ, xLc, xAug, xAssert, str_beq, at_set, insX, setFX, putFX, setLX, putDX, getDX, oDGet, oDIn, putX, valX, keyD_int, keyD_str, List.lookup, oInSet, xDisp, xPCons, xPNil, keysX, mergeX, rdL_app_ge, rdL_app_self, rdL_zero, rdL_succ, at_app_ge, at_app_self, at_zero, at_succ, h1, r6, bLen, h7', hr]
  rw [lc_pure (gIdx full true)]
  · rw [List.nil_append, ← h7', gIdx_map]
  · intro _; trivial
  · intro x hx acc
    obtain ⟨i, hi, rfl⟩ := rngD_mem hx
    rw [Int.zero_add]
    refine ⟨_, rfl, ?_⟩
    have e := idx_turn hP acc hi (o0 := o0) (o1 := o1) (o2 := o2) (o4 := o4) (r := r)
    cases hf : full.getD i false <;> rw [hf] at e
    · have hg : gIdx full true (.int (i : Int)) = none := gIdx_at hf
      rw [hg]
      show xB _ _ _ = _
      unfold xB
      show R.bind (xOp oIxL _ _ (o0 :: o1 :: o2 :: some (.ref d) :: o4 :: some (.int (i : Int)) :: r) _) _ = _
      rw [e]
      rfl
    · have hg : gIdx full true (.int (i : Int)) = some (.int (i : Int)) := gIdx_at hf
      rw [hg]
      refine ⟨?_, rfl⟩
      unfold xB
      show R.bind (xOp oIxL _ _ (o0 :: o1 :: o2 :: some (.ref d) :: o4 :: some (.int (i : Int)) :: r) _) _ = _
      rw [e]
      rfl
  · simp; omega
theorem call_c2 {S : Sto} {d n p : Nat} {bits : List Int} {full : List Bool} (h : PrD S d n p bits full) {o0 o1 o2 o4 o5 : Option D} {r : Mi.Env} : f_l_chooser_call_c2 (o0 :: o1 :: o2 :: some (.ref d) :: o4 :: o5 :: r) S = .ok (.ref S.length) (S ++ [.lst ((idx full false).map .int)]) := by
  have hP := h
  obtain ⟨⟨t, h1⟩, ⟨fa, h2, h3⟩, ⟨ua, h4, h5⟩, h6, h6', h7, h7', h8, h9⟩ := h
  have r6 := rdL_lst h6'
  have hr : RngOk (n : Int) := rngOk (by omega)
  simp (decide := true) [f_l_chooser_call_c2, defX, xSeq, xNext, xAsg, gNameX, gConsX, gNilX, gTupX, gSubX, xVar, xC, xOp, xUn, oI_int, oNeg_int, xB, asB_bl, xIfS, xRet, xRetN, xDrop, xBreak, xCont, xCons, xNil, xTup, xLst, xCB, xCall, xCallX, xAnd, xOr, xNot, xAndV, xOrV, xNotV, xIf, xYes, xTru, truD, xIsN, xNotN, nonD, xFld, xSetF, xAugF, xMeth, xMethX, xMake, xBM, xDGet, xDPut, xDIn, xDNew, xPart, xNoPart, xSl, nox_ok, toS_ok, finX, R.bind, R.bindS, RS.seq, RS.turn, R.bindE, xFor, xForE, iR1, iR2, iL, iT, iE, iZ, xLc, xAug, xAssert, str_beq, at_set, insX, setFX, putFX, setLX, putDX, getDX, oDGet, oDIn, putX, valX, keyD_int, keyD_str, List.lookup, oInSet, xDisp, xPCons, xPNil, keysX, mergeX, rdL_app_ge, rdL_app_self, rdL_zero, rdL_succ, at_app_ge, at_app_self, at_zero, at_succ, h1, r6, bLen, h7', hr]
  rw [lc_pure (gIdx full false)]
  · rw [List.nil_append, ← h7', gIdx_map]
  · intro _; trivial
  · intro x hx acc
    obtain ⟨i, hi, rfl⟩ := rngD_mem hx
    rw [Int.zero_add]
    refine ⟨_, rfl, ?_⟩
    have e := idx_turn hP acc hi (o0 := o0) (o1 := o1) (o2 := o2) (o4 := o4) (r := r)
    cases hf : full.getD i false <;> rw [hf] at e
    · have hg : gIdx full false (.int (i : Int)) = some (.int (i : Int)) := gIdx_at hf
      rw [hg]
      refine ⟨?_, rfl⟩
      unfold xNot xB
      show R.bind (R.bind (xOp oIxL _ _ (o0 :: o1 :: o2 :: some (.ref d) :: o4 :: some (.int (i : Int)) :: r) _) _) _ = _
      rw [e]
      rfl
    · have hg : gIdx full false (.int (i : Int)) = none := gIdx_at hf
      rw [hg]
      show xNot _ _ _ = _
      unfold xNot xB
      show R.bind (R.bind (xOp oIxL _ _ (o0 :: o1 :: o2 :: some (.ref d) :: o4 :: some (.int (i : Int)) :: r) _) _) _ = _
      rw [e]
      rfl
  · simp; omega
end

section
open Mi
theorem num_in {S : Sto} {l0 : Nat} {ns : List Int} {a k sz : Int} (h : rdL S l0 = some (ns.map .int)) (hl : ns.length ≤ 63) (ok : NumOk a k sz) : ∃ q : Int, fNumber [.ref l0, .int a, .int k, .int sz] S = .ok (.int q) S ∧ 0 ≤ q ∧ q < sz := by
  refine ⟨lawNum ns a k sz, fNumber_eq h hl ok, lawNum_nn _ _ _ _ ?_, lawNum_lt _ _ _ _ ?_⟩ <;> (unfold NumOk at ok; omega)
theorem num_same {S S' : Sto} {l0 : Nat} {ns : List Int} {a k sz q : Int} (h : rdL S l0 = some (ns.map .int)) (h' : rdL S' l0 = some (ns.map .int)) (hl : ns.length ≤ 63) (ok : NumOk a k sz) (e : fNumber [.ref l0, .int a, .int k, .int sz] S = .ok (.int q) S) : fNumber [.ref l0, .int a, .int k, .int sz] S' = .ok (.int q) S' := by
  rw [fNumber_eq h hl ok] at e
  cases e
  exact fNumber_eq h' hl ok
theorem pop_turn {S : Sto} {l0 P : Nat} {ns pool alw : List Int} {at' : Int} (hn : rdL S l0 = some (ns.map .int)) (hl : ns.length ≤ 63) (ha : 0 ≤ at' ∧ at' ≤ 100) (hP : at_ S P = some (.lst (pool.map .int))) (hA : at_ S (P + 1) = some (.lst (alw.map .int))) (hp : 0 < pool.length) (hz : alw.length < 1000) (hz2 : pool.length < 1000) (i : Nat) {o2 o3 o4 o6 o7 : Option D} {r : Mi.Env} :
    ∃ (q : Nat) (x : Int), pool[q]? = some x ∧ f_l_chooser_call_b1 (some (.ref l0) :: some (.int at') :: o2 :: o3 :: o4 :: some (.int (i : Int)) :: o6 :: o7 :: some (.ref P) :: some (.ref (P + 1)) :: r) S =
      .nx (some (.ref l0) :: some (.int at') :: o2 :: o3 :: o4 :: some (.int (i : Int)) :: o6 :: o7 :: some (.ref P) :: some (.ref (P + 1)) :: r) ((S.set P (.lst ((pool.eraseIdx q).map .int))).set (P + 1) (.lst ((alw ++ [x]).map .int))) := by
  obtain ⟨q, hq, q0, q1⟩ := num_in (k := 3 + (i : Int) % 8) (sz := (pool.length : Int)) hn hl (a := at') (by unfold NumOk; omega)
  have hx : q.toNat < pool.length := by omega
  obtain ⟨y, hy⟩ : ∃ y, pool[q.toNat]? = some y := ⟨_, List.getElem?_eq_getElem hx⟩
  refine ⟨q.toNat, y, hy, ?_⟩
  have rP := rdL_lst hP
  have rA := rdL_lst hA
  have lP := at_lt hP
  have lA := at_lt hA
  have pk : PopOk q := by unfold PopOk; omega
  have sk : seqIndex? q pool.length = some q.toNat := seqIx q0 q1
  have e8 : (0 : Int) < 8 := by decide
  simp (decide := true) [f_l_chooser_call_b1, defX, xSeq, xNext, xAsg, gNameX, gConsX, gNilX, gTupX, gSubX, xVar, xC, xOp, xUn, oI_int, oNeg_int, xB, asB_bl, xIfS, xRet, xRetN, xDrop, xBreak, xCont, xCons, xNil, xTup, xLst, xCB, xCall, xCallX, xAnd, xOr, xNot, xAndV, xOrV, xNotV, xIf, xYes, xTru, truD, xIsN, xNotN, nonD, xFld, xSetF, xAugF, xMeth, xMethX, xMake, xBM, xDGet, xDPut, xDIn, xDNew, xPart, xNoPart, xSl, nox_ok, toS_ok, finX, R.bind, R.bindS, RS.seq, RS.turn, R.bindE, xFor, xForE, iR1, iR2, iL, iT, iE, iZ, xLc, xAug, xAssert, str_beq, at_set, insX, setFX, putFX, setLX, putDX, getDX, oDGet, oDIn, putX, valX, keyD_int, keyD_str, List.lookup, oInSet, xDisp, xPCons, xPNil, keysX, mergeX, rdL_app_ge, rdL_app_self, rdL_zero, rdL_succ, at_app_ge, at_app_self, at_zero, at_succ, isLst, rP, rA, hP, hA, bLen, oIC, hq, mL, gPopAt, pk, sk, hy, lP, lA, gAppend, show alw.length < 100000 by omega, erase_map]
theorem pop_loop {S : Sto} {l0 P : Nat} {ns pool : List Int} {at' m : Int} {G : Int → Prop} (hn : rdL S l0 = some (ns.map .int)) (h0 : l0 < P) (hl : ns.length ≤ 63) (ha : 0 ≤ at' ∧ at' ≤ 100) (hP : at_ S P = some (.lst (pool.map .int))) (hA : at_ S (P + 1) = some (.lst [])) (hG : ∀ x ∈ pool, G x) (hz2 : pool.length < 1000) (hm : 0 ≤ m ∧ m ≤ pool.length) {o2 o3 o4 o5 o6 o7 : Option D} {r : Mi.Env} :
    ∃ (o5' : Option D) (S' : Sto) (alw : List Int), loopX (fun _ => True) (gNameX 5) f_l_chooser_call_b1 (rngD 0 m.toNat) (some (.ref l0) :: some (.int at') :: o2 :: o3 :: o4 :: o5 :: o6 :: o7 :: some (.ref P) :: some (.ref (P + 1)) :: r) S =
      .nx (some (.ref l0) :: some (.int at') :: o2 :: o3 :: o4 :: o5' :: o6 :: o7 :: some (.ref P) :: some (.ref (P + 1)) :: r) S' ∧ at_ S' (P + 1) = some (.lst (alw.map .int)) ∧ alw.length = m.toNat ∧ (∀ x ∈ alw, G x) ∧ Frm P 2 S S' := by
  obtain ⟨e', S', h1, o5', pl, alw, rfl, h2, h3, h4, h5, h6, h7, h8⟩ := loop_all (ok := fun _ => True) (fg := gNameX 5) (fb := f_l_chooser_call_b1) (items := rngD 0 m.toNat) (env := (some (.ref l0) :: some (.int at') :: o2 :: o3 :: o4 :: o5 :: o6 :: o7 :: some (.ref P) :: some (.ref (P + 1)) :: r)) (S := S)
    (fun i e S' => ∃ (o5' : Option D) (pl alw : List Int), e = (some (.ref l0) :: some (.int at') :: o2 :: o3 :: o4 :: o5' :: o6 :: o7 :: some (.ref P) :: some (.ref (P + 1)) :: r) ∧ at_ S' P = some (.lst (pl.map .int)) ∧ at_ S' (P + 1) = some (.lst (alw.map .int)) ∧ pl.length + i = pool.length ∧ alw.length = i ∧ (∀ x ∈ pl, G x) ∧ (∀ x ∈ alw, G x) ∧ Frm P 2 S S')
    (fun _ _ _ _ _ => trivial) (fun i x e S1 hx ⟨o5', pl, alw, he, g1, g2, g3, g4, g5, g6, g7⟩ => by
      obtain ⟨hi, rfl⟩ := rngD_get hx
      subst he
      rw [Int.zero_add]
      obtain ⟨q, y, hy, hb⟩ := pop_turn (alw := alw) (pool := pl) (g7.rd hn (by omega)) hl ha g1 g2 (by omega) (by omega) (by omega) i (o2 := o2) (o3 := o3) (o4 := o4) (o6 := o6) (o7 := o7) (r := r)
      have lq := (List.getElem?_eq_some_iff.mp hy).1
      refine ⟨_, _, rfl, _, _, .inl hb, _, pl.eraseIdx q, alw ++ [y], rfl, ?_, ?_, ?_, by rw [List.length_append, g4]; rfl, fun z hz => g5 z (List.mem_of_mem_eraseIdx hz), fun z hz => ?_, g7.trans ((Frm.set (by omega)).trans (Frm.set (by omega)))⟩
      · rw [at_set_ne (by omega), at_set_eq (at_lt g1)]
      · rw [at_set_eq (by rw [List.length_set]; exact at_lt g2)]
      · rw [List.length_eraseIdx, if_pos lq]
        omega
      · rcases List.mem_append.mp hz with hz | hz
        · exact g6 z hz
        · have : z = y := by simpa using hz
          rw [this]
          exact g5 y (List.mem_of_getElem? hy))
    ⟨o5, pool, [], rfl, hP, hA, by simp, rfl, hG, by simp, Frm.refl⟩
  rw [rngD_len] at h5
  exact ⟨o5', S', alw, h1, h3, h5, h7, h8⟩
theorem ints_sh (as : List Int) : SeqAt.shaped (.list (as.map PyData.int)) = true := by
  have : ∀ l : List Int, PyData.canLayAll0 (l.map PyData.int) = true ∧ PyData.depthAll (l.map PyData.int) = 0 := fun l => by
    induction l with
    | nil => simp [PyData.canLayAll0, PyData.depthAll]
    | cons i l ih => simp [PyData.canLayAll0, PyData.depthAll, PyData.canLay0, PyData.depth, ih]
  obtain ⟨h1, h2⟩ := this as
  unfold SeqAt.shaped
  rw [PyData.canLay0, PyData.depth, h1, h2]
  decide
theorem ints_eqv (as bs : List Int) : PyData.eqv (.list (as.map PyData.int)) (.list (bs.map PyData.int)) = decide (as = bs) := by
  have : ∀ as bs : List Int, PyData.eqvAll (as.map PyData.int) (bs.map PyData.int) = decide (as = bs) := fun as => by
    induction as with
    | nil => intro bs; cases bs <;> simp [PyData.eqvAll]
    | cons i l ih =>
      intro bs
      cases bs with
      | nil => simp [PyData.eqvAll]
      | cons j r =>
        rw [List.map_cons, List.map_cons, PyData.eqvAll, ih, Bool.eq_iff_iff]
        simp [PyData.eqv]
  rw [PyData.eqv, this]
theorem DDs.ints {S : Sto} : ∀ as : List Int, DDs S (as.map .int) (as.map PyData.int)
  | [] => .nil
  | i :: r => .cons (.int i) (DDs.ints r)
theorem oEqD_ints {S : Sto} {neg : Bool} {l m : Nat} {as bs : List Int} (h : rdL S l = some (as.map .int)) (g : rdL S m = some (bs.map .int)) : oEqD neg (.ref l) (.ref m) S = .ok (.bl (if neg = true then !decide (as = bs) else decide (as = bs))) S := by
  rw [oEqD_eq (.lst h (DDs.ints as)) (.lst g (DDs.ints bs)) (ints_sh _) (ints_sh _), ints_eqv]
end

section
open Mi
theorem Frm.w4 {S S' : Sto} {b : Nat} (f : Frm b 4 S S') : Frm b 9 S S' := ⟨f.le, fun j hj n => f.eq j hj (by omega)⟩
theorem Frm.w5 {S S' : Sto} {b : Nat} (f : Frm (b + 4) 5 S S') : Frm b 9 S S' := ⟨f.le, fun j hj n => f.eq j hj (by omega)⟩
/-- what a call promises -/
def CallOk (S : Sto) (b n : Nat) (r : R D) : Prop := ∃ (S' : Sto) (p : Nat) (bits : List Int) (full : List Bool), r = .ok (.bl true) S' ∧ PrO S' b n p bits ∧ PrD S' (b + 4) n p bits full ∧ Frm b 9 S S'
theorem told_ok {S S0 : Sto} {b n p : Nat} {bits : List Int} {full : List Bool} {i : Int} {wh : Str} {v : Bool} (hw : (wh = "filled" ∧ v = true) ∨ (wh = "touched" ∧ v = true) ∨ (wh = "emptied" ∧ v = false)) (ho : PrO S b n p bits) (h : PrD S (b + 4) n p bits full) (hi : ∃ j : Nat, j < n ∧ i = (j : Int)) (f : Frm b 9 S0 S) :
    CallOk S0 b n (f_l_chooser_told [.ref b, .ref (b + 4), .str wh, .int i] S) := by
  obtain ⟨j, hj, rfl⟩ := hi
  obtain ⟨S', e, h1, h2, h3⟩ := told_sp hw ho h rfl (show 0 ≤ (j : Int) by omega) (by omega)
  exact ⟨S', p, _, _, e, h1, h2, f.trans h3⟩
theorem CallOk.ret {S : Sto} {b n : Nat} {r : R D} (h : CallOk S b n r) : ∃ S', r = .ok (.bl true) S' := let ⟨S', _, _, _, h, _⟩ := h; ⟨S', h⟩
theorem call_t1 {S : Sto} {lE lF : Nat} {E F : List Int} {kd : Int} (hE : rdL S lE = some (E.map .int)) (hF : rdL S lF = some (F.map .int)) {o0 o1 o2 o3 o5 : Option D} {r : Mi.Env} :
    f_l_chooser_call_t1 (o0 :: o1 :: o2 :: o3 :: some (.ref lF) :: o5 :: some (.ref lE) :: some (.int kd) :: r) S = .ok (decide (0 < E.length ∧ (kd < 4 ∨ F.length = 0))) S := by
  by_cases h1 : 0 < E.length <;> by_cases h2 : kd < 4 <;> simp (decide := true) [f_l_chooser_call_t1, defX, xSeq, xNext, xAsg, gNameX, gConsX, gNilX, gTupX, gSubX, xVar, xC, xOp, xUn, oI_int, oNeg_int, xB, asB_bl, xIfS, xRet, xRetN, xDrop, xBreak, xCont, xCons, xNil, xTup, xLst, xCB, xCall, xCallX, xAnd, xOr, xNot, xAndV, xOrV, xNotV, xIf, xYes, xTru, truD, xIsN, xNotN, nonD, xFld, xSetF, xAugF, xMeth, xMethX, xMake, xBM, xDGet, xDPut, xDIn, xDNew, xPart, xNoPart, xSl, nox_ok, toS_ok, finX, R.bind, R.bindS, RS.seq, RS.turn, R.bindE, xFor, xForE, iR1, iR2, iL, iT, iE, iZ, xLc, xAug, xAssert, str_beq, at_set, insX, setFX, putFX, setLX, putDX, getDX, oDGet, oDIn, putX, valX, keyD_int, keyD_str, List.lookup, oInSet, xDisp, xPCons, xPNil, keysX, mergeX, rdL_app_ge, rdL_app_self, rdL_zero, rdL_succ, at_app_ge, at_app_self, at_zero, at_succ, bLen, hE, hF, h1, h2]
theorem call_t2 {S : Sto} {kd : Int} {o0 o1 o2 o3 o4 o5 o6 : Option D} {r : Mi.Env} :
    f_l_chooser_call_t2 (o0 :: o1 :: o2 :: o3 :: o4 :: o5 :: o6 :: some (.int kd) :: r) S = .ok (decide (kd < 5 ∨ kd = 9)) S := by
  by_cases h1 : kd < 5 <;> simp (decide := true) [f_l_chooser_call_t2, defX, xSeq, xNext, xAsg, gNameX, gConsX, gNilX, gTupX, gSubX, xVar, xC, xOp, xUn, oI_int, oNeg_int, xB, asB_bl, xIfS, xRet, xRetN, xDrop, xBreak, xCont, xCons, xNil, xTup, xLst, xCB, xCall, xCallX, xAnd, xOr, xNot, xAndV, xOrV, xNotV, xIf, xYes, xTru, truD, xIsN, xNotN, nonD, xFld, xSetF, xAugF, xMeth, xMethX, xMake, xBM, xDGet, xDPut, xDIn, xDNew, xPart, xNoPart, xSl, nox_ok, toS_ok, finX, R.bind, R.bindS, RS.seq, RS.turn, R.bindE, xFor, xForE, iR1, iR2, iL, iT, iE, iZ, xLc, xAug, xAssert, str_beq, at_set, insX, setFX, putFX, setLX, putDX, getDX, oDGet, oDIn, putX, valX, keyD_int, keyD_str, List.lookup, oInSet, xDisp, xPCons, xPNil, keysX, mergeX, rdL_app_ge, rdL_app_self, rdL_zero, rdL_succ, at_app_ge, at_app_self, at_zero, at_succ, h1]
theorem choose_turn {S : Sto} {as : List Int} {b n p A k r p' : Nat} {bits bits' : List Int} (h : PrO S b n p bits) (hA : rdL S A = some (as.map .int)) (hA0 : A < b ∨ b + 4 ≤ A) (hz : as.length ≤ 4000) (hc : clk as n k p bits = some (r, p', bits')) {o0 o1 o3 o4 o5 o6 o7 o8 o11 o12 o13 : Option D} :
    ∃ (e' : Mi.Env) (S' : Sto), f_l_chooser_call_b2 [o0, o1, some (.ref b), o3, o4, o5, o6, o7, o8, some (.ref A), some (.int (r : Int)), o11, o12, o13] S = .nx [o0, o1, some (.ref b), o3, o4, o5, o6, o7, o8, some (.ref A), some (.int (r : Int)), o11, some (.ref S.length), some (.int (r : Int))] S' ∧ PrO S' b n p' bits' ∧ Frm b 4 S S' := by
  have lb : b + 3 < S.length := at_lt h.c
  have lA := rdL_lt hA
  have h7 := h.fr (c := 0) (k := 0) (S' := S ++ [O.lst (as.map .int)]) Frm.app (by omega)
  obtain ⟨S8, e8, P8, F8⟩ := choose_sp h7 (rdL_new (xs := as.map .int) (T := [])) hz hc
  have r1 : rdL S8 S.length = some (as.map .int) := F8.rd rdL_new (by omega)
  have a1 : at_ S8 S.length = some (.lst (as.map .int)) := F8.get at_new (by omega)
  have r2 : rdL S8 A = some (as.map .int) := F8.rd (rdL_app hA) (by omega)
  have q : oEqD true (.ref S.length) (.ref A) S8 = .ok (.bl false) S8 := by
    rw [oEqD_ints r1 r2]
    simp
  obtain ⟨⟨t, g⟩, _⟩ := id h7
  refine ⟨[], S8.set S.length (.lst []), ?_, P8.fr (c := S.length) (k := 1) (Frm.set (by omega)) (by omega), ⟨?_, fun i hi hne => ?_⟩⟩
  · simp (decide := true) [f_l_chooser_call_b2, f_l_chooser_call_t3, defX, xSeq, xNext, xAsg, gNameX, gConsX, gNilX, gTupX, gSubX, xVar, xC, xOp, xUn, oI_int, oNeg_int, xB, asB_bl, xIfS, xRet, xRetN, xDrop, xBreak, xCont, xCons, xNil, xTup, xLst, xCB, xCall, xCallX, xAnd, xOr, xNot, xAndV, xOrV, xNotV, xIf, xYes, xTru, truD, xIsN, xNotN, nonD, xFld, xSetF, xAugF, xMeth, xMethX, xMake, xBM, xDGet, xDPut, xDIn, xDNew, xPart, xNoPart, xSl, nox_ok, toS_ok, finX, R.bind, R.bindS, RS.seq, RS.turn, R.bindE, xFor, xForE, iR1, iR2, iL, iT, iE, iZ, xLc, xAug, xAssert, str_beq, at_set, insX, setFX, putFX, setLX, putDX, getDX, oDGet, oDIn, putX, valX, keyD_int, keyD_str, List.lookup, oInSet, xDisp, xPCons, xPNil, keysX, mergeX, rdL_app_ge, rdL_app_self, rdL_zero, rdL_succ, at_app_ge, at_app_self, at_zero, at_succ, bList, hA, g, e8, fWhole_int, q, isLst, r1, a1, mL]
  · rw [List.length_set]
    exact Nat.le_trans (by simp) F8.le
  · rw [at_set_ne (by omega), F8.eq i (by simp; omega) hne]
    exact at_app_lt hi
theorem call_sp {S : Sto} {l0 b n p : Nat} {ns bits : List Int} {full : List Bool} {a : Int} (hn : rdL S l0 = some (ns.map .int)) (h0 : l0 < b) (hl : ns.length ≤ 63) (ha : 0 ≤ a ∧ a ≤ 100) (hO : PrO S b n p bits) (hD : PrD S (b + 4) n p bits full) (hn1 : 1 ≤ n) :
    CallOk S b n (f_l_chooser_call [.ref l0, .int a, .ref b, .ref (b + 4)] S) := by
  have hD1 := hD.fr (c := 0) (k := 0) (S' := S ++ [O.lst ((idx full true).map .int)]) Frm.app (by omega)
  have c1 := @call_c1 S (b + 4) n p bits full hD
  have c2 := @call_c2 (S ++ [O.lst ((idx full true).map .int)]) (b + 4) n p bits full hD1
  have hlen := idx_len full
  rw [hD.lf] at hlen
  have mF : ∀ x ∈ idx full true, ∃ j : Nat, j < n ∧ x = (j : Int) := fun x hx => by
    obtain ⟨j, h1, h2⟩ := idx_mem hx
    exact ⟨j, by rw [← hD.lf]; exact h1, h2⟩
  have mE : ∀ x ∈ idx full false, ∃ j : Nat, j < n ∧ x = (j : Int) := fun x hx => by
    obtain ⟨j, h1, h2⟩ := idx_mem hx
    exact ⟨j, by rw [← hD.lf]; exact h1, h2⟩
  generalize idx full true = F at *
  generalize idx full false = E at *
  have l0S : l0 < S.length := rdL_lt hn
  have bS : b + 8 < S.length := at_lt hD.g
  have n100 := hD.n1
  have hn2 : rdL (S ++ [O.lst (F.map .int), O.lst (E.map .int)]) l0 = some (ns.map .int) := rdL_app hn
  obtain ⟨kd, hk, k0, k1⟩ := num_in (k := 2) (sz := 10) hn2 hl (a := a) (by unfold NumOk; omega)
  have O2 := hO.fr (c := 0) (k := 0) (S' := S ++ [O.lst (F.map .int), O.lst (E.map .int)]) Frm.app (by omega)
  have D2 := hD.fr (c := 0) (k := 0) (S' := S ++ [O.lst (F.map .int), O.lst (E.map .int)]) Frm.app (by omega)
  have F2 : Frm b 9 S (S ++ [O.lst (F.map .int), O.lst (E.map .int)]) := Frm.app
  have rF : rdL (S ++ [O.lst (F.map .int), O.lst (E.map .int)]) S.length = some (F.map .int) := rdL_new
  have rE : rdL (S ++ [O.lst (F.map .int), O.lst (E.map .int)]) (S.length + 1) = some (E.map .int) := by simp [defX, xSeq, xNext, xAsg, gNameX, gConsX, gNilX, gTupX, gSubX, xVar, xC, xOp, xUn, oI_int, oNeg_int, xB, asB_bl, xIfS, xRet, xRetN, xDrop, xBreak, xCont, xCons, xNil, xTup, xLst, xCB, xCall, xCallX, xAnd, xOr, xNot, xAndV, xOrV, xNotV, xIf, xYes, xTru, truD, xIsN, xNotN, nonD, xFld, xSetF, xAugF, xMeth, xMethX, xMake, xBM, xDGet, xDPut, xDIn, xDNew, xPart, xNoPart, xSl, nox_ok, toS_ok, finX, R.bind, R.bindS, RS.seq, RS.turn, R.bindE, xFor, xForE, iR1, iR2, iL, iT, iE, iZ, xLc, xAug, xAssert, str_beq, at_set, insX, setFX, putFX, setLX, putDX, getDX, oDGet, oDIn, putX, valX, keyD_int, keyD_str, List.lookup, oInSet, xDisp, xPCons, xPNil, keysX, mergeX, rdL_app_ge, rdL_app_self, rdL_zero, rdL_succ, at_app_ge, at_app_self, at_zero, at_succ]
  obtain ⟨b1, t1, hb1⟩ : ∃ b1 : Bool, (∀ {o0 o1 o2 o3 o5 : Option D} {r : Mi.Env}, f_l_chooser_call_t1 (o0 :: o1 :: o2 :: o3 :: some (.ref S.length) :: o5 :: some (.ref (S.length + 1)) :: some (.int kd) :: r) (S ++ [O.lst (F.map .int), O.lst (E.map .int)]) = .ok b1 (S ++ [O.lst (F.map .int), O.lst (E.map .int)])) ∧ (b1 = true ↔ (0 < E.length ∧ (kd < 4 ∨ F.length = 0))) :=
    ⟨_, fun {_ _ _ _ _ _} => call_t1 rE rF, by rw [decide_eq_true_iff]⟩
  obtain ⟨b2, t2, hb2⟩ : ∃ b2 : Bool, (∀ {S : Sto} {o0 o1 o2 o3 o4 o5 o6 : Option D} {r : Mi.Env}, f_l_chooser_call_t2 (o0 :: o1 :: o2 :: o3 :: o4 :: o5 :: o6 :: some (.int kd) :: r) S = .ok b2 S) ∧ (b2 = true ↔ (kd < 5 ∨ kd = 9)) := ⟨_, fun {_ _ _ _ _ _ _ _ _} => call_t2, by rw [decide_eq_true_iff]⟩
  rw [f_l_chooser_call_eq]
  cases b1 with
  | true =>
    have hA := hb1.mp rfl
    obtain ⟨q, hq, q0, q1⟩ := num_in (k := 1) (sz := (E.length : Int)) hn2 hl (a := a) (by unfold NumOk; omega)
    obtain ⟨x, hx⟩ : ∃ x, E[q.toNat]? = some x := ⟨_, List.getElem?_eq_getElem (by omega)⟩
    have xa : L2.atI (E.map D.int) q = some (.int x) := atI_of q0 (by simp [hx])
    have T := told_ok (.inl ⟨rfl, rfl⟩) O2 D2 (mE x (List.mem_of_getElem? hx)) F2
    obtain ⟨S', hS'⟩ := T.ret
    simp (decide := true) [defX, xSeq, xNext, xAsg, gNameX, gConsX, gNilX, gTupX, gSubX, xVar, xC, xOp, xUn, oI_int, oNeg_int, xB, asB_bl, xIfS, xRet, xRetN, xDrop, xBreak, xCont, xCons, xNil, xTup, xLst, xCB, xCall, xCallX, xAnd, xOr, xNot, xAndV, xOrV, xNotV, xIf, xYes, xTru, truD, xIsN, xNotN, nonD, xFld, xSetF, xAugF, xMeth, xMethX, xMake, xBM, xDGet, xDPut, xDIn, xDNew, xPart, xNoPart, xSl, nox_ok, toS_ok, finX, R.bind, R.bindS, RS.seq, RS.turn, R.bindE, xFor, xForE, iR1, iR2, iL, iT, iE, iZ, xLc, xAug, xAssert, str_beq, at_set, insX, setFX, putFX, setLX, putDX, getDX, oDGet, oDIn, putX, valX, keyD_int, keyD_str, List.lookup, oInSet, xDisp, xPCons, xPNil, keysX, mergeX, rdL_app_ge, rdL_app_self, rdL_zero, rdL_succ, at_app_ge, at_app_self, at_zero, at_succ, c1, c2, t1, bLen, oIxL, hk, hq, xa]
    rw [hS'] at T ⊢
    simpa using T
  | false =>
    have hB : ¬ (0 < E.length ∧ (kd < 4 ∨ F.length = 0)) := fun z => Bool.false_ne_true (hb1.mpr z)
    have hF : 0 < F.length := by omega
    obtain ⟨q, hq, q0, q1⟩ := num_in (k := 1) (sz := (F.length : Int)) hn2 hl (a := a) (by unfold NumOk; omega)
    obtain ⟨x, hx⟩ : ∃ x, F[q.toNat]? = some x := ⟨_, List.getElem?_eq_getElem (by omega)⟩
    have xa : L2.atI (F.map D.int) q = some (.int x) := atI_of q0 (by simp [hx])
    have mx := mF x (List.mem_of_getElem? hx)
    cases b2 with
    | true =>
      have T := told_ok (.inr (.inl ⟨rfl, rfl⟩)) O2 D2 mx F2
      obtain ⟨S', hS'⟩ := T.ret
      simp (decide := true) [defX, xSeq, xNext, xAsg, gNameX, gConsX, gNilX, gTupX, gSubX, xVar, xC, xOp, xUn, oI_int, oNeg_int, xB, asB_bl, xIfS, xRet, xRetN, xDrop, xBreak, xCont, xCons, xNil, xTup, xLst, xCB, xCall, xCallX, xAnd, xOr, xNot, xAndV, xOrV, xNotV, xIf, xYes, xTru, truD, xIsN, xNotN, nonD, xFld, xSetF, xAugF, xMeth, xMethX, xMake, xBM, xDGet, xDPut, xDIn, xDNew, xPart, xNoPart, xSl, nox_ok, toS_ok, finX, R.bind, R.bindS, RS.seq, RS.turn, R.bindE, xFor, xForE, iR1, iR2, iL, iT, iE, iZ, xLc, xAug, xAssert, str_beq, at_set, insX, setFX, putFX, setLX, putDX, getDX, oDGet, oDIn, putX, valX, keyD_int, keyD_str, List.lookup, oInSet, xDisp, xPCons, xPNil, keysX, mergeX, rdL_app_ge, rdL_app_self, rdL_zero, rdL_succ, at_app_ge, at_app_self, at_zero, at_succ, c1, c2, t1, t2, bLen, oIxL, hk, hq, xa]
      rw [hS'] at T ⊢
      simpa using T
    | false =>
      by_cases h8 : kd = 8
      · subst h8
        have T := told_ok (.inr (.inr ⟨rfl, rfl⟩)) O2 D2 mx F2
        obtain ⟨S', hS'⟩ := T.ret
        simp (decide := true) [defX, xSeq, xNext, xAsg, gNameX, gConsX, gNilX, gTupX, gSubX, xVar, xC, xOp, xUn, oI_int, oNeg_int, xB, asB_bl, xIfS, xRet, xRetN, xDrop, xBreak, xCont, xCons, xNil, xTup, xLst, xCB, xCall, xCallX, xAnd, xOr, xNot, xAndV, xOrV, xNotV, xIf, xYes, xTru, truD, xIsN, xNotN, nonD, xFld, xSetF, xAugF, xMeth, xMethX, xMake, xBM, xDGet, xDPut, xDIn, xDNew, xPart, xNoPart, xSl, nox_ok, toS_ok, finX, R.bind, R.bindS, RS.seq, RS.turn, R.bindE, xFor, xForE, iR1, iR2, iL, iT, iE, iZ, xLc, xAug, xAssert, str_beq, at_set, insX, setFX, putFX, setLX, putDX, getDX, oDGet, oDIn, putX, valX, keyD_int, keyD_str, List.lookup, oInSet, xDisp, xPCons, xPNil, keysX, mergeX, rdL_app_ge, rdL_app_self, rdL_zero, rdL_succ, at_app_ge, at_app_self, at_zero, at_succ, c1, c2, t1, t2, bLen, oIxL, hk, hq, xa]
        rw [hS'] at T ⊢
        simpa using T
      · let S4 : Sto := S ++ [O.lst (F.map .int), O.lst (E.map .int), O.lst (F.map .int), O.lst []]
        have hn4 : rdL S4 l0 = some (ns.map .int) := rdL_app hn
        have rm : RngOk (1 + q) := rngOk (by omega)
        have aP : at_ S4 (S.length + 2) = some (.lst (F.map .int)) := by simp [S4, defX, xSeq, xNext, xAsg, gNameX, gConsX, gNilX, gTupX, gSubX, xVar, xC, xOp, xUn, oI_int, oNeg_int, xB, asB_bl, xIfS, xRet, xRetN, xDrop, xBreak, xCont, xCons, xNil, xTup, xLst, xCB, xCall, xCallX, xAnd, xOr, xNot, xAndV, xOrV, xNotV, xIf, xYes, xTru, truD, xIsN, xNotN, nonD, xFld, xSetF, xAugF, xMeth, xMethX, xMake, xBM, xDGet, xDPut, xDIn, xDNew, xPart, xNoPart, xSl, nox_ok, toS_ok, finX, R.bind, R.bindS, RS.seq, RS.turn, R.bindE, xFor, xForE, iR1, iR2, iL, iT, iE, iZ, xLc, xAug, xAssert, str_beq, at_set, insX, setFX, putFX, setLX, putDX, getDX, oDGet, oDIn, putX, valX, keyD_int, keyD_str, List.lookup, oInSet, xDisp, xPCons, xPNil, keysX, mergeX, rdL_app_ge, rdL_app_self, rdL_zero, rdL_succ, at_app_ge, at_app_self, at_zero, at_succ]
        have aA : at_ S4 (S.length + 2 + 1) = some (.lst []) := by
          rw [Nat.add_assoc]
          simp [S4, defX, xSeq, xNext, xAsg, gNameX, gConsX, gNilX, gTupX, gSubX, xVar, xC, xOp, xUn, oI_int, oNeg_int, xB, asB_bl, xIfS, xRet, xRetN, xDrop, xBreak, xCont, xCons, xNil, xTup, xLst, xCB, xCall, xCallX, xAnd, xOr, xNot, xAndV, xOrV, xNotV, xIf, xYes, xTru, truD, xIsN, xNotN, nonD, xFld, xSetF, xAugF, xMeth, xMethX, xMake, xBM, xDGet, xDPut, xDIn, xDNew, xPart, xNoPart, xSl, nox_ok, toS_ok, finX, R.bind, R.bindS, RS.seq, RS.turn, R.bindE, xFor, xForE, iR1, iR2, iL, iT, iE, iZ, xLc, xAug, xAssert, str_beq, at_set, insX, setFX, putFX, setLX, putDX, getDX, oDGet, oDIn, putX, valX, keyD_int, keyD_str, List.lookup, oInSet, xDisp, xPCons, xPNil, keysX, mergeX, rdL_app_ge, rdL_app_self, rdL_zero, rdL_succ, at_app_ge, at_app_self, at_zero, at_succ]
        obtain ⟨o5', S5, alw, hloop, hA5, alen, hG, F5⟩ := pop_loop (m := 1 + q) (G := fun x => ∃ j : Nat, j < n ∧ x = (j : Int)) hn4 (show l0 < S.length + 2 by omega) hl ha aP aA mF (by omega) (by omega) (o2 := some (.ref b)) (o3 := some (.ref (b + 4))) (o4 := some (.ref S.length)) (o5 := none) (o6 := some (.ref (S.length + 1))) (o7 := some (.int kd)) (r := [none, none, none, none])
        have G5 : Frm b 9 S S5 := ⟨Nat.le_trans (by simp [S4]) F5.le, fun i hi hne => by
          rw [F5.eq i (by simp [S4]; omega) (by omega)]
          exact at_app_lt hi⟩
        have O5 : PrO S5 b n p bits := (hO.fr (c := 0) (k := 0) (S' := S4) Frm.app (by omega)).fr F5 (by omega)
        have D5 : PrD S5 (b + 4) n p bits full := (hD.fr (c := 0) (k := 0) (S' := S4) Frm.app (by omega)).fr F5 (by omega)
        obtain ⟨y, hy⟩ : ∃ y, y ∈ alw := by
          cases alw with
          | nil => simp at alen; omega
          | cons y r => exact ⟨y, List.mem_cons_self⟩
        obtain ⟨j, hj, rfl⟩ := hG y hy
        obtain ⟨⟨r, p', bits'⟩, hclk⟩ := clk_ok (as := alw) (n := n) (q := j) (p := p) (bits := bits) (memI_iff.mpr hy) hj hD.hp
        have hr := clk_in (by omega) hD.hp hclk
        obtain ⟨S6, hpick, D6, F6⟩ := pick_sp D5 (rdL_lst hA5) (by omega) hclk
        have O6 := O5.fr F6 (by omega)
        have rA6 : rdL S6 (S.length + 2 + 1) = some (alw.map .int) := F6.rd (rdL_lst hA5) (by omega)
        obtain ⟨_, S9, hturn, O9, F9⟩ := choose_turn O6 rA6 (by omega) (by omega) hclk (o0 := some (.ref l0)) (o1 := some (.int a)) (o3 := some (.ref (b + 4))) (o4 := some (.ref S.length)) (o5 := o5') (o6 := some (.ref (S.length + 1))) (o7 := some (.int kd)) (o8 := some (.ref (S.length + 2))) (o11 := some (.int 0)) (o12 := none) (o13 := none)
        have D9 := D6.fr F9 (by omega)
        have G9 : Frm b 9 S S9 := (G5.trans (Law.Frm.w5 F6)).trans (Law.Frm.w4 F9)
        have hn9 : rdL S9 l0 = some (ns.map .int) := G9.rd hn (by omega)
        obtain ⟨w, hw, w0, w1⟩ := num_in (k := 12) (sz := 2) hn9 hl (a := a) (by unfold NumOk; omega)
        obtain ⟨⟨t6, g6⟩, _⟩ := id D6
        have r1 : RngOk 1 := rngOk (by decide)
        have rg : rngD 0 1 = [.int 0] := rfl
        have hloop' := hloop
        have hq4 := num_same hn2 hn4 hl (by unfold NumOk; omega) hq
        simp only [S4] at hloop' hq4
        simp only [Nat.add_assoc, Nat.reduceAdd] at hloop' hpick hturn
        by_cases hw0 : w = 0
        · subst hw0
          have T := told_ok (.inr (.inr ⟨rfl, rfl⟩)) O9 D9 ⟨r, hr.2.1, rfl⟩ G9
          obtain ⟨S', hS'⟩ := T.ret
          simp (decide := true) [defX, xSeq, xNext, xAsg, gNameX, gConsX, gNilX, gTupX, gSubX, xVar, xC, xOp, xUn, oI_int, oNeg_int, xB, asB_bl, xIfS, xRet, xRetN, xDrop, xBreak, xCont, xCons, xNil, xTup, xLst, xCB, xCall, xCallX, xAnd, xOr, xNot, xAndV, xOrV, xNotV, xIf, xYes, xTru, truD, xIsN, xNotN, nonD, xFld, xSetF, xAugF, xMeth, xMethX, xMake, xBM, xDGet, xDPut, xDIn, xDNew, xPart, xNoPart, xSl, nox_ok, toS_ok, finX, R.bind, R.bindS, RS.seq, RS.turn, R.bindE, xFor, xForE, iR1, iR2, iL, iT, iE, iZ, xLc, xAug, xAssert, str_beq, at_set, insX, setFX, putFX, setLX, putDX, getDX, oDGet, oDIn, putX, valX, keyD_int, keyD_str, List.lookup, oInSet, xDisp, xPCons, xPNil, keysX, mergeX, rdL_app_ge, rdL_app_self, rdL_zero, rdL_succ, at_app_ge, at_app_self, at_zero, at_succ, f_l_chooser_call_l1, f_l_chooser_call_l2, c1, c2, t1, t2, bLen, bList, oIxL, hk, hq4, h8, rm, hloop', hpick, g6, r1, rg, loopX_cons, loopX_nil, hturn, hw]
          rw [hS'] at T ⊢
          simpa using T
        · refine ⟨S9, p', bits', full, ?_, O9, D9, G9⟩
          simp (decide := true) [defX, xSeq, xNext, xAsg, gNameX, gConsX, gNilX, gTupX, gSubX, xVar, xC, xOp, xUn, oI_int, oNeg_int, xB, asB_bl, xIfS, xRet, xRetN, xDrop, xBreak, xCont, xCons, xNil, xTup, xLst, xCB, xCall, xCallX, xAnd, xOr, xNot, xAndV, xOrV, xNotV, xIf, xYes, xTru, truD, xIsN, xNotN, nonD, xFld, xSetF, xAugF, xMeth, xMethX, xMake, xBM, xDGet, xDPut, xDIn, xDNew, xPart, xNoPart, xSl, nox_ok, toS_ok, finX, R.bind, R.bindS, RS.seq, RS.turn, R.bindE, xFor, xForE, iR1, iR2, iL, iT, iE, iZ, xLc, xAug, xAssert, str_beq, at_set, insX, setFX, putFX, setLX, putDX, getDX, oDGet, oDIn, putX, valX, keyD_int, keyD_str, List.lookup, oInSet, xDisp, xPCons, xPNil, keysX, mergeX, rdL_app_ge, rdL_app_self, rdL_zero, rdL_succ, at_app_ge, at_app_self, at_zero, at_succ, f_l_chooser_call_l1, f_l_chooser_call_l2, c1, c2, t1, t2, bLen, bList, oIxL, hk, hq4, h8, rm, hloop', hpick, g6, r1, rg, loopX_cons, loopX_nil, hturn, hw, hw0]
end

section
open Mi
theorem init_sp {S : Sto} {n : Int} (h : 1 ≤ n ∧ n ≤ 100) : ∃ S', f_Chooser___init__ [.ref S.length, .str "clock", .int n] (S ++ [.ins "Chooser" []]) = .ok .non S' ∧ S'.length = S.length + 4 ∧ PrO S' S.length n.toNat 0 (List.replicate n.toNat 0) ∧ Frm S.length 4 S S' := by
  have z : ∀ S : Sto, f_zeros [.int n] S = .ok (.ref S.length) (S ++ [.lst (List.replicate n.toNat (.int 0))]) := fun S => zeros_sp (by omega)
  rw [f_Chooser___init___eq]
  simp (decide := true) [defX, xSeq, xNext, xAsg, gNameX, gConsX, gNilX, gTupX, gSubX, xVar, xC, xOp, xUn, oI_int, oNeg_int, xB, asB_bl, xIfS, xRet, xRetN, xDrop, xBreak, xCont, xCons, xNil, xTup, xLst, xCB, xCall, xCallX, xAnd, xOr, xNot, xAndV, xOrV, xNotV, xIf, xYes, xTru, truD, xIsN, xNotN, nonD, xFld, xSetF, xAugF, xMeth, xMethX, xMake, xBM, xDGet, xDPut, xDIn, xDNew, xPart, xNoPart, xSl, nox_ok, toS_ok, finX, R.bind, R.bindS, RS.seq, RS.turn, R.bindE, xFor, xForE, iR1, iR2, iL, iT, iE, iZ, xLc, xAug, xAssert, str_beq, at_set, insX, setFX, putFX, setLX, putDX, getDX, oDGet, oDIn, putX, valX, keyD_int, keyD_str, List.lookup, oInSet, xDisp, xPCons, xPNil, keysX, mergeX, rdL_app_ge, rdL_app_self, rdL_zero, rdL_succ, at_app_ge, at_app_self, at_zero, at_succ, z]
  refine ⟨⟨⟨0, ?_⟩, ⟨List.replicate n.toNat (.int 0), ?_, by simp⟩, ⟨List.replicate n.toNat (.int 0), ?_, by simp⟩, ?_, by simp, by omega, by omega⟩, Frm.app⟩ <;> simp [defX, xSeq, xNext, xAsg, gNameX, gConsX, gNilX, gTupX, gSubX, xVar, xC, xOp, xUn, oI_int, oNeg_int, xB, asB_bl, xIfS, xRet, xRetN, xDrop, xBreak, xCont, xCons, xNil, xTup, xLst, xCB, xCall, xCallX, xAnd, xOr, xNot, xAndV, xOrV, xNotV, xIf, xYes, xTru, truD, xIsN, xNotN, nonD, xFld, xSetF, xAugF, xMeth, xMethX, xMake, xBM, xDGet, xDPut, xDIn, xDNew, xPart, xNoPart, xSl, nox_ok, toS_ok, finX, R.bind, R.bindS, RS.seq, RS.turn, R.bindE, xFor, xForE, iR1, iR2, iL, iT, iE, iZ, xLc, xAug, xAssert, str_beq, at_set, insX, setFX, putFX, setLX, putDX, getDX, oDGet, oDIn, putX, valX, keyD_int, keyD_str, List.lookup, oInSet, xDisp, xPCons, xPNil, keysX, mergeX, rdL_app_ge, rdL_app_self, rdL_zero, rdL_succ, at_app_ge, at_app_self, at_zero, at_succ, List.map_replicate]
theorem rep_lc {S : Sto} {n : Int} (h : 0 ≤ n ∧ n ≤ 100) (d : D) (env0 : Mi.Env) : compX (fun _ => True) (gNameX 2) xYes (xC d) env0 S.length (rngD 0 n.toNat) (S ++ [.lst []]) = .ok (.ref S.length) (S ++ [.lst (List.replicate n.toNat d)]) := by
  have e : (rngD 0 n.toNat).map (fun _ => d) = List.replicate n.toNat d := List.eq_replicate_iff.mpr ⟨by simp, fun x hx => by
    obtain ⟨_, _, rfl⟩ := List.mem_map.mp hx
    rfl⟩
  rw [lc_map (fun _ => d), e]
  · intro _; trivial
  · intro x hx acc; exact ⟨_, rfl, rfl⟩
  · simp; omega
theorem new_sp {S : Sto} {n : Int} (h : 1 ≤ n ∧ n ≤ 100) : ∃ S', f_l_chooser_new [.str "clock", .int n] S = .ok (.ref S.length) S' ∧ S'.length = S.length + 5 ∧ PrD S' S.length n.toNat 0 (List.replicate n.toNat 0) (List.replicate n.toNat false) ∧ Frm S.length 5 S S' := by
  have hr : RngOk n := rngOk (by omega)
  have c1 : ∀ S : Sto, f_l_chooser_new_c1 [some (.str "clock"), some (.int n), none] S = .ok (.ref S.length) (S ++ [.lst (List.replicate n.toNat (.bl false))]) := fun S => by
    simp [f_l_chooser_new_c1, defX, xSeq, xNext, xAsg, gNameX, gConsX, gNilX, gTupX, gSubX, xVar, xC, xOp, xUn, oI_int, oNeg_int, xB, asB_bl, xIfS, xRet, xRetN, xDrop, xBreak, xCont, xCons, xNil, xTup, xLst, xCB, xCall, xCallX, xAnd, xOr, xNot, xAndV, xOrV, xNotV, xIf, xYes, xTru, truD, xIsN, xNotN, nonD, xFld, xSetF, xAugF, xMeth, xMethX, xMake, xBM, xDGet, xDPut, xDIn, xDNew, xPart, xNoPart, xSl, nox_ok, toS_ok, finX, R.bind, R.bindS, RS.seq, RS.turn, R.bindE, xFor, xForE, iR1, iR2, iL, iT, iE, iZ, xLc, xAug, xAssert, str_beq, at_set, insX, setFX, putFX, setLX, putDX, getDX, oDGet, oDIn, putX, valX, keyD_int, keyD_str, List.lookup, oInSet, xDisp, xPCons, xPNil, keysX, mergeX, rdL_app_ge, rdL_app_self, rdL_zero, rdL_succ, at_app_ge, at_app_self, at_zero, at_succ, hr]
    rw [rep_lc (by omega)]
  have c2 : ∀ S : Sto, f_l_chooser_new_c2 [some (.str "clock"), some (.int n), none] S = .ok (.ref S.length) (S ++ [.lst (List.replicate n.toNat (.int 0))]) := fun S => by
    simp [f_l_chooser_new_c2, defX, xSeq, xNext, xAsg, gNameX, gConsX, gNilX, gTupX, gSubX, xVar, xC, xOp, xUn, oI_int, oNeg_int, xB, asB_bl, xIfS, xRet, xRetN, xDrop, xBreak, xCont, xCons, xNil, xTup, xLst, xCB, xCall, xCallX, xAnd, xOr, xNot, xAndV, xOrV, xNotV, xIf, xYes, xTru, truD, xIsN, xNotN, nonD, xFld, xSetF, xAugF, xMeth, xMethX, xMake, xBM, xDGet, xDPut, xDIn, xDNew, xPart, xNoPart, xSl, nox_ok, toS_ok, finX, R.bind, R.bindS, RS.seq, RS.turn, R.bindE, xFor, xForE, iR1, iR2, iL, iT, iE, iZ, xLc, xAug, xAssert, str_beq, at_set, insX, setFX, putFX, setLX, putDX, getDX, oDGet, oDIn, putX, valX, keyD_int, keyD_str, List.lookup, oInSet, xDisp, xPCons, xPNil, keysX, mergeX, rdL_app_ge, rdL_app_self, rdL_zero, rdL_succ, at_app_ge, at_app_self, at_zero, at_succ, hr]
    rw [rep_lc (by omega)]
  have c3 : ∀ S : Sto, f_l_chooser_new_c3 [some (.str "clock"), some (.int n), none] S = .ok (.ref S.length) (S ++ [.lst (List.replicate n.toNat (.int 0))]) := fun S => by
    simp [f_l_chooser_new_c3, defX, xSeq, xNext, xAsg, gNameX, gConsX, gNilX, gTupX, gSubX, xVar, xC, xOp, xUn, oI_int, oNeg_int, xB, asB_bl, xIfS, xRet, xRetN, xDrop, xBreak, xCont, xCons, xNil, xTup, xLst, xCB, xCall, xCallX, xAnd, xOr, xNot, xAndV, xOrV, xNotV, xIf, xYes, xTru, truD, xIsN, xNotN, nonD, xFld, xSetF, xAugF, xMeth, xMethX, xMake, xBM, xDGet, xDPut, xDIn, xDNew, xPart, xNoPart, xSl, nox_ok, toS_ok, finX, R.bind, R.bindS, RS.seq, RS.turn, R.bindE, xFor, xForE, iR1, iR2, iL, iT, iE, iZ, xLc, xAug, xAssert, str_beq, at_set, insX, setFX, putFX, setLX, putDX, getDX, oDGet, oDIn, putX, valX, keyD_int, keyD_str, List.lookup, oInSet, xDisp, xPCons, xPNil, keysX, mergeX, rdL_app_ge, rdL_app_self, rdL_zero, rdL_succ, at_app_ge, at_app_self, at_zero, at_succ, hr]
    rw [rep_lc (by omega)]
  have c4 : ∀ S : Sto, f_l_chooser_new_c4 [some (.str "clock"), some (.int n), none] S = .ok (.ref S.length) (S ++ [.lst (List.replicate n.toNat (.int 0))]) := fun S => by
    simp [f_l_chooser_new_c4, defX, xSeq, xNext, xAsg, gNameX, gConsX, gNilX, gTupX, gSubX, xVar, xC, xOp, xUn, oI_int, oNeg_int, xB, asB_bl, xIfS, xRet, xRetN, xDrop, xBreak, xCont, xCons, xNil, xTup, xLst, xCB, xCall, xCallX, xAnd, xOr, xNot, xAndV, xOrV, xNotV, xIf, xYes, xTru, truD, xIsN, xNotN, nonD, xFld, xSetF, xAugF, xMeth, xMethX, xMake, xBM, xDGet, xDPut, xDIn, xDNew, xPart, xNoPart, xSl, nox_ok, toS_ok, finX, R.bind, R.bindS, RS.seq, RS.turn, R.bindE, xFor, xForE, iR1, iR2, iL, iT, iE, iZ, xLc, xAug, xAssert, str_beq, at_set, insX, setFX, putFX, setLX, putDX, getDX, oDGet, oDIn, putX, valX, keyD_int, keyD_str, List.lookup, oInSet, xDisp, xPCons, xPNil, keysX, mergeX, rdL_app_ge, rdL_app_self, rdL_zero, rdL_succ, at_app_ge, at_app_self, at_zero, at_succ, hr]
    rw [rep_lc (by omega)]
  rw [f_l_chooser_new_eq]
  simp (decide := true) [defX, xSeq, xNext, xAsg, gNameX, gConsX, gNilX, gTupX, gSubX, xVar, xC, xOp, xUn, oI_int, oNeg_int, xB, asB_bl, xIfS, xRet, xRetN, xDrop, xBreak, xCont, xCons, xNil, xTup, xLst, xCB, xCall, xCallX, xAnd, xOr, xNot, xAndV, xOrV, xNotV, xIf, xYes, xTru, truD, xIsN, xNotN, nonD, xFld, xSetF, xAugF, xMeth, xMethX, xMake, xBM, xDGet, xDPut, xDIn, xDNew, xPart, xNoPart, xSl, nox_ok, toS_ok, finX, R.bind, R.bindS, RS.seq, RS.turn, R.bindE, xFor, xForE, iR1, iR2, iL, iT, iE, iZ, xLc, xAug, xAssert, str_beq, at_set, insX, setFX, putFX, setLX, putDX, getDX, oDGet, oDIn, putX, valX, keyD_int, keyD_str, List.lookup, oInSet, xDisp, xPCons, xPNil, keysX, mergeX, rdL_app_ge, rdL_app_self, rdL_zero, rdL_succ, at_app_ge, at_app_self, at_zero, at_succ, c1, c2, c3, c4]
  refine ⟨⟨⟨0, ?_⟩, ⟨List.replicate n.toNat (.int 0), ?_, by simp⟩, ⟨List.replicate n.toNat (.int 0), ?_, by simp⟩, ?_, ?_, by simp, by simp, by omega, by omega⟩, Frm.app⟩ <;> simp [defX, xSeq, xNext, xAsg, gNameX, gConsX, gNilX, gTupX, gSubX, xVar, xC, xOp, xUn, oI_int, oNeg_int, xB, asB_bl, xIfS, xRet, xRetN, xDrop, xBreak, xCont, xCons, xNil, xTup, xLst, xCB, xCall, xCallX, xAnd, xOr, xNot, xAndV, xOrV, xNotV, xIf, xYes, xTru, truD, xIsN, xNotN, nonD, xFld, xSetF, xAugF, xMeth, xMethX, xMake, xBM, xDGet, xDPut, xDIn, xDNew, xPart, xNoPart, xSl, nox_ok, toS_ok, finX, R.bind, R.bindS, RS.seq, RS.turn, R.bindE, xFor, xForE, iR1, iR2, iL, iT, iE, iZ, xLc, xAug, xAssert, str_beq, at_set, insX, setFX, putFX, setLX, putDX, getDX, oDGet, oDIn, putX, valX, keyD_int, keyD_str, List.lookup, oInSet, xDisp, xPCons, xPNil, keysX, mergeX, rdL_app_ge, rdL_app_self, rdL_zero, rdL_succ, at_app_ge, at_app_self, at_zero, at_succ, List.map_replicate]
/-- a pair of the law's list -/
structure Pa (S : Sto) (q n : Nat) : Prop where
  l : at_ S (q + 9) = some (.lst [.ref q, .ref (q + 4)])
  b : ∃ p bits full, PrO S q n p bits ∧ PrD S (q + 4) n p bits full
  n1 : 1 ≤ n ∧ n ≤ 100
theorem Pa.fr {S S' : Sto} {b n c k : Nat} (h : Pa S b n) (f : Frm c k S S') (d : c + k ≤ b ∨ b + 10 ≤ c) : Pa S' b n := by
  obtain ⟨h1, ⟨p, bits, full, h2, h3⟩, h4⟩ := h
  exact ⟨f.get h1 (by omega), ⟨p, bits, full, h2.fr f (by omega), h3.fr f (by omega)⟩, h4⟩
theorem pair_step {S : Sto} {ns : List Int} {xs : List D} {i : Nat} (hn : rdL S 0 = some (ns.map .int)) (hl : ns.length ≤ 63) (hx : at_ S 1 = some (.lst xs)) (hz : xs.length < 1000) (hi : i < 2) {o3 o4 o5 : Option D} :
    ∃ (o3' : Option D) (n : Nat) (S' : Sto), f_law_b1 [some (.ref 0), some (.ref 1), some (.int (i : Int)), o3, o4, o5] S = .nx [some (.ref 0), some (.ref 1), some (.int (i : Int)), o3', o4, o5] S' ∧
      Pa S' S.length n ∧ at_ S' 1 = some (.lst (xs ++ [.ref (S.length + 9)])) ∧ Frm 1 1 S S' := by
  obtain ⟨q, hq, q0, q1⟩ := num_in (k := 2 + (i : Int)) (sz := 6) hn hl (a := 0) (by unfold NumOk; omega)
  obtain ⟨w, hw, w0, w1⟩ := num_in (k := 4 + (i : Int)) (sz := 8) hn hl (a := 0) (by unfold NumOk; omega)
  have l1 := at_lt hx
  have fin : ∀ m : Int, 1 ≤ m ∧ m ≤ 100 → ∃ (S' : Sto), xDrop (xBM (mL gAppend) (xVar 1) (xCons (xLst (xCons (xMake "Chooser" f_Chooser___init__ (xCons (xC (.str "clock")) (xCons (xVar 3) xNil))) (xCons (xCall f_l_chooser_new (xCons (xC (.str "clock")) (xCons (xVar 3) xNil))) xNil))) xNil)) [some (.ref 0), some (.ref 1), some (.int (i : Int)), some (.int m), o4, o5] S = .nx [some (.ref 0), some (.ref 1), some (.int (i : Int)), some (.int m), o4, o5] S' ∧
      Pa S' S.length m.toNat ∧ at_ S' 1 = some (.lst (xs ++ [.ref (S.length + 9)])) ∧ Frm 1 1 S S' := fun m hm => by
    obtain ⟨S1, e1, n1, P1, F1⟩ := init_sp (S := S) hm
    obtain ⟨S2, e2, n2, P2, F2⟩ := new_sp (S := S1) hm
    rw [n1] at e2 P2 F2
    have n2' : S2.length = S.length + 9 := by omega
    have x2 : at_ S2 1 = some (.lst xs) := F2.get (F1.get hx (by omega)) (by omega)
    have lx : rdL S 1 = some xs := rdL_lst hx
    refine ⟨(S2 ++ [O.lst [.ref S.length, .ref (S.length + 4)]]).set 1 (.lst (xs ++ [.ref (S.length + 9)])), ?_, ⟨?_, ⟨0, _, _, (P1.fr (F2) (by omega)).fr (c := 1) (k := 1) (Frm.trans Frm.app (Frm.set (by omega))) (by omega), P2.fr (c := 1) (k := 1) (Frm.trans Frm.app (Frm.set (by omega))) (by omega)⟩, by omega⟩, ?_, ?_⟩
    · have x3 : at_ (S2 ++ [O.lst [.ref S.length, .ref (S.length + 4)]]) 1 = some (.lst xs) := at_app x2
      simp (decide := true) [defX, xSeq, xNext, xAsg, gNameX, gConsX, gNilX, gTupX, gSubX, xVar, xC, xOp, xUn, oI_int, oNeg_int, xB, asB_bl, xIfS, xRet, xRetN, xDrop, xBreak, xCont, xCons, xNil, xTup, xLst, xCB, xCall, xCallX, xAnd, xOr, xNot, xAndV, xOrV, xNotV, xIf, xYes, xTru, truD, xIsN, xNotN, nonD, xFld, xSetF, xAugF, xMeth, xMethX, xMake, xBM, xDGet, xDPut, xDIn, xDNew, xPart, xNoPart, xSl, nox_ok, toS_ok, finX, R.bind, R.bindS, RS.seq, RS.turn, R.bindE, xFor, xForE, iR1, iR2, iL, iT, iE, iZ, xLc, xAug, xAssert, str_beq, at_set, insX, setFX, putFX, setLX, putDX, getDX, oDGet, oDIn, putX, valX, keyD_int, keyD_str, List.lookup, oInSet, xDisp, xPCons, xPNil, keysX, mergeX, rdL_app_ge, rdL_app_self, rdL_zero, rdL_succ, at_app_ge, at_app_self, at_zero, at_succ, isLst, lx, e1, e2, n2', mL, x3, gAppend, show xs.length < 100000 by omega]
    · rw [at_set_ne (by omega), ← n2']
      exact at_new
    · exact at_set_eq (by simp; omega)
    · exact ⟨by simp; omega, fun j hj hne => by
        rw [at_set_ne (by omega), at_app_lt (by omega), F2.eq j (by omega) (by omega), F1.eq j hj (by omega)]⟩
  by_cases hw0 : w = 0
  · subst hw0
    obtain ⟨S', e', h1, h2, h3⟩ := fin (62 + (1 + q)) (by omega)
    refine ⟨some (.int (62 + (1 + q))), _, S', ?_, h1, h2, h3⟩
    rw [← e']
    simp (decide := true) [f_law_b1, defX, xSeq, xNext, xAsg, gNameX, gConsX, gNilX, gTupX, gSubX, xVar, xC, xOp, xUn, oI_int, oNeg_int, xB, asB_bl, xIfS, xRet, xRetN, xDrop, xBreak, xCont, xCons, xNil, xTup, xLst, xCB, xCall, xCallX, xAnd, xOr, xNot, xAndV, xOrV, xNotV, xIf, xYes, xTru, truD, xIsN, xNotN, nonD, xFld, xSetF, xAugF, xMeth, xMethX, xMake, xBM, xDGet, xDPut, xDIn, xDNew, xPart, xNoPart, xSl, nox_ok, toS_ok, finX, R.bind, R.bindS, RS.seq, RS.turn, R.bindE, xFor, xForE, iR1, iR2, iL, iT, iE, iZ, xLc, xAug, xAssert, str_beq, at_set, insX, setFX, putFX, setLX, putDX, getDX, oDGet, oDIn, putX, valX, keyD_int, keyD_str, List.lookup, oInSet, xDisp, xPCons, xPNil, keysX, mergeX, rdL_app_ge, rdL_app_self, rdL_zero, rdL_succ, at_app_ge, at_app_self, at_zero, at_succ, hq, hw]
  · obtain ⟨S', e', h1, h2, h3⟩ := fin (1 + q) (by omega)
    refine ⟨some (.int (1 + q)), _, S', ?_, h1, h2, h3⟩
    rw [← e']
    simp (decide := true) [f_law_b1, defX, xSeq, xNext, xAsg, gNameX, gConsX, gNilX, gTupX, gSubX, xVar, xC, xOp, xUn, oI_int, oNeg_int, xB, asB_bl, xIfS, xRet, xRetN, xDrop, xBreak, xCont, xCons, xNil, xTup, xLst, xCB, xCall, xCallX, xAnd, xOr, xNot, xAndV, xOrV, xNotV, xIf, xYes, xTru, truD, xIsN, xNotN, nonD, xFld, xSetF, xAugF, xMeth, xMethX, xMake, xBM, xDGet, xDPut, xDIn, xDNew, xPart, xNoPart, xSl, nox_ok, toS_ok, finX, R.bind, R.bindS, RS.seq, RS.turn, R.bindE, xFor, xForE, iR1, iR2, iL, iT, iE, iZ, xLc, xAug, xAssert, str_beq, at_set, insX, setFX, putFX, setLX, putDX, getDX, oDGet, oDIn, putX, valX, keyD_int, keyD_str, List.lookup, oInSet, xDisp, xPCons, xPNil, keysX, mergeX, rdL_app_ge, rdL_app_self, rdL_zero, rdL_succ, at_app_ge, at_app_self, at_zero, at_succ, hq, hw, hw0]
theorem law_turn {S : Sto} {ns : List Int} {q0 q1 n0 n1 i : Nat} (hn : rdL S 0 = some (ns.map .int)) (hl : ns.length ≤ 63) (hx : at_ S 1 = some (.lst [.ref (q0 + 9), .ref (q1 + 9)])) (h0 : Pa S q0 n0) (h1 : Pa S q1 n1) (l0 : 2 ≤ q0) (l1 : q0 + 10 ≤ q1) (hi : i < 60) {o2 o3 o5 : Option D} :
    ∃ (o5' : Option D) (S' : Sto), f_law_b2 [some (.ref 0), some (.ref 1), o2, o3, some (.int (1 + (i : Int))), o5] S = .nx [some (.ref 0), some (.ref 1), o2, o3, some (.int (1 + (i : Int))), o5'] S' ∧
      rdL S' 0 = some (ns.map .int) ∧ at_ S' 1 = some (.lst [.ref (q0 + 9), .ref (q1 + 9)]) ∧ Pa S' q0 n0 ∧ Pa S' q1 n1 := by
  obtain ⟨w, hw, w0, w1⟩ := num_in (k := 0) (sz := 2) hn hl (a := 1 + (i : Int)) (by unfold NumOk; omega)
  have rx := rdL_lst hx
  have go : ∀ (q n : Nat), (q = q0 ∧ n = n0 ∨ q = q1 ∧ n = n1) → Pa S q n → L2.atI [D.ref (q0 + 9), D.ref (q1 + 9)] w = some (.ref (q + 9)) → ∃ (o5' : Option D) (S' : Sto), f_law_b2 [some (.ref 0), some (.ref 1), o2, o3, some (.int (1 + (i : Int))), o5] S = .nx [some (.ref 0), some (.ref 1), o2, o3, some (.int (1 + (i : Int))), o5'] S' ∧
      rdL S' 0 = some (ns.map .int) ∧ at_ S' 1 = some (.lst [.ref (q0 + 9), .ref (q1 + 9)]) ∧ Pa S' q0 n0 ∧ Pa S' q1 n1 := fun q n hq hP hat => by
    obtain ⟨pl, ⟨p, bits, full, hO, hD⟩, hn1⟩ := hP
    obtain ⟨S', p', bits', full', e', O', D', F'⟩ := call_sp (a := 1 + (i : Int)) hn (show 0 < q by omega) hl (by omega) hO hD hn1.1
    have rp := rdL_lst pl
    have a0 : L2.atI [D.ref q, D.ref (q + 4)] 0 = some (.ref q) := rfl
    have a1 : L2.atI [D.ref q, D.ref (q + 4)] 1 = some (.ref (q + 4)) := rfl
    have P' : Pa S' q n := ⟨F'.get pl (by omega), ⟨p', bits', full', O', D'⟩, hn1⟩
    refine ⟨some (.ref (q + 9)), S', ?_, F'.rd hn (by omega), F'.get hx (by omega), ?_, ?_⟩
    · simp (decide := true) [f_law_b2, defX, xSeq, xNext, xAsg, gNameX, gConsX, gNilX, gTupX, gSubX, xVar, xC, xOp, xUn, oI_int, oNeg_int, xB, asB_bl, xIfS, xRet, xRetN, xDrop, xBreak, xCont, xCons, xNil, xTup, xLst, xCB, xCall, xCallX, xAnd, xOr, xNot, xAndV, xOrV, xNotV, xIf, xYes, xTru, truD, xIsN, xNotN, nonD, xFld, xSetF, xAugF, xMeth, xMethX, xMake, xBM, xDGet, xDPut, xDIn, xDNew, xPart, xNoPart, xSl, nox_ok, toS_ok, finX, R.bind, R.bindS, RS.seq, RS.turn, R.bindE, xFor, xForE, iR1, iR2, iL, iT, iE, iZ, xLc, xAug, xAssert, str_beq, at_set, insX, setFX, putFX, setLX, putDX, getDX, oDGet, oDIn, putX, valX, keyD_int, keyD_str, List.lookup, oInSet, xDisp, xPCons, xPNil, keysX, mergeX, rdL_app_ge, rdL_app_self, rdL_zero, rdL_succ, at_app_ge, at_app_self, at_zero, at_succ, oIxL, rx, hw, hat, rp, a0, a1, e']
    · rcases hq with ⟨rfl, rfl⟩ | ⟨rfl, rfl⟩
      · exact P'
      · exact h0.fr F' (by omega)
    · rcases hq with ⟨rfl, rfl⟩ | ⟨rfl, rfl⟩
      · exact h1.fr F' (by omega)
      · exact P'
  by_cases hw0 : w = 0
  · exact go q0 n0 (.inl ⟨rfl, rfl⟩) h0 (by subst hw0; rfl)
  · have : w = 1 := by omega
    exact go q1 n1 (.inr ⟨rfl, rfl⟩) h1 (by subst this; rfl)
theorem law_sp : ∀ (o : O) (ns : List Int), (o = .lst (ns.map .int) ∨ o = .rol (ns.map .int)) → ns.length ≤ 63 → ∃ S', f_law [.ref 0] [o] = .ok (.bl true) S' := by
  intro o ns ho hl
  have hn0 : rdL [o, O.lst []] 0 = some (ns.map .int) := by rcases ho with rfl | rfl <;> rfl
  obtain ⟨x1, n0, S1, e1, P1, a1, F1⟩ := pair_step (i := 0) hn0 hl (xs := []) rfl (by decide) (by decide) (o3 := none) (o4 := none) (o5 := none)
  have hn1 := F1.rd hn0 (by omega)
  have lS1 : 12 ≤ S1.length := by
    have := at_lt P1.l
    simp at this
    omega
  obtain ⟨x2, n1, S2, e2, P2, a2, F2⟩ := pair_step (i := 1) hn1 hl a1 (by simp) (by decide) (o3 := x1) (o4 := none) (o5 := none)
  have hn2 := F2.rd hn1 (by omega)
  have P1' := P1.fr F2 (by simp)
  obtain ⟨w, hw, w0, w1⟩ := num_in (k := 0) (sz := 45) hn2 hl (a := 0) (by unfold NumOk; omega)
  obtain ⟨e', S', hloop, o4', o5', he', _⟩ := loop_all (ok := fun _ => True) (fg := gNameX 4) (fb := f_law_b2) (items := rngD 1 (4 + w - 1).toNat) (env := [some (.ref 0), some (.ref 1), some (.int 1), x2, none, none]) (S := S2)
    (fun i e S => ∃ o4 o5, e = [some (.ref 0), some (.ref 1), some (.int 1), x2, o4, o5] ∧ rdL S 0 = some (ns.map .int) ∧ at_ S 1 = some (.lst [.ref (2 + 9), .ref (S1.length + 9)]) ∧ Pa S 2 n0 ∧ Pa S S1.length n1)
    (fun _ _ _ _ _ => trivial) (fun i x e S hx ⟨o4, o5, he, g1, g2, g3, g4⟩ => by
      obtain ⟨hi, rfl⟩ := rngD_get hx
      subst he
      obtain ⟨o5', S', h1, h2, h3, h4, h5⟩ := law_turn g1 hl g2 g3 g4 (by decide) (by omega) (i := i) (by omega) (o2 := some (.int 1)) (o3 := x2) (o5 := o5)
      exact ⟨_, _, rfl, _, _, .inl h1, _, _, rfl, h2, h3, h4, h5⟩)
    ⟨none, none, rfl, hn2, a2, P1', P2⟩
  refine ⟨S', ?_⟩
  have r2 : RngOk 2 := rngOk (by decide)
  have r1 : RngOk 1 := rngOk (by decide)
  have r4 : RngOk (4 + w) := rngOk (by omega)
  have rg : rngD 0 2 = [.int 0, .int 1] := rfl
  subst he'
  rw [f_law_eq]
  rw [show (4 + w - 1).toNat = (4 + w).toNat - 1 by omega] at hloop
  rw [show ((0 : Nat) : Int) = 0 from rfl] at e1
  rw [show ((1 : Nat) : Int) = 1 from rfl] at e2
  simp (decide := true) [defX, xSeq, xNext, xAsg, gNameX, gConsX, gNilX, gTupX, gSubX, xVar, xC, xOp, xUn, oI_int, oNeg_int, xB, asB_bl, xIfS, xRet, xRetN, xDrop, xBreak, xCont, xCons, xNil, xTup, xLst, xCB, xCall, xCallX, xAnd, xOr, xNot, xAndV, xOrV, xNotV, xIf, xYes, xTru, truD, xIsN, xNotN, nonD, xFld, xSetF, xAugF, xMeth, xMethX, xMake, xBM, xDGet, xDPut, xDIn, xDNew, xPart, xNoPart, xSl, nox_ok, toS_ok, finX, R.bind, R.bindS, RS.seq, RS.turn, R.bindE, xFor, xForE, iR1, iR2, iL, iT, iE, iZ, xLc, xAug, xAssert, str_beq, at_set, insX, setFX, putFX, setLX, putDX, getDX, oDGet, oDIn, putX, valX, keyD_int, keyD_str, List.lookup, oInSet, xDisp, xPCons, xPNil, keysX, mergeX, rdL_app_ge, rdL_app_self, rdL_zero, rdL_succ, at_app_ge, at_app_self, at_zero, at_succ, f_law_l1, f_law_l2, r2, r1, r4, rg, loopX_cons, loopX_nil, e1, e2, hw, hloop]
end

theorem fn_lawS {P : Program} {w : World} {K : PySem.W.Frag} {mg : Str → Option Value} {base : Heap} (T : TX K mg) : ∃ fd, FunD K "law" "law" (defArgs s_law) (defBody s_law) (defScope s_law) [] [] (He.ga K "law") fd ∧ FnOk P w K mg base CX0 (7) (He.ga K "law") fd ["_law_script"] (My.spLaw K) := by
  obtain ⟨fd, F, h⟩ := fn_law (P := P) (w := w) (base := base) T
  exact ⟨fd, F, h.imp (Mi.law_in law_sp)⟩
/-! ### the head -/
def loose : List PySem.Str := (["zeros", "Chooser", "_law_number", "_law_is_whole", "_law_same", "_law_chooser_new", "_law_chooser_tell", "_law_chooser_pick", "_law_chooser_told", "_law_chooser_call"] : List PySem.Str)
abbrev R : PySem.W.OpenRow := PySem.W.OpenLaw.row PySem.Challenge.rw_lentpages_k22_chooser_clock
abbrev hk : PySem.W.Hook := My.hookE 5 fas fns fxs
def ob (s : PySem.W.SharedT) : Bool × He.AlD := My.lookE 5 fas fns fxs (HandSHeadRun.getT s)
theorem ob_eq (s : PySem.W.SharedT) : ob s = hk.obs s.abs := My.lookE_eq (HandSHeadRun.getT_eq s)
theorem run (w : World) : HandSHeadRun.RunEq R (PySem.W.view R.prog [13]) hk ob 100000 loose w := by
  intro os
  kernel_rfl
end Law
open PySem PySem.W PySem.Calls PyProof.Rows
theorem PySem.Challenge.cw_lentpages_k22_chooser_clock_holds : PySem.Challenge.rw_lentpages_k22_chooser_clock.Holds := by
  w_on; o_law
  refine HandSHeadRun.head_any (r := OpenLaw.row PySem.Challenge.rw_lentpages_k22_chooser_clock) (q := view (OpenLaw.row PySem.Challenge.rw_lentpages_k22_chooser_clock).prog [13]) (H := Law.hk) (ob := Law.ob) (M := 100000) (loose := Law.loose) (d := HandSHeadRun.topDef (OpenLaw.row PySem.Challenge.rw_lentpages_k22_chooser_clock).prog 13) (kwd := []) Law.ob_eq
    (by kernel_rfl) (fun s => by kernel_rfl) Law.run (by kernel_rfl) (by kernel_rfl) (by kernel_rfl) (by rfl) (by first | assumption | decide +kernel) (by decide +kernel) ⟨rfl, rfl, rfl, rfl, rfl, by decide +kernel⟩ ?hw ?hc
  case hw => w_witness2
  case hc =>
    refine L2.walk_ofE (l := PySem.Challenge.rw_lentpages_k22_chooser_clock) (n := 63) (k := 7) (x := "_law_script") (CX := L2.CX0) rfl (by decide) (by kernel_rfl) ⟨rfl, by decide, by decide⟩ ?F (fun _ _ _ _ z => z)
    intro w mg fa h Y G hmg0
    obtain ⟨K, KX, c⟩ := Y
    have hmg : mg ("law" : PySem.Str) = some (.ref fa) := by
      have e : (HandSHeadRun.topDef (OpenLaw.row PySem.Challenge.rw_lentpages_k22_chooser_clock).prog 13).name = ("law" : PySem.Str) := by kernel_rfl
      rw [← e]
      exact hmg0
    have T : Law.TX K mg := My.TxE.of KX G c
    have e := hmg.symm.trans (Law.gl_law T)
    cases e
    obtain ⟨fd, F, _⟩ := Law.fn_lawS (P := (PySem.Challenge.rw_lentpages_k22_chooser_clock).prog) (w := w) (base := h) T
    exact ⟨K, fd, My.spLaw K, KX, fun s v => L2.FunD.bindsA (ps := ["_law_script"]) F (fun _ _ _ _ _ _ us hl => match us, hl with | [_], _ => rfl) s [v] rfl, fun H a ns hl _ hS => ⟨a, ns, rfl, hS, hl, fun _ => rfl⟩, fun base _ _ => by
      obtain ⟨fd2, F2, h2⟩ := Law.fn_lawS (P := (PySem.Challenge.rw_lentpages_k22_chooser_clock).prog) (w := w) (base := base) T
      have ef := My.FunD.same F F2
      subst ef
      exact h2⟩
#print axioms PySem.Challenge.cw_lentpages_k22_chooser_clock_holds
